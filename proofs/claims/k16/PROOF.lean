import PyProof.Rows.All
import Wide.All
import OpenK.AllK
import Wide.FinOn
import HandS.ForMost
import HandS.ForExc
import HandS.Wide
import HandS.IsInst
import HandS.TupAny
import HandS.TupLe
import HandS.CallSlots
import HandS.EndBits
import HandS.Deep
import HandS.SortInts
import HandS.ExcOwn
import HandS.ExcIs
import KE.KRevSl
import HandS.TupMul
import KE.DataCmp
import HandS.NamedTupSort
import KE.KSortTupAny
import HandS.Zip
import HandS.SetFor
import HandS.Strs
import HandS.SortKw
import PyProof.MinMaxWalk
import PyProof.WalkInts
import KE.GoesMore
import HandS.Conv
import HandS.RaiseMore
import HandS.NoneIn
import KE.BitLaws
import PySem.Challenge.RW_manyleast_k16_gatherings_led
set_option Elab.async false
set_option linter.all false
set_option maxRecDepth 100000
/-! Zn: a little evaluator of the program's own text over plain data, and that the model keeps it. Part 1: data, situations. -/
namespace Zn
open PySem PySem.Spec PyProof.Rows L2

/-- plain data: numbers, truths, texts, tuples, lists that stand; the script; a dict (opaque); a list of our own that may be changed, by its place -/
inductive D where
  | non | bl (b : Bool) | int (i : Int) | str (s : Str) | tup (xs : List D) | lst (xs : List D) | scr (ns : List Int) | dct | ref (l : Nat)
inductive Cell where
  | lst (xs : List D)
  /-- a list of our own that is changed no more -/
  | fz (xs : List D)
abbrev Store := List (Option Cell)

def D.isRef : D → Bool
  | .ref _ => true
  | _ => false
@[simp] theorem isRef_non : D.isRef .non = false := rfl
@[simp] theorem isRef_bl (b : Bool) : D.isRef (.bl b) = false := rfl
@[simp] theorem isRef_int (i : Int) : D.isRef (.int i) = false := rfl
@[simp] theorem isRef_str (s : Str) : D.isRef (.str s) = false := rfl
@[simp] theorem isRef_tup (xs : List D) : D.isRef (.tup xs) = false := rfl
@[simp] theorem isRef_lst (xs : List D) : D.isRef (.lst xs) = false := rfl
@[simp] theorem isRef_scr (xs : List Int) : D.isRef (.scr xs) = false := rfl
@[simp] theorem isRef_dct : D.isRef .dct = false := rfl
@[simp] theorem isRef_ref (l : Nat) : D.isRef (.ref l) = true := rfl

structure Sit where
  r : List Addr
  st : Store
  H : Hp
/-- an address that may be changed -/
def Sit.M (s : Sit) (a : Addr) : Prop := ∃ (l : Nat) (c : List D), s.st[l]? = some (some (.lst c)) ∧ s.r[l]? = some a

/-- a list of the written part -/
def KL (K : PySem.W.Frag) (a : Addr) (xs : List V) : Prop :=
  ∃ (o : Obj) (its : Array Value) (n : Nat), K.lookup a = some o ∧ o.cls = .type "list" ∧ o.dict = none ∧ o.data = .seq its n ∧ its.size ≤ sizeLine ∧ Vals xs its.toList

mutual
inductive RD (K : PySem.W.Frag) (H : Hp) (M : Addr → Prop) : D → V → Prop
  | non : RD K H M .non .non
  | bl (b : Bool) : RD K H M (.bl b) (.bl b)
  | int (i : Int) : RD K H M (.int i) (.int i)
  | str (x : Str) : RD K H M (.str x) (.str x)
  | tup {a : Addr} {xs : List D} {vs : List V} : SqT K H a vs → RDs K H M xs vs → RD K H M (.tup xs) (.ref a)
  | lst {a : Addr} {xs : List D} {vs : List V} : H a = some (.lst vs) → ¬ M a → RDs K H M xs vs → RD K H M (.lst xs) (.ref a)
  | scr {a : Addr} {ns : List Int} : ((∃ o, H a = some (.frz o (.lst (ns.map V.int)))) ∨ KL K a (ns.map V.int)) → RD K H M (.scr ns) (.ref a)
  | dct {a : Addr} {kvs : List (Key × V)} : H a = some (.dK kvs) → ¬ M a → RD K H M .dct (.ref a)
inductive RDs (K : PySem.W.Frag) (H : Hp) (M : Addr → Prop) : List D → List V → Prop
  | nil : RDs K H M [] []
  | cons {x : D} {v : V} {xs : List D} {vs : List V} : RD K H M x v → RDs K H M xs vs → RDs K H M (x :: xs) (v :: vs)
end

inductive Rep (K : PySem.W.Frag) (s : Sit) : D → V → Prop
  | ref {l : Nat} {a : Addr} : s.r[l]? = some a → Rep K s (.ref l) (.ref a)
  | dat {d : D} {v : V} : RD K s.H s.M d v → Rep K s d v

abbrev Reps (K : PySem.W.Frag) (s : Sit) : List D → List V → Prop := Paired (Rep K s)

def CellOk (K : PySem.W.Frag) (s : Sit) (a : Addr) : Cell → Prop
  | .lst xs => ∃ vs, s.H a = some (.lst vs) ∧ RDs K s.H s.M xs vs
  | .fz xs => ∃ vs, s.H a = some (.lst vs) ∧ RDs K s.H s.M xs vs
/-- what is in a cell -/
def Cell.xs : Cell → List D
  | .lst xs => xs
  | .fz xs => xs
theorem cellOk_iff {K : PySem.W.Frag} {s : Sit} {a : Addr} {c : Cell} : CellOk K s a c ↔ ∃ vs, s.H a = some (.lst vs) ∧ RDs K s.H s.M c.xs vs := by
  cases c <;> exact Iff.rfl

structure Sit.Ok (K : PySem.W.Frag) (s : Sit) : Prop where
  len : s.r.length = s.st.length
  nd : s.r.Nodup
  there : ∀ a ∈ s.r, s.H a ≠ none
  cell : ∀ (l : Nat) (c : Cell) (a : Addr), s.st[l]? = some (some c) → s.r[l]? = some a → CellOk K s a c

structure Sit.Le (s s' : Sit) : Prop where
  pre : ∀ (l : Nat) (a : Addr), s.r[l]? = some a → s'.r[l]? = some a
  keep : ∀ a o, s.H a = some o → ¬ s.M a → s'.H a = some o ∧ ¬ s'.M a
  stay : ∀ a, s.H a ≠ none → s'.H a ≠ none

section
variable {K : PySem.W.Frag} {s s' s'' : Sit}
theorem Sit.Le.refl (s : Sit) : s.Le s := ⟨fun _ _ h => h, fun _ _ h n => ⟨h, n⟩, fun _ h => h⟩
theorem Sit.Le.trans (a : s.Le s') (b : s'.Le s'') : s.Le s'' :=
  ⟨fun l x h => b.pre l x (a.pre l x h), fun x o h n => let ⟨h1, n1⟩ := a.keep x o h n; b.keep x o h1 n1, fun x h => b.stay x (a.stay x h)⟩

theorem Sit.Ok.mlst (ok : s.Ok K) {a : Addr} (m : s.M a) : ∃ vs, s.H a = some (.lst vs) := by
  obtain ⟨l, c, h1, h2⟩ := m
  obtain ⟨vs, h, _⟩ := ok.cell l _ a h1 h2
  exact ⟨vs, h⟩
theorem Sit.Le.rd (ok : s.Ok K) (e : s.Le s') {a : Addr} {u : HO} (h : Rd s.H a u) (hu : ∀ vs, u ≠ .lst vs) : Rd s'.H a u := by
  rcases h with h | ⟨o, h⟩
  · refine .inl (e.keep a _ h fun m => ?_).1
    obtain ⟨vs, q⟩ := ok.mlst m
    rw [h] at q
    exact hu vs (Option.some.inj q)
  · refine .inr ⟨o, (e.keep a _ h fun m => ?_).1⟩
    obtain ⟨vs, q⟩ := ok.mlst m
    rw [h] at q
    cases q
theorem Sit.Le.sqT (ok : s.Ok K) (e : s.Le s') {a : Addr} {vs : List V} (h : SqT K s.H a vs) : SqT K s'.H a vs := by
  rcases h with h | h
  · exact .inl (e.rd ok h fun _ z => by cases z)
  · exact .inr h
mutual
theorem RD.le (ok : s.Ok K) (e : s.Le s') : ∀ {d : D} {v : V}, RD K s.H s.M d v → RD K s'.H s'.M d v
  | _, _, .non => .non
  | _, _, .bl b => .bl b
  | _, _, .int i => .int i
  | _, _, .str x => .str x
  | _, _, .tup h r => .tup (e.sqT ok h) (RDs.le ok e r)
  | _, _, .lst h n r => .lst (e.keep _ _ h n).1 (e.keep _ _ h n).2 (RDs.le ok e r)
  | _, _, .scr h => .scr (by
      rcases h with ⟨o, h⟩ | h
      · refine .inl ⟨o, (e.keep _ _ h fun m => ?_).1⟩
        obtain ⟨vs, q⟩ := ok.mlst m
        rw [h] at q
        cases q
      · exact .inr h)
  | _, _, .dct h n => .dct (e.keep _ _ h n).1 (e.keep _ _ h n).2
theorem RDs.le (ok : s.Ok K) (e : s.Le s') : ∀ {ds : List D} {vs : List V}, RDs K s.H s.M ds vs → RDs K s'.H s'.M ds vs
  | _, _, .nil => .nil
  | _, _, .cons h r => .cons (RD.le ok e h) (RDs.le ok e r)
end
theorem Rep.le (ok : s.Ok K) (e : s.Le s') {d : D} {v : V} (h : Rep K s d v) : Rep K s' d v := by
  cases h with
  | ref h => exact .ref (e.pre _ _ h)
  | dat h => exact .dat (h.le ok e)
theorem Reps.le (ok : s.Ok K) (e : s.Le s') {ds : List D} {vs : List V} (h : Reps K s ds vs) : Reps K s' ds vs := by
  induction h with
  | nil => exact .nil
  | cons a _ ih => exact .cons (a.le ok e) ih
theorem Rep.rd {d : D} {v : V} (h : Rep K s d v) (n : d.isRef = false) : RD K s.H s.M d v := by
  cases h with
  | ref h => cases n
  | dat h => exact h
theorem Reps.rds {ds : List D} {vs : List V} (h : Reps K s ds vs) (n : ds.all (fun d => !d.isRef) = true) : RDs K s.H s.M ds vs := by
  induction h with
  | nil => exact .nil
  | cons a _ ih =>
    rw [List.all_cons, Bool.and_eq_true] at n
    exact .cons (a.rd (by simpa using n.1)) (ih n.2)
theorem RD.noref {H : Hp} {M : Addr → Prop} {d : D} {v : V} (h : RD K H M d v) : d.isRef = false := by cases h <;> rfl
theorem RDs.noref {H : Hp} {M : Addr → Prop} : ∀ {ds : List D} {vs : List V}, RDs K H M ds vs → ds.all (fun d => !d.isRef) = true
  | _, _, .nil => rfl
  | _, _, .cons h r => by rw [List.all_cons, h.noref, RDs.noref r]; rfl
theorem RDs.length {H : Hp} {M : Addr → Prop} : ∀ {ds : List D} {vs : List V}, RDs K H M ds vs → ds.length = vs.length
  | _, _, .nil => rfl
  | _, _, .cons _ r => congrArg (· + 1) (RDs.length r)
theorem RDs.get {H : Hp} {M : Addr → Prop} : ∀ {ds : List D} {vs : List V} {i : Nat} {d : D}, RDs K H M ds vs → ds[i]? = some d → ∃ v, vs[i]? = some v ∧ RD K H M d v
  | _, _, _, _, .nil, e => by simp at e
  | _, _, 0, _, .cons h _, e => by simp at e; subst e; exact ⟨_, rfl, h⟩
  | _, _, i + 1, _, .cons _ r, e => by
    obtain ⟨v, h1, h2⟩ := RDs.get (i := i) r (by simpa using e)
    exact ⟨v, by simpa using h1, h2⟩
theorem RDs.getV {H : Hp} {M : Addr → Prop} : ∀ {ds : List D} {vs : List V} {i : Nat} {v : V}, RDs K H M ds vs → vs[i]? = some v → ∃ d, ds[i]? = some d ∧ RD K H M d v
  | _, _, _, _, .nil, e => by simp at e
  | _, _, 0, _, .cons h _, e => by simp at e; subst e; exact ⟨_, rfl, h⟩
  | _, _, i + 1, _, .cons _ r, e => by
    obtain ⟨v, h1, h2⟩ := RDs.getV (i := i) r (by simpa using e)
    exact ⟨v, by simpa using h1, h2⟩
theorem RDs.append {H : Hp} {M : Addr → Prop} : ∀ {xs ys : List D} {us vs : List V}, RDs K H M xs us → RDs K H M ys vs → RDs K H M (xs ++ ys) (us ++ vs)
  | _, _, _, _, .nil, h => h
  | _, _, _, _, .cons a r, h => .cons a (RDs.append r h)
theorem RDs.take {H : Hp} {M : Addr → Prop} : ∀ {xs : List D} {us : List V} (n : Nat), RDs K H M xs us → RDs K H M (xs.take n) (us.take n)
  | _, _, 0, _ => .nil
  | _, _, _ + 1, .nil => .nil
  | _, _, n + 1, .cons a r => .cons a (RDs.take n r)
theorem RDs.drop {H : Hp} {M : Addr → Prop} : ∀ {xs : List D} {us : List V} (n : Nat), RDs K H M xs us → RDs K H M (xs.drop n) (us.drop n)
  | _, _, 0, h => h
  | _, _, _ + 1, .nil => .nil
  | _, _, n + 1, .cons _ r => RDs.drop n r
theorem RDs.set {H : Hp} {M : Addr → Prop} {x : D} {v : V} (h : RD K H M x v) : ∀ {xs : List D} {us : List V} (n : Nat), RDs K H M xs us → RDs K H M (xs.set n x) (us.set n v)
  | _, _, _, .nil => .nil
  | _, _, 0, .cons _ r => .cons h r
  | _, _, n + 1, .cons a r => .cons a (RDs.set h n r)
theorem RDs.reps : ∀ {ds : List D} {vs : List V}, RDs K s.H s.M ds vs → Reps K s ds vs
  | _, _, .nil => .nil
  | _, _, .cons a r => .cons (.dat a) (RDs.reps r)
theorem RDs.ints {H : Hp} {M : Addr → Prop} : ∀ {ns : List Int} {vs : List V}, RDs K H M (ns.map D.int) vs → vs = ns.map V.int
  | [], _, .nil => rfl
  | n :: ns, _, .cons a r => by
    cases a
    rw [RDs.ints r]
    rfl
theorem RDs.of_ints {H : Hp} {M : Addr → Prop} : ∀ {ns : List Int}, RDs K H M (ns.map D.int) (ns.map V.int)
  | [] => .nil
  | n :: ns => .cons (.int n) RDs.of_ints
theorem RDs.bools {H : Hp} {M : Addr → Prop} : ∀ {ns : List Bool} {vs : List V}, RDs K H M (ns.map D.bl) vs → vs = ns.map V.bl
  | [], _, .nil => rfl
  | n :: ns, _, .cons a r => by
    cases a
    rw [RDs.bools r]
    rfl
theorem RDs.strs {H : Hp} {M : Addr → Prop} : ∀ {ns : List Str} {vs : List V}, RDs K H M (ns.map D.str) vs → vs = ns.map V.str
  | [], _, .nil => rfl
  | n :: ns, _, .cons a r => by
    cases a
    rw [RDs.strs r]
    rfl

/-! ### situations that follow -/
/-- an object of ours that is not to be changed -/
def Sit.put (s : Sit) (p : Addr) (o : HO) : Sit := ⟨s.r, s.st, upd s.H p o⟩
theorem Sit.notM (ok : s.Ok K) {p : Addr} (hp : s.H p = none) : ¬ s.M p := fun m => by
  obtain ⟨vs, h⟩ := ok.mlst m
  rw [hp] at h
  cases h
theorem Sit.put_le {p : Addr} {o : HO} (hp : s.H p = none) : s.Le (s.put p o) :=
  ⟨fun _ _ h => h, fun a u h n => ⟨by show upd s.H p o a = _; rw [upd_ne (ne_of_none h hp)]; exact h, n⟩, fun a h => by
    show upd s.H p o a ≠ none
    by_cases e : a = p
    · subst e; rw [upd_same]; exact fun z => by cases z
    · rw [upd_ne e]; exact h⟩
theorem Sit.put_ok (ok : s.Ok K) {p : Addr} {o : HO} (hp : s.H p = none) : (s.put p o).Ok K := by
  refine ⟨ok.len, ok.nd, fun a ha => (Sit.put_le hp).stay a (ok.there a ha), fun l c a h1 h2 => ?_⟩
  obtain ⟨vs, h, r⟩ := cellOk_iff.mp (ok.cell l c a h1 h2)
  exact cellOk_iff.mpr ⟨vs, by show upd s.H p o a = _; rw [upd_ne (ne_of_none h hp)]; exact h, r.le ok (Sit.put_le hp)⟩
/-- a new list of our own -/
def Sit.new (s : Sit) (p : Addr) (xs : List D) (vs : List V) : Sit := ⟨s.r ++ [p], s.st ++ [some (.lst xs)], upd s.H p (.lst vs)⟩
theorem getE_append {α : Type} {l : List α} {x : α} {i : Nat} {y : α} (h : (l ++ [x])[i]? = some y) : l[i]? = some y ∨ (i = l.length ∧ y = x) := by
  by_cases hi : i < l.length
  · rw [List.getElem?_append_left hi] at h
    exact .inl h
  · rw [List.getElem?_append_right (by omega)] at h
    by_cases e : i - l.length = 0
    · rw [e] at h
      exact .inr ⟨by omega, (Option.some.inj h).symm⟩
    · obtain ⟨k, hk⟩ : ∃ k, i - l.length = k + 1 := ⟨i - l.length - 1, by omega⟩
      rw [hk] at h
      simp at h
theorem getE_left {α : Type} {l t : List α} {i : Nat} {y : α} (h : l[i]? = some y) : (l ++ t)[i]? = some y := by
  rw [List.getElem?_append_left (List.getElem?_eq_some_iff.mp h).1]
  exact h
theorem Sit.new_M (ok : s.Ok K) {p a : Addr} {xs : List D} {vs : List V} : (s.new p xs vs).M a ↔ s.M a ∨ a = p := by
  constructor
  · rintro ⟨l, c, h1, h2⟩
    have h1 : (s.st ++ [some (.lst xs)])[l]? = some (some (.lst c)) := h1
    have h2 : (s.r ++ [p])[l]? = some a := h2
    rcases getE_append h1 with h1 | ⟨e1, _⟩
    · rcases getE_append h2 with h2 | ⟨e2, _⟩
      · exact .inl ⟨l, c, h1, h2⟩
      · have := (List.getElem?_eq_some_iff.mp h1).1
        rw [e2, ok.len] at this
        exact absurd this (Nat.lt_irrefl _)
    · rcases getE_append h2 with h2 | ⟨e2, q⟩
      · have := (List.getElem?_eq_some_iff.mp h2).1
        rw [e1, ok.len] at this
        exact absurd this (Nat.lt_irrefl _)
      · exact .inr q
  · rintro (⟨l, c, h1, h2⟩ | rfl)
    · exact ⟨l, c, getE_left h1, getE_left h2⟩
    · refine ⟨s.st.length, xs, ?_, ?_⟩
      · show (s.st ++ [some (.lst xs)])[s.st.length]? = _
        simp
      · show (s.r ++ [a])[s.st.length]? = _
        rw [← ok.len]
        simp
theorem Sit.new_le (ok : s.Ok K) {p : Addr} {xs : List D} {vs : List V} (hp : s.H p = none) : s.Le (s.new p xs vs) := by
  refine ⟨fun _ _ h => getE_left h, fun a u h n => ⟨?_, fun m => ?_⟩, fun a h => ?_⟩
  · show upd s.H p _ a = _
    rw [upd_ne (ne_of_none h hp)]
    exact h
  · rcases (Sit.new_M ok).mp m with m | rfl
    · exact n m
    · rw [hp] at h
      cases h
  · show upd s.H p _ a ≠ none
    by_cases e : a = p
    · subst e; rw [upd_same]; exact fun z => by cases z
    · rw [upd_ne e]; exact h
theorem Sit.new_ok (ok : s.Ok K) {p : Addr} {xs : List D} {vs : List V} (hp : s.H p = none) (r : RDs K s.H s.M xs vs) : (s.new p xs vs).Ok K := by
  have le := Sit.new_le ok (xs := xs) (vs := vs) hp
  refine ⟨?_, ?_, fun a ha => ?_, fun l c a h1 h2 => ?_⟩
  · show (s.r ++ [p]).length = (s.st ++ [_]).length
    rw [List.length_append, List.length_append, ok.len]
    rfl
  · show (s.r ++ [p]).Nodup
    rw [List.nodup_append]
    refine ⟨ok.nd, by simp, fun a ha b hb e => ?_⟩
    have : b = p := by simpa using hb
    subst this
    subst e
    exact ok.there a ha hp
  · have ha : a ∈ s.r ++ [p] := ha
    rcases List.mem_append.mp ha with ha | ha
    · exact le.stay a (ok.there a ha)
    · have : a = p := by simpa using ha
      subst this
      show upd s.H a _ a ≠ none
      rw [upd_same]
      exact fun z => by cases z
  · have h1 : (s.st ++ [some (.lst xs)])[l]? = some (some c) := h1
    have h2 : (s.r ++ [p])[l]? = some a := h2
    rcases getE_append h1 with h1 | ⟨e1, q1⟩
    · have h2 : s.r[l]? = some a := by
        rcases getE_append h2 with h2 | ⟨e2, _⟩
        · exact h2
        · have := (List.getElem?_eq_some_iff.mp h1).1
          rw [e2, ok.len] at this
          exact absurd this (Nat.lt_irrefl _)
      obtain ⟨us, h, r'⟩ := cellOk_iff.mp (ok.cell l c a h1 h2)
      refine cellOk_iff.mpr ⟨us, ?_, r'.le ok le⟩
      show upd s.H p _ a = _
      rw [upd_ne (ne_of_none h hp)]
      exact h
    · have ea : a = p := by
        rcases getE_append h2 with h2 | ⟨e2, q⟩
        · have := (List.getElem?_eq_some_iff.mp h2).1
          rw [e1, ok.len] at this
          exact absurd this (Nat.lt_irrefl _)
        · exact q
      have ec : c = .lst xs := Option.some.inj q1
      subst ec ea
      exact ⟨vs, upd_same, r.le ok le⟩
theorem Sit.new_at (ok : s.Ok K) {p : Addr} {xs : List D} {vs : List V} : Rep K (s.new p xs vs) (.ref s.st.length) (.ref p) := by
  refine .ref ?_
  show (s.r ++ [p])[s.st.length]? = _
  rw [← ok.len]
  simp
/-- a list of our own changed -/
def Sit.chg (s : Sit) (l : Nat) (a : Addr) (xs : List D) (vs : List V) : Sit := ⟨s.r, s.st.set l (some (.lst xs)), upd s.H a (.lst vs)⟩
theorem nodup_at {l : List Addr} (hN : l.Nodup) {i j : Nat} {x : Addr} (a : l[i]? = some x) (b : l[j]? = some x) : i = j := by
  obtain ⟨h1, e1⟩ := List.getElem?_eq_some_iff.mp a
  obtain ⟨h2, e2⟩ := List.getElem?_eq_some_iff.mp b
  exact (List.getElem_inj hN).mp (e1.trans e2.symm)
theorem Sit.chg_M (ok : s.Ok K) {l : Nat} {a b : Addr} {c : List D} {xs : List D} {vs : List V} (hc : s.st[l]? = some (some (.lst c))) (ha : s.r[l]? = some a) : (s.chg l a xs vs).M b ↔ s.M b := by
  constructor
  · rintro ⟨m, c', h1, h2⟩
    by_cases e : m = l
    · subst e
      exact ⟨m, c, hc, h2⟩
    · refine ⟨m, c', ?_, h2⟩
      have h1 : (s.st.set l (some (.lst xs)))[m]? = some (some (.lst c')) := h1
      rw [List.getElem?_set_ne (Ne.symm e)] at h1
      exact h1
  · rintro ⟨m, c', h1, h2⟩
    by_cases e : m = l
    · subst e
      refine ⟨m, xs, ?_, h2⟩
      show (s.st.set m (some (.lst xs)))[m]? = _
      rw [List.getElem?_set_self (List.getElem?_eq_some_iff.mp hc).1]
    · refine ⟨m, c', ?_, h2⟩
      show (s.st.set l (some (.lst xs)))[m]? = _
      rw [List.getElem?_set_ne (Ne.symm e)]
      exact h1
theorem Sit.chg_le (ok : s.Ok K) {l : Nat} {a : Addr} {c : List D} {xs : List D} {vs : List V} (hc : s.st[l]? = some (some (.lst c))) (ha : s.r[l]? = some a) : s.Le (s.chg l a xs vs) := by
  refine ⟨fun _ _ h => h, fun b o h n => ⟨?_, fun m => n ((Sit.chg_M ok hc ha).mp m)⟩, fun b h => ?_⟩
  · show upd s.H a _ b = _
    have : b ≠ a := fun e => n ⟨l, c, hc, by rw [e]; exact ha⟩
    rw [upd_ne this]
    exact h
  · show upd s.H a _ b ≠ none
    by_cases e : b = a
    · subst e; rw [upd_same]; exact fun z => by cases z
    · rw [upd_ne e]; exact h
theorem Sit.chg_ok (ok : s.Ok K) {l : Nat} {a : Addr} {c : List D} {xs : List D} {vs : List V} (hc : s.st[l]? = some (some (.lst c))) (ha : s.r[l]? = some a) (r : RDs K s.H s.M xs vs) : (s.chg l a xs vs).Ok K := by
  have le := Sit.chg_le ok (xs := xs) (vs := vs) hc ha
  refine ⟨by show s.r.length = (s.st.set l _).length; rw [List.length_set]; exact ok.len, ok.nd, fun b hb => le.stay b (ok.there b hb), fun m c' b h1 h2 => ?_⟩
  by_cases e : m = l
  · subst e
    have h1 : (s.st.set m (some (.lst xs)))[m]? = some (some c') := h1
    rw [List.getElem?_set_self (List.getElem?_eq_some_iff.mp hc).1] at h1
    have e1 : c' = .lst xs := (Option.some.inj (Option.some.inj h1)).symm
    have e2 : b = a := Option.some.inj ((show s.r[m]? = some b from h2).symm.trans ha)
    subst e1 e2
    exact ⟨vs, upd_same, r.le ok le⟩
  · have h1 : (s.st.set l (some (.lst xs)))[m]? = some (some c') := h1
    rw [List.getElem?_set_ne (Ne.symm e)] at h1
    have h2 : s.r[m]? = some b := h2
    obtain ⟨us, h, r'⟩ := cellOk_iff.mp (ok.cell m c' b h1 h2)
    have ne : b ≠ a := fun z => e (nodup_at ok.nd h2 (by rw [z]; exact ha))
    refine cellOk_iff.mpr ⟨us, ?_, r'.le ok le⟩
    show upd s.H a _ b = _
    rw [upd_ne ne]
    exact h
/-- a list of our own that will be changed no more -/
def Sit.kill (s : Sit) (l : Nat) (xs : List D) : Sit := ⟨s.r, s.st.set l (some (.fz xs)), s.H⟩
theorem kill_at {st : Store} {l m : Nat} {xs ys : List D} (h1 : (st.set l (some (.fz xs)))[m]? = some (some (.lst ys))) : m ≠ l ∧ st[m]? = some (some (.lst ys)) := by
  by_cases e : m = l
  · subst e
    by_cases hl : m < st.length
    · rw [List.getElem?_set_self hl] at h1
      cases h1
    · rw [List.getElem?_eq_none (by simpa using hl)] at h1
      cases h1
  · rw [List.getElem?_set_ne (Ne.symm e)] at h1
    exact ⟨e, h1⟩
theorem Sit.kill_M {l : Nat} {xs : List D} {b : Addr} (m : (s.kill l xs).M b) : s.M b := by
  obtain ⟨m, c, h1, h2⟩ := m
  exact ⟨m, c, (kill_at h1).2, h2⟩
theorem Sit.kill_no (ok : s.Ok K) {l : Nat} {xs : List D} {a : Addr} (ha : s.r[l]? = some a) : ¬ (s.kill l xs).M a := by
  rintro ⟨m, c, h1, h2⟩
  exact (kill_at h1).1 (nodup_at ok.nd h2 ha)
theorem Sit.kill_le {l : Nat} {xs : List D} : s.Le (s.kill l xs) := ⟨fun _ _ h => h, fun _ _ h n => ⟨h, fun m => n (Sit.kill_M m)⟩, fun _ h => h⟩
theorem Sit.kill_ok (ok : s.Ok K) {l : Nat} {xs : List D} (hc : s.st[l]? = some (some (.lst xs))) : (s.kill l xs).Ok K := by
  refine ⟨by show s.r.length = (s.st.set l _).length; rw [List.length_set]; exact ok.len, ok.nd, ok.there, fun m c b h1 h2 => ?_⟩
  have h1 : (s.st.set l (some (.fz xs)))[m]? = some (some c) := h1
  by_cases e : m = l
  · subst e
    rw [List.getElem?_set_self (List.getElem?_eq_some_iff.mp hc).1] at h1
    have ec : c = .fz xs := (Option.some.inj (Option.some.inj h1)).symm
    subst ec
    obtain ⟨us, h, r'⟩ := ok.cell m _ b hc h2
    exact ⟨us, h, r'.le ok Sit.kill_le⟩
  · rw [List.getElem?_set_ne (Ne.symm e)] at h1
    obtain ⟨us, h, r'⟩ := cellOk_iff.mp (ok.cell m c b h1 h2)
    exact cellOk_iff.mpr ⟨us, h, r'.le ok Sit.kill_le⟩
/-- only the first lists of our own -/
def Sit.cut (s : Sit) (n : Nat) : Sit := ⟨s.r.take n, s.st.take n, s.H⟩
theorem getE_take {α : Type} {l : List α} {n i : Nat} {y : α} (h : (l.take n)[i]? = some y) : l[i]? = some y ∧ i < n := by
  rw [List.getElem?_take] at h
  split at h
  · exact ⟨h, by assumption⟩
  · cases h
theorem Sit.cut_M {n : Nat} {b : Addr} (m : (s.cut n).M b) : s.M b := by
  obtain ⟨l, c, h1, h2⟩ := m
  exact ⟨l, c, (getE_take h1).1, (getE_take h2).1⟩
theorem RD_weaken {H : Hp} {M M' : Addr → Prop} (hm : ∀ a, M' a → M a) : (∀ {d : D} {v : V}, RD K H M d v → RD K H M' d v) ∧ (∀ {ds : List D} {vs : List V}, RDs K H M ds vs → RDs K H M' ds vs) := by
  constructor
  · intro d v h
    induction h using RD.rec (motive_2 := fun ds vs _ => RDs K H M' ds vs) with
    | non => exact .non
    | bl b => exact .bl b
    | int i => exact .int i
    | str x => exact .str x
    | tup h _ ih => exact .tup h ih
    | lst h n _ ih => exact .lst h (fun m => n (hm _ m)) ih
    | scr h => exact .scr h
    | dct h n => exact .dct h fun m => n (hm _ m)
    | nil => exact .nil
    | cons _ _ a b => exact .cons a b
  · intro ds vs h
    induction h using RDs.rec (motive_1 := fun d v _ => RD K H M' d v) with
    | non => exact .non
    | bl b => exact .bl b
    | int i => exact .int i
    | str x => exact .str x
    | tup h _ ih => exact .tup h ih
    | lst h n _ ih => exact .lst h (fun m => n (hm _ m)) ih
    | scr h => exact .scr h
    | dct h n => exact .dct h fun m => n (hm _ m)
    | nil => exact .nil
    | cons _ _ a b => exact .cons a b
theorem Sit.cut_ok (ok : s.Ok K) (n : Nat) : (s.cut n).Ok K := by
  refine ⟨by show (s.r.take n).length = (s.st.take n).length; rw [List.length_take, List.length_take, ok.len], ?_, fun a ha => ok.there a (List.mem_of_mem_take ha), fun l c a h1 h2 => ?_⟩
  · exact (List.take_sublist n s.r).nodup ok.nd
  · obtain ⟨us, h, r'⟩ := cellOk_iff.mp (ok.cell l c a (getE_take h1).1 (getE_take h2).1)
    exact cellOk_iff.mpr ⟨us, h, (RD_weaken fun _ m => Sit.cut_M m).2 r'⟩
theorem Sit.cut_rd {n : Nat} {d : D} {v : V} (h : RD K s.H s.M d v) : RD K (s.cut n).H (s.cut n).M d v := (RD_weaken fun _ m => Sit.cut_M m).1 h
theorem Sit.cut_rds {n : Nat} {d : List D} {v : List V} (h : RDs K s.H s.M d v) : RDs K (s.cut n).H (s.cut n).M d v := (RD_weaken fun _ m => Sit.cut_M m).2 h
/-- from s on to s', and only the lists of s kept -/
theorem Sit.cut_le (ok : s.Ok K) (ok' : s'.Ok K) (e : s.Le s') : s.Le (s'.cut s.st.length) := by
  refine ⟨fun l a h => ?_, fun a o h n => ⟨(e.keep a o h n).1, fun m => (e.keep a o h n).2 (Sit.cut_M m)⟩, fun a h => e.stay a h⟩
  show (s'.r.take s.st.length)[l]? = some a
  have hl : l < s.st.length := by rw [← ok.len]; exact (List.getElem?_eq_some_iff.mp h).1
  rw [List.getElem?_take_of_lt hl]
  exact e.pre l a h
end
end Zn

set_option maxHeartbeats 4000000
/-! Zn, part V: a tuple times 0, 1. -/
namespace Zn
open PySem PySem.Spec PyProof.Rows L2
theorem tuple_mul1 (l : Addr) (items : Array Value) (n : Nat) (dd : Option Addr) (sl : Array (Option Value)) (u : Tok) :
    Meets (Builtin.«tuple.__mul__» ⟨[.ref l, .int 1 u], []⟩) (fun _ R s => s.heap.get? l = some { cls := .type "tuple", dict := dd, data := .seq items n, slots := sl } ∧
      R (.ok (.ret (Value.ref l))) s) :=
  .of_wp fun prog w A R s h => by
    obtain ⟨hp, g, d, tk, os⟩ := s
    obtain ⟨hl, h⟩ := h
    have f1 := AutoSeq1.idx_int
    have c1 : (items.isEmpty || (1 : Int) == 1) = true := by simp
    wp_walk using wpAny_loadPart' hl
    exact ⟨_, rfl, h⟩
theorem tuple_mul0 (l : Addr) (items : Array Value) (n : Nat) (dd : Option Addr) (sl : Array (Option Value)) (u : Tok) (hi : items.isEmpty = false) :
    Meets (Builtin.«tuple.__mul__» ⟨[.ref l, .int 0 u], []⟩) (fun _ R s => s.heap.get? l = some { cls := .type "tuple", dict := dd, data := .seq items n, slots := sl } ∧
      R (.ok (.ret (Value.ref s.heap.objs.size))) { s with heap := s.heap.push { cls := Value.type "tuple", data := Data.seq #[] }, toks := s.toks }) :=
  .of_wp fun prog w A R s h => by
    obtain ⟨hp, g, d, tk, os⟩ := s
    obtain ⟨hl, h⟩ := h
    have f1 := AutoSeq1.idx_int
    have c1 : (items.isEmpty || (0 : Int) == 1) = false := by rw [hi]; rfl
    wp_walk using wpAny_loadPart' hl
    exact ⟨_, rfl, h⟩
/-- a tuple times 0, 1 -/
def rRepS (K : PySem.W.Frag) : R2 := fun x y H Q => ∃ l k xs, x = .ref l ∧ y = .int k ∧ SqT K H l xs ∧ xs ≠ [] ∧ ((k = 1 ∧ Q (.ref l) H) ∨ (k = 0 ∧ ∀ p, H p = none → Q (.ref p) (upd H p (.tup []))))
section
variable {X : Cx}
theorem op_repS : OpR X (binaryOp .Mult) (rRepS X.K) := by
  intro pins s σ H x y v u Q I rx ry h
  obtain ⟨l, k, xs, rfl, rfl, hT, hne, h⟩ := h
  cases rx
  obtain ⟨t, rfl⟩ := ry
  obtain ⟨its, r, ⟨⟨cls, dd, data, sl⟩, ho, hc, n, hd⟩, hs⟩ := I.tuple hT
  simp only at hc hd
  subst hc hd
  have hle : its.length = xs.length := r.length.symm
  have hn : its ≠ [] := fun e => hne (by
    rw [e] at hle
    exact List.eq_nil_of_length_eq_zero hle.symm)
  have hi : its.toArray.isEmpty = false := by
    cases its with
    | nil => exact absurd rfl hn
    | cons a b => rfl
  rcases h with ⟨rfl, q⟩ | ⟨rfl, q⟩
  · refine wpAny_binaryOp_repeat_ref (T := "tuple") (U := "int") (by decide) ⟨_, ho, rfl⟩ (fun s' => typeIs_int s' 1 t) noFill_tuple_mul F.fills_int_mul F.slot_int_rmul repeat_tuple F.slot_int_index.lookup
      (call_meets F.slot_int_rmul (typeIs_int s 1 t) F.entry_int_rmul (F.args_int_rmul_2 _ _) (int_rmul_tuple 1 t l its.toArray n dd sl)
        ⟨ho, rfl, ⟨_, ho, rfl⟩, call_meets F.slot_tuple_mul ⟨_, ho, rfl⟩ F.entry_tuple_mul (F.args_tuple_mul_2 _ _) (tuple_mul1 l its.toArray n dd sl t) ⟨ho, ?_⟩⟩)
    exact ⟨.ref l, H, I, rfl, q⟩
  · refine wpAny_binaryOp_repeat_ref (T := "tuple") (U := "int") (by decide) ⟨_, ho, rfl⟩ (fun s' => typeIs_int s' 0 t) noFill_tuple_mul F.fills_int_mul F.slot_int_rmul repeat_tuple F.slot_int_index.lookup
      (call_meets F.slot_int_rmul (typeIs_int s 0 t) F.entry_int_rmul (F.args_int_rmul_2 _ _) (int_rmul_tuple 0 t l its.toArray n dd sl)
        ⟨ho, rfl, ⟨_, ho, rfl⟩, call_meets F.slot_tuple_mul ⟨_, ho, rfl⟩ F.entry_tuple_mul (F.args_tuple_mul_2 _ _) (tuple_mul0 l its.toArray n dd sl t hi) ⟨ho, ?_⟩⟩)
    refine ⟨.ref s.heap.objs.size, _, I.laid (t' := s.toks) (o := .tup []) (fun b ob q => Heap.get?_push_of_some _ q) (Nat.le_refl _) ?_, rfl, q _ (I.hok.fresh (Nat.le_refl _))⟩
    exact ⟨by simp, _, .nil, IsTup.new _ _⟩
end
end Zn

/-! Zn, part Q: the order of tuples, the other ways round. -/
namespace Zn
open PySem PySem.Spec PyProof.Rows L2
theorem firstLt_map {e r : Nat → Bool} {fin : Bool} (f : Nat → Nat) : ∀ l : List Nat, SeqAt.firstLt e r fin (l.map f) = SeqAt.firstLt (fun j => e (f j)) (fun j => r (f j)) fin l
  | [] => rfl
  | j :: t => by
    have ih := firstLt_map (e := e) (r := r) (fin := fin) f t
    show (if e (f j) = true then SeqAt.firstLt e r fin (t.map f) else r (f j)) = _
    rw [ih]
    rfl
theorem first_lex : ∀ (ns ms : List Int), SeqAt.firstLt (fun j => decide (ns.getD j 0 = ms.getD j 0)) (fun j => decide (ns.getD j 0 < ms.getD j 0)) (decide (ns.length < ms.length)) (List.range (min ns.length ms.length)) = HT.lexLt ns ms
  | [], [] => rfl
  | [], _ :: _ => by simp [SeqAt.firstLt, HT.lexLt]
  | _ :: _, [] => by simp [SeqAt.firstLt, HT.lexLt]
  | x :: xs, y :: ys => by
    have ih := first_lex xs ys
    rw [HT.lexLt_cons, ← ih, List.length_cons, List.length_cons, Nat.succ_min_succ, List.range_succ_eq_map]
    show (if decide (x = y) = true then SeqAt.firstLt _ _ _ ((List.range (min xs.length ys.length)).map Nat.succ) else decide (x < y)) = _
    rw [firstLt_map]
    by_cases c : x = y
    · simp only [c, decide_true, if_true]
      simp only [Nat.succ_lt_succ_iff]
      rfl
    · simp only [c, decide_false, if_false, Bool.false_eq_true]
def rGtT (K : PySem.W.Frag) : R2 := fun x y H Q => ∃ a b ns ms, x = .ref a ∧ y = .ref b ∧ SqT K H a (ns.map V.int) ∧ SqT K H b (ms.map V.int) ∧ Q (.bl (HT.lexLt ms ns)) H
def rGeT (K : PySem.W.Frag) : R2 := fun x y H Q => ∃ a b ns ms, x = .ref a ∧ y = .ref b ∧ SqT K H a (ns.map V.int) ∧ SqT K H b (ms.map V.int) ∧ Q (.bl (!HT.lexLt ns ms)) H
def rLeT' (K : PySem.W.Frag) : R2 := fun x y H Q => ∃ a b ns ms, x = .ref a ∧ y = .ref b ∧ SqT K H a (ns.map V.int) ∧ SqT K H b (ms.map V.int) ∧ Q (.bl (!HT.lexLt ms ns)) H
section
variable {X : Cx}
theorem two_tups {K : PySem.W.Frag} {ns ms : List Int} {its its2 : List Value} (i1 : IntsAre its ns) (i2 : IntsAre its2 ms) :
    its.toArray.size = ns.length ∧ its2.toArray.size = ms.length ∧ (∀ j (h1 : j < its.toArray.size), ∃ t, its.toArray[j] = .int (ns.getD j 0) t) ∧ (∀ j (h1 : j < its2.toArray.size), ∃ t, its2.toArray[j] = .int (ms.getD j 0) t) :=
  ⟨by rw [List.size_toArray]; exact i1.length, by rw [List.size_toArray]; exact i2.length,
    fun j h1 => PyProof.Rows.IntsAre.int_at i1 _ _ (by simp at h1; simp [h1]), fun j h1 => PyProof.Rows.IntsAre.int_at i2 _ _ (by simp at h1; simp [h1])⟩
theorem eqAt_ints {A : Around} {s : Shared} {a b : Int} {t t' : Tok} : SeqAt.EqAt A s (.int a t) (.int b t') (decide (a = b)) := by
  have z : (a == b) = decide (a = b) := by
    by_cases q : a = b
    · rw [decide_eq_true q]; exact beq_iff_eq.mpr q
    · rw [decide_eq_false q]; exact beq_eq_false_iff_ne.mpr q
  rw [← z]
  exact SeqAt.EqAt.int_int _ _ _ _
theorem firstLt_congr {e r r' : Nat → Bool} {fin : Bool} : ∀ l : List Nat, (∀ j ∈ l, e j = false → r j = r' j) → SeqAt.firstLt e r fin l = SeqAt.firstLt e r' fin l
  | [], _ => rfl
  | j :: t, h => by
    have ih := firstLt_congr (e := e) (r := r) (r' := r') (fin := fin) t fun k hk => h k (by simp [hk])
    show (if e j = true then _ else r j) = (if e j = true then _ else r' j)
    cases c : e j with
    | true => exact ih
    | false => exact h j (by simp) c
theorem first_gt (ns ms : List Int) : SeqAt.firstLt (fun j => decide (ns.getD j 0 = ms.getD j 0)) (fun j => decide (ms.getD j 0 < ns.getD j 0)) (decide (ns.length > ms.length)) (List.range (min ns.length ms.length)) = HT.lexLt ms ns := by
  rw [← first_lex ms ns, Nat.min_comm]
  congr 1
  funext j
  simp only [eq_comm]
theorem first_ge (ns ms : List Int) : SeqAt.firstLt (fun j => decide (ns.getD j 0 = ms.getD j 0)) (fun j => decide (ms.getD j 0 ≤ ns.getD j 0)) (decide (ns.length ≥ ms.length)) (List.range (min ns.length ms.length)) = !HT.lexLt ns ms := by
  rw [← first_lex ns ms, ← SeqAt.firstLt_not]
  have : (!decide (ns.length < ms.length)) = decide (ns.length ≥ ms.length) := by
    by_cases c : ns.length < ms.length <;> simp [c] <;> omega
  rw [this]
  refine firstLt_congr _ fun j _ _ => ?_
  by_cases c : ns.getD j 0 < ms.getD j 0 <;> simp only [c, decide_true, decide_false, Bool.not_true, Bool.not_false, decide_eq_true_eq, decide_eq_false_iff_not] <;> omega
theorem first_le (ns ms : List Int) : SeqAt.firstLt (fun j => decide (ns.getD j 0 = ms.getD j 0)) (fun j => decide (ns.getD j 0 ≤ ms.getD j 0)) (decide (ns.length ≤ ms.length)) (List.range (min ns.length ms.length)) = !HT.lexLt ms ns := by
  rw [← first_ge ms ns, Nat.min_comm]
  congr 1
  funext j
  simp only [eq_comm]
theorem op_gtT (hu : X.A.units < cLine) : OpR X (compareOp .Gt) (rGtT X.K) := by
  intro pins s σ H x y v u Q I rx ry h
  obtain ⟨a, b, ns, ms, rfl, rfl, ha, hb, q⟩ := h
  cases rx
  cases ry
  obtain ⟨its, r1, p1, _⟩ := I.tuple ha
  obtain ⟨its2, r2, p2, _⟩ := I.tuple hb
  obtain ⟨e1, e2, at1, at2⟩ := two_tups (K := X.K) (Vals.ints r1) (Vals.ints r2)
  have R := SeqAt.RcOp.tuples_gt (A := X.A) (s := s) (e := fun j => decide (ns.getD j 0 = ms.getD j 0)) (r := fun j => decide (ms.getD j 0 < ns.getD j 0)) p1 p2 hu (fun j h1 h2 => by
    obtain ⟨t, et⟩ := at1 j h1
    obtain ⟨t', et'⟩ := at2 j h2
    rw [et, et']
    exact eqAt_ints) (fun j h1 h2 _ => by
    obtain ⟨t, et⟩ := at1 j h1
    obtain ⟨t', et'⟩ := at2 j h2
    rw [et, et']
    exact fun _ _ _ _ h => PyProof.Rows.gt_int h)
  rw [e1, e2, first_gt] at R
  exact R X.prog X.w X.xe (EP X pins σ Q) ⟨.bl _, H, I, rfl, q⟩
theorem op_geT (hu : X.A.units < cLine) : OpR X (compareOp .GtE) (rGeT X.K) := by
  intro pins s σ H x y v u Q I rx ry h
  obtain ⟨a, b, ns, ms, rfl, rfl, ha, hb, q⟩ := h
  cases rx
  cases ry
  obtain ⟨its, r1, p1, _⟩ := I.tuple ha
  obtain ⟨its2, r2, p2, _⟩ := I.tuple hb
  obtain ⟨e1, e2, at1, at2⟩ := two_tups (K := X.K) (Vals.ints r1) (Vals.ints r2)
  have R := SeqAt.RcOp.tuples_ge (A := X.A) (s := s) (e := fun j => decide (ns.getD j 0 = ms.getD j 0)) (r := fun j => decide (ms.getD j 0 ≤ ns.getD j 0)) p1 p2 hu (fun j h1 h2 => by
    obtain ⟨t, et⟩ := at1 j h1
    obtain ⟨t', et'⟩ := at2 j h2
    rw [et, et']
    exact eqAt_ints) (fun j h1 h2 _ => by
    obtain ⟨t, et⟩ := at1 j h1
    obtain ⟨t', et'⟩ := at2 j h2
    rw [et, et']
    exact fun _ _ _ _ h => PyProof.Rows.ge_int h)
  rw [e1, e2, first_ge] at R
  exact R X.prog X.w X.xe (EP X pins σ Q) ⟨.bl _, H, I, rfl, q⟩
theorem op_leT' (hu : X.A.units < cLine) : OpR X (compareOp .LtE) (rLeT' X.K) := by
  intro pins s σ H x y v u Q I rx ry h
  obtain ⟨a, b, ns, ms, rfl, rfl, ha, hb, q⟩ := h
  cases rx
  cases ry
  obtain ⟨its, r1, p1, _⟩ := I.tuple ha
  obtain ⟨its2, r2, p2, _⟩ := I.tuple hb
  obtain ⟨e1, e2, at1, at2⟩ := two_tups (K := X.K) (Vals.ints r1) (Vals.ints r2)
  have R := SeqAt.RcOp.tuples_le (A := X.A) (s := s) (e := fun j => decide (ns.getD j 0 = ms.getD j 0)) (r := fun j => decide (ns.getD j 0 ≤ ms.getD j 0)) p1 p2 hu (fun j h1 h2 => by
    obtain ⟨t, et⟩ := at1 j h1
    obtain ⟨t', et'⟩ := at2 j h2
    rw [et, et']
    exact eqAt_ints) (fun j h1 h2 _ => by
    obtain ⟨t, et⟩ := at1 j h1
    obtain ⟨t', et'⟩ := at2 j h2
    rw [et, et']
    exact fun _ _ _ _ h => PyProof.Rows.le_int h)
  rw [e1, e2, first_le] at R
  exact R X.prog X.w X.xe (EP X pins σ Q) ⟨.bl _, H, I, rfl, q⟩
end
end Zn

/-! Zn, part R: a tuple turned about. -/
namespace Zn
open PySem PySem.Spec PyProof.Rows L2 HT
section
variable {prog : Program} {w : World} {A : Around} {E : Value → Shared → Prop} {s : Shared}
theorem places_rev (n : Nat) : Builtin.Slice.slicePlaces ((n : Int) - 1) (-1) (-1) = n := by
  unfold Builtin.Slice.slicePlaces
  have h1 : ¬ ((-1 : Int) > 0) := by omega
  simp only [h1, if_false, show (- -1 : Int) = 1 by decide, Int.ediv_one]
  split <;> omega
theorem sliceApplied_rev {sl : Addr} {vk : Value} {n : Nat} {Q : Int × Int × Nat → Shared → Prop} (hs : s.heap.IsSliceOf sl .none .none vk) (pk : IsPart vk (some (-1)))
    (h : Q ((n : Int) - 1, -1, n) s) : wpAny (model prog w) A (Builtin.Slice.sliceApplied (.ref sl) (pure (n : Int))) Q E s := by
  obtain ⟨os, hos, hcs, hds⟩ := id hs
  unfold Builtin.Slice.sliceApplied Builtin.Slice.sliceFields
  refine wpAny_bind (wpAny_bind (wpAny_field hos hds (x := .none) rfl (wpAny_bind (wpAny_field hos hds (x := .none) rfl (wpAny_bind (wpAny_field hos hds (x := vk) rfl (wpAny_pure ?_)))))))
  refine wpAny_bind (slicePart_ pk ?_)
  show wpAny _ _ (if ((-1 : Int) == 0) = true then _ else _) _ _ s
  rw [if_neg (by decide)]
  refine wpAny_bind (slicePart_none (wpAny_bind (slicePart_none (wpAny_bind (wpAny_pure ?_)))))
  show wpAny _ _ (pure ((n : Int) - 1, (-1 : Int), Builtin.Slice.slicePlaces ((n : Int) - 1) (-1) (-1))) _ _ s
  rw [places_rev]
  exact wpAny_pure h
theorem filterMap_same {α β : Type} {f g : α → Option β} : ∀ l : List α, (∀ x ∈ l, f x = g x) → l.filterMap f = l.filterMap g
  | [], _ => rfl
  | a :: l, h => by rw [List.filterMap_cons, List.filterMap_cons, h a (by simp), filterMap_same l fun x hx => h x (by simp [hx])]
theorem pick_rev (xs : Array Value) : ((List.range xs.size).filterMap fun (m : Nat) => xs[((xs.size : Int) - 1 + (m : Int) * -1).toNat]?).toArray = xs.toList.reverse.toArray := by
  have e : (List.range xs.size).filterMap (fun (m : Nat) => xs[((xs.size : Int) - 1 + (m : Int) * -1).toNat]?) = ((List.range xs.size).map fun k => xs.size - 1 - k).filterMap (xs[·]?) := by
    rw [List.filterMap_map]
    refine filterMap_same _ fun m hm => ?_
    have := List.mem_range.mp hm
    have e : ((xs.size : Int) - 1 + (m : Int) * -1).toNat = xs.size - 1 - m := by omega
    rw [e]
    rfl
  rw [e, PySem.W.krv_range, List.filterMap_reverse, PySem.W.krv_all]
theorem getItem_tuple_rev {t sl : Addr} {items : Array Value} {vk : Value} {Q : Value → Shared → Prop} (ht : IsTup s.heap t items) (hs : s.heap.IsSliceOf sl .none .none vk) (pk : IsPart vk (some (-1)))
    (h : Q (.ref s.heap.objs.size) { s with heap := s.heap.push { cls := .type "tuple", data := .seq items.toList.reverse.toArray } })
    (hsz : items.size ≤ sizeLine) : wpAny (model prog w) A (getItem (.ref t) (.ref sl)) Q E s := by
  have htake : sizeOk (.seq items.toList.reverse.toArray) := by
    show items.toList.reverse.toArray.size ≤ sizeLine
    rw [List.size_toArray, List.length_reverse, Array.length_toList]
    exact hsz
  obtain ⟨os, hos, hcs, hds⟩ := id hs
  have hTs : s.TypeIs (.ref sl) "slice" := ⟨os, hos, hcs⟩
  unfold getItem
  try with_reducible refine wpAny_holding ?_
  first | refine wpAny_bind (wpAny_pure ?_) | skip
  refine wpAny_bind (wpAny_sequenceKey ht.typeIs (by decide) ?_)
  refine wpAny_bind (wpAny_callSpecial?_slot (name := Str.ofString "__getitem__") ht.typeIs PyProof.Rows.slot_tuple_getitem
    (wpAny_call_entry PyProof.Rows.slot_tuple_getitem ht.typeIs entry_tuple_getitem ?_ (args_tuple_getitem _ _)))
  show wpAny _ _ (Builtin.Tuple.tupleItemsOf (.ref t) >>= _) _ _ s
  refine wpAny_bind (tupleItemsOf_ ht ?_)
  refine wpAny_bind (wpAny_typeOf hTs ?_)
  rw [if_pos (by decide)]
  refine wpAny_bind (sliceApplied_rev hs pk ?_)
  have hno : ¬ (((items.size : Int) - 1 == 0 && (-1 : Int) == 1 && items.size == items.size) = true) := by
    intro q
    rw [Bool.and_eq_true, Bool.and_eq_true] at q
    exact absurd q.1.2 (by decide)
  show wpAny _ _ (if ((items.size : Int) - 1 == 0 && (-1 : Int) == 1 && items.size == items.size) = true then _ else _) _ _ s
  rw [if_neg hno, pick_rev]
  first
    | exact wpAny_bind (m := Builtin.Tuple.tupleExact _) (wpAny_newObj_type (wpAny_pure ⟨_, rfl, wpAny_pure h⟩) htake)
    | exact wpAny_bind (m := Builtin.Tuple.tupleExact _) (wpAny_newObj_type (wpAny_bind (wpAny_pure (wpAny_pure ⟨_, rfl, wpAny_pure h⟩))) htake)
    | exact wpAny_bind (wpAny_bind (m := Builtin.Tuple.tupleExact _) (wpAny_newObj_type (wpAny_pure (wpAny_pure ⟨_, rfl, wpAny_pure h⟩)) htake))
    | exact wpAny_bind (wpAny_bind (m := Builtin.Tuple.tupleExact _) (wpAny_newObj_type (wpAny_pure ⟨_, rfl, wpAny_pure h⟩) htake))
end
end Zn

/-! Zn, part 2: the tree of a text, and what it comes to. -/
namespace Zn
open PySem PySem.Spec PyProof.Rows L2

abbrev Env := List (Option D)
structure Exn where
  cls : Nat
  arg : Option D
inductive Res (α : Type) where
  | ok (a : α) (st : Store)
  | exc (x : Exn) (st : Store)
  | err
def Res.bind {α β : Type} (r : Res α) (k : α → Store → Res β) : Res β :=
  match r with
  | .ok a st => k a st
  | .exc x st => .exc x st
  | .err => .err
@[simp] theorem bind_ok {α β : Type} {a : α} {st : Store} {k : α → Store → Res β} : (Res.ok a st).bind k = k a st := rfl
@[simp] theorem bind_exc {α β : Type} {x : Exn} {st : Store} {k : α → Store → Res β} : (Res.exc x st).bind k = .exc x st := rfl
@[simp] theorem bind_err {α β : Type} {k : α → Store → Res β} : (Res.err : Res α).bind k = .err := rfl

inductive SRes where
  | nx (env : Env) (st : Store)
  | rt (d : D) (st : Store)
  | bk (env : Env) (st : Store)
  | ct (env : Env) (st : Store)
  | exc (x : Exn) (env : Env) (st : Store)
  | err
/-- a statement behind an expression -/
def Res.thenS {α : Type} (r : Res α) (env : Env) (k : α → Store → SRes) : SRes :=
  match r with
  | .ok a st => k a st
  | .exc x st => .exc x env st
  | .err => .err
@[simp] theorem thenS_ok {α : Type} {a : α} {st : Store} {env : Env} {k : α → Store → SRes} : (Res.ok a st).thenS env k = k a st := rfl
@[simp] theorem thenS_exc {α : Type} {x : Exn} {st : Store} {env : Env} {k : α → Store → SRes} : (Res.exc x st : Res α).thenS env k = .exc x env st := rfl
@[simp] theorem thenS_err {α : Type} {env : Env} {k : α → Store → SRes} : (Res.err : Res α).thenS env k = .err := rfl
def SRes.andThen (r : SRes) (k : Env → Store → SRes) : SRes :=
  match r with
  | .nx env st => k env st
  | r => r
@[simp] theorem andThen_nx {env : Env} {st : Store} {k : Env → Store → SRes} : (SRes.nx env st).andThen k = k env st := rfl
@[simp] theorem andThen_rt {d : D} {st : Store} {k : Env → Store → SRes} : (SRes.rt d st).andThen k = .rt d st := rfl
@[simp] theorem andThen_bk {env : Env} {st : Store} {k : Env → Store → SRes} : (SRes.bk env st).andThen k = .bk env st := rfl
@[simp] theorem andThen_ct {env : Env} {st : Store} {k : Env → Store → SRes} : (SRes.ct env st).andThen k = .ct env st := rfl
@[simp] theorem andThen_exc {x : Exn} {env : Env} {st : Store} {k : Env → Store → SRes} : (SRes.exc x env st).andThen k = .exc x env st := rfl
@[simp] theorem andThen_err {k : Env → Store → SRes} : SRes.err.andThen k = .err := rfl

inductive Blt where
  | len | sum | all | tuple | list | int | min | max | sorted | str
  deriving DecidableEq
inductive Mth where
  | append | extend | pop | reverse | clear | insert | count | index
  deriving DecidableEq

/-- the tree of a text -/
inductive T where
  | var (i : Nat) | con (d : D) | gi (f : Nat) (i : Int)
  | bin (m : Bool) (op : Operator) (a b : T) | neg (a : T)
  | cmp (op : CmpOp) (a b : T) | cmp2 (op op' : CmpOp) (a b c : T)
  | bop (o : BoolOp) (es : T) | nt (a : T) | ite (c a b : T)
  | tup (es : T) | lst (m : Bool) (es : T) | dct1 (k v : T)
  | sub (a i : T) | slc (m : Bool) (a lo hi : T)
  | call (f : Nat) (m : Bool) (es : T) | blt (b : Blt) (m : Bool) (es : T)
  | isi (a : T) (ty : String)
  | comp (m : Bool) (src tg : T) (own : List (Str × Nat)) (cond elt : T)
  | frz (a : T)
  | mth (k : Mth) (o es : T)
  | nil | cons (e es : T)
  | no | so (e : T)
  | tnm (i : Nat) | ttp (ts : T) | tix (a i : T)
  | sit (e : T) | srng (k : Nat) (es : T) | senum (e : T) | srev (e : T) | szip (a b : T)
  | rev (m : Bool) (a : T) | isx (cs : List Nat) | sraise (c : Nat) | stry (b : T) (c i : Nat) (h : T)
  | lrng (m : Bool) (a : T) | isi2 (a : T) (ty ty' : String) | spar (i j : Nat) (a b : T) | saug (a i e : T)
  | suq (m : Bool) (a : T) | mmd (g : Bool) (a : T) | cmp4 (op op' op'' : CmpOp) (a b c d : T)
  | sset (tg e : T) | sexp (e : T) | sret (e : T) | sretn | sif (c a b : T) | swhile (c b : T) | sfor (src tg b : T) | sbrk | scnt | spass | sdead

/-- the classes of refusals, by number; 7 is ValueError itself -/
def cn : Nat → Str
  | 0 => "LeastError"
  | 1 => "Beyond"
  | 2 => "NoSuch"
  | 3 => "NoBounds"
  | 4 => "TooMany"
  | 5 => "NoText"
  | 6 => "NoRow"
  | _ => "ValueError"
def subC (x y : Nat) : Bool := decide (x = y) || decide (y = 0) || decide (y = 7)

/-! ### what the operators come to -/
def lstOf (st : Store) : D → Option (List D)
  | .lst xs => some xs
  | .ref l => match st[l]? with
    | some (some c) => some c.xs
    | _ => none
  | _ => none
def mk (m : Bool) (xs : List D) (st : Store) : Res D := if m = true then .ok (.ref st.length) (st ++ [some (.lst xs)]) else .ok (.lst xs) st
@[simp] theorem mk_false (xs : List D) (st : Store) : mk false xs st = .ok (.lst xs) st := rfl
@[simp] theorem mk_true (xs : List D) (st : Store) : mk true xs st = .ok (.ref st.length) (st ++ [some (.lst xs)]) := rfl

def addF (m : Bool) (x y : D) (st : Store) : Res D :=
  match x, y with
  | .int i, .int j => .ok (.int (i + j)) st
  | .str a, .str b => if a.length + b.length ≤ sizeLine then .ok (.str (a ++ b)) st else .err
  | .tup a, .tup b => if a.length + b.length ≤ sizeLine then .ok (.tup (a ++ b)) st else .err
  | x, y => match lstOf st x, lstOf st y with
    | some a, some b => if a.length + b.length ≤ sizeLine then mk m (a ++ b) st else .err
    | _, _ => .err
def subF (x y : D) (st : Store) : Res D :=
  match x, y with
  | .int i, .int j => .ok (.int (i - j)) st
  | _, _ => .err
def mulOk (i j : Int) : Bool := decide (i.natAbs.log2 + j.natAbs.log2 < 1000000)
def mulF (m : Bool) (x y : D) (st : Store) : Res D :=
  match x, y with
  | .int i, .int j => if mulOk i j then .ok (.int (i * j)) st else .err
  | .tup a, .int k => if 0 < a.length ∧ a.length ≤ 1000 ∧ 0 ≤ k ∧ k ≤ 1000 then .ok (.tup (List.replicate k.toNat a).flatten) st else .err
  | x, .int k => match lstOf st x with
    | some a => if k < 2 ^ 63 ∧ -(2 ^ 63) ≤ k ∧ a.length * k.toNat ≤ sizeLine then mk m (List.replicate k.toNat a).flatten st else .err
    | none => .err
  | _, _ => .err
def divOk (j : Int) : Bool := decide (0 < j) && decide (j.natAbs.log2 < 9000)
def divF (x y : D) (st : Store) : Res D :=
  match x, y with
  | .int i, .int j => if divOk j then .ok (.int (i / j)) st else .err
  | _, _ => .err
def modF (x y : D) (st : Store) : Res D :=
  match x, y with
  | .int i, .int j => if 0 < j then .ok (.int (i % j)) st else .err
  | _, _ => .err
def powOk (i j : Int) : Bool := decide (0 ≤ j) && decide (j ≤ 1000000) && decide (i.natAbs < 2 ^ 64)
def powF (x y : D) (st : Store) : Res D :=
  match x, y with
  | .int i, .int j => if powOk i j then .ok (.int (i ^ j.toNat)) st else .err
  | _, _ => .err
def shlF (x y : D) (st : Store) : Res D :=
  match x, y with
  | .int i, .int j => if powOk i j then .ok (.int (i * 2 ^ j.toNat)) st else .err
  | _, _ => .err
def shrF (x y : D) (st : Store) : Res D :=
  match x, y with
  | .int i, .int j => if 0 ≤ j then .ok (.int (i / 2 ^ j.toNat)) st else .err
  | _, _ => .err
def andF (x y : D) (st : Store) : Res D :=
  match x, y with
  | .int i, .int j => .ok (.int (Builtin.bitAnd i j)) st
  | _, _ => .err
def binF (m : Bool) (op : Operator) (x y : D) (st : Store) : Res D :=
  match op with
  | .Add => addF m x y st
  | .Sub => subF x y st
  | .Mult => mulF m x y st
  | .FloorDiv => divF x y st
  | .Mod => modF x y st
  | .Pow => powF x y st
  | .LShift => shlF x y st
  | .RShift => shrF x y st
  | .BitAnd => andF x y st
  | _ => .err

mutual
def D.py : D → Option PyData
  | .non => some .none
  | .bl b => some (.bool b)
  | .int i => some (.int i)
  | .str s => some (.str s)
  | .tup xs => (pys xs).map .tuple
  | .lst xs => (pys xs).map .list
  | _ => none
def pys : List D → Option (List PyData)
  | [] => some []
  | x :: xs => match x.py, pys xs with
    | some p, some ps => some (p :: ps)
    | _, _ => none
end
def pyOf (st : Store) (d : D) : Option PyData :=
  match lstOf st d with
  | some xs => (pys xs).map .list
  | none => d.py
def eqF (st : Store) (x y : D) : Option Bool :=
  match pyOf st x, pyOf st y with
  | some p, some q => if SeqAt.shaped p && SeqAt.shaped q then some (PyData.eqv p q) else none
  | _, _ => none
def intsOf : List D → Option (List Int)
  | [] => some []
  | .int i :: r => (intsOf r).map (i :: ·)
  | _ :: _ => none
def boolsOf : List D → Option (List Bool)
  | [] => some []
  | .bl i :: r => (boolsOf r).map (i :: ·)
  | _ :: _ => none
def isNon : D → Bool
  | .non => true
  | _ => false
def isF (x y : D) : Option Bool :=
  match x, y with
  | x, .non => some (isNon x)
  | .bl a, .bl b => some (decide (a = b))
  | _, _ => none
def ltF (x y : D) : Option Bool :=
  match x, y with
  | .int i, .int j => some (decide (i < j))
  | .tup a, .tup b => match intsOf a, intsOf b with
    | some ns, some ms => some (HT.lexLt ns ms)
    | _, _ => none
  | _, _ => none
def leF (x y : D) : Option Bool :=
  match x, y with
  | .int i, .int j => some (decide (i ≤ j))
  | .tup a, .tup b => match intsOf a, intsOf b with
    | some ns, some ms => some (!HT.lexLt ms ns)
    | _, _ => none
  | _, _ => none
def gtF (x y : D) : Option Bool :=
  match x, y with
  | .int i, .int j => some (decide (j < i))
  | .tup a, .tup b => match intsOf a, intsOf b with
    | some ns, some ms => some (HT.lexLt ms ns)
    | _, _ => none
  | _, _ => none
def geF (x y : D) : Option Bool :=
  match x, y with
  | .int i, .int j => some (decide (j ≤ i))
  | .tup a, .tup b => match intsOf a, intsOf b with
    | some ns, some ms => some (!HT.lexLt ns ms)
    | _, _ => none
  | _, _ => none
def flatD : D → Bool
  | .non => true
  | .bl _ => true
  | .int _ => true
  | .str _ => true
  | _ => false
def eqFl : D → D → Bool
  | .non, .non => true
  | .bl a, .bl b => a == b
  | .bl a, .int b => (if a then 1 else 0) == b
  | .int a, .bl b => a == (if b then 1 else 0)
  | .int a, .int b => a == b
  | .str a, .str b => a == b
  | _, _ => false
/-- the things of a list or a tuple -/
def seqOf (st : Store) : D → Option (List D)
  | .tup xs => some xs
  | x => lstOf st x
/-- a thing in a list of things that are not flat -/
def inDF (st : Store) (x y : D) : Option Bool :=
  match pyOf st x, pyOf st y with
  | some d, some (.list ds) => if SeqAt.shaped d && SeqAt.shaped (.list ds) then some (ds.any fun z => PyData.eqv z d) else none
  | _, _ => none
def inF (st : Store) (x y : D) : Option Bool :=
  match seqOf st y with
  | some xs => if flatD x = true ∧ xs.all flatD = true then some (xs.any fun z => eqFl z x) else inDF st x y
  | none => none
def cmpF (op : CmpOp) (x y : D) (st : Store) : Option Bool :=
  match op with
  | .Eq => eqF st x y
  | .NotEq => (eqF st x y).map (!·)
  | .Lt => ltF x y
  | .LtE => leF x y
  | .Gt => gtF x y
  | .GtE => geF x y
  | .Is => isF x y
  | .IsNot => (isF x y).map (!·)
  | .In => inF st x y
  | .NotIn => (inF st x y).map (!·)

def optB (o : Option Bool) (st : Store) : Res D :=
  match o with
  | some b => .ok (.bl b) st
  | none => .err
@[simp] theorem optB_some (b : Bool) (st : Store) : optB (some b) st = .ok (.bl b) st := rfl

def subIx (x y : D) (st : Store) : Res D :=
  match x, y with
  | .tup xs, .int i => match atI xs i with
    | some d => .ok d st
    | none => .err
  | .scr ns, .int i => match atI ns i with
    | some d => .ok (.int d) st
    | none => .err
  | .str z, .int i => match atI z.cps.toList i with
    | some c => if z.length ≤ sizeLine then .ok (.str ⟨#[c]⟩) st else .err
    | none => .err
  | x, .int i => match lstOf st x with
    | some xs => match atI xs i with
      | some d => .ok d st
      | none => .err
    | none => .err
  | _, _ => .err
def cutD (xs : List D) (lo hi : Option Int) : List D := (xs.drop (HT.sIx xs.length 0 lo)).take (HT.sIx xs.length xs.length hi - HT.sIx xs.length 0 lo)
def slcF (m : Bool) (x : D) (lo hi : Option Int) (st : Store) : Res D :=
  match x with
  | .tup xs => .ok (.tup (cutD xs lo hi)) st
  | .str z => if z.length ≤ sizeLine then .ok (.str (cutS z lo hi)) st else .err
  | x => match lstOf st x with
    | some xs => mk m (cutD xs lo hi) st
    | none => .err

def lenF (x : D) (st : Store) : Res D :=
  match x with
  | .tup xs => .ok (.int xs.length) st
  | .scr xs => .ok (.int xs.length) st
  | .str z => if z.length ≤ sizeLine then .ok (.int z.length) st else .err
  | x => match lstOf st x with
    | some xs => .ok (.int xs.length) st
    | none => .err
def lenL (xs : List D) (st : Store) : Res D :=
  match xs with
  | [x] => lenF x st
  | _ => .err
def sumL (xs : List D) (st : Store) : Res D :=
  match xs with
  | [x] => match (seqOf st x).bind intsOf with
    | some ns => .ok (.int ns.sum) st
    | none => .err
  | _ => .err
def allL (xs : List D) (st : Store) : Res D :=
  match xs with
  | [x] => match (lstOf st x).bind boolsOf with
    | some ns => .ok (.bl (ns.all id)) st
    | none => .err
  | _ => .err
def tupleL (xs : List D) (st : Store) : Res D :=
  match xs with
  | [x] => match x with
    | .tup xs => .ok (.tup xs) st
    | x => match lstOf st x with
      | some xs => .ok (.tup xs) st
      | none => .err
  | _ => .err
def listL (m : Bool) (xs : List D) (st : Store) : Res D :=
  match xs with
  | [x] => match x with
    | .tup xs => mk m xs st
    | x => match lstOf st x with
      | some xs => mk m xs st
      | none => .err
  | _ => .err
def intL (xs : List D) (st : Store) : Res D :=
  match xs with
  | [x] => match x with
    | .int i => .ok (.int i) st
    | .bl b => .ok (.int (if b then 1 else 0)) st
    | _ => .err
  | _ => .err
def strL (xs : List D) (st : Store) : Res D :=
  match xs with
  | [x] => match x with
    | .int i => if i.natAbs.log2 < 1920 then .ok (.str (toString i)) st else .err
    | .str z => .ok (.str z) st
    | _ => .err
  | _ => .err
def mmV (g : Bool) : List Int → D
  | [] => .non
  | n :: r => .int (if g = true then r.foldl max n else r.foldl min n)
/-- the least or the greatest of a list of whole numbers -/
def mmL (g : Bool) (x : D) (st : Store) : Res D :=
  match lstOf st x with
  | some xs => match intsOf xs with
    | some (n :: r) => .ok (mmV g (n :: r)) st
    | _ => .err
  | none => .err
def minL (xs : List D) (st : Store) : Res D :=
  match xs with
  | [.int i, .int j] => .ok (.int (if j < i then j else i)) st
  | [x] => mmL false x st
  | _ => .err
def maxL (xs : List D) (st : Store) : Res D :=
  match xs with
  | [.int i, .int j] => .ok (.int (if j > i then j else i)) st
  | [x] => mmL true x st
  | _ => .err
/-- whole numbers put in order -/
def insI (x : Int) : List Int → List Int
  | [] => [x]
  | y :: ys => if x ≤ y then x :: y :: ys else y :: insI x ys
def srtI : List Int → List Int
  | [] => []
  | x :: xs => insI x (srtI xs)
/-- tuples of whole numbers put in order -/
def insT (x : List Int) : List (List Int) → List (List Int)
  | [] => [x]
  | y :: ys => if HT.lexLt y x = false then x :: y :: ys else y :: insT x ys
def srtT : List (List Int) → List (List Int)
  | [] => []
  | x :: xs => insT x (srtT xs)
def tupD (ns : List Int) : D := .tup (ns.map .int)
def tupsOf : List D → Option (List (List Int))
  | [] => some []
  | .tup (x :: xs) :: r => match intsOf (x :: xs), tupsOf r with
    | some ns, some nss => some (ns :: nss)
    | _, _ => none
  | _ :: _ => none
def sortedL (m : Bool) (xs : List D) (st : Store) : Res D :=
  match xs with
  | [x] => match lstOf st x with
    | some xs => match intsOf xs with
      | some ns => mk m ((srtI ns).map .int) st
      | none => match tupsOf xs with
        | some nss => mk m ((srtT nss).map tupD) st
        | none => .err
    | none => .err
  | _ => .err
def bltF (b : Blt) (m : Bool) (xs : List D) (st : Store) : Res D :=
  match b with
  | .len => lenL xs st
  | .sum => sumL xs st
  | .all => allL xs st
  | .tuple => tupleL xs st
  | .list => listL m xs st
  | .int => intL xs st
  | .min => minL xs st
  | .max => maxL xs st
  | .sorted => sortedL m xs st
  | .str => strL xs st
def tyN : D → String
  | .non => "NoneType"
  | .bl _ => "bool"
  | .int _ => "int"
  | .str _ => "str"
  | .tup _ => "tuple"
  | .lst _ => "list"
  | .scr _ => "list"
  | .dct => "dict"
  | .ref _ => "list"
/-- is a thing of one built-in class one of another -/
def isiN (a b : String) : Bool := a == b || (a == "bool" && b == "int")
def isiK (b : String) : Bool := b == "int" || b == "bool" || b == "str" || b == "tuple" || b == "list"
def isiF (x : D) (ty : String) (st : Store) : Res D :=
  if isiK ty = true then match x with
    | .ref l => match lstOf st (.ref l) with
      | some _ => .ok (.bl (isiN "list" ty)) st
      | none => .err
    | x => .ok (.bl (isiN (tyN x) ty)) st
  else .err

/-- is a thing of one of two built-in classes -/
def isi2F (x : D) (ty ty' : String) (st : Store) : Res D :=
  match isiF x ty st, isiF x ty' st with
  | .ok (.bl b) _, .ok (.bl c) _ => .ok (.bl (b || c)) st
  | _, _ => .err
def frzF (x : D) (st : Store) : Res D :=
  match x with
  | .ref l => match st[l]? with
    | some (some (.lst xs)) => .ok (.lst xs) (st.set l (some (.fz xs)))
    | some (some (.fz xs)) => .ok (.lst xs) st
    | _ => .err
  | x => .ok x st
/-- the first place of a number -/
def idxI (k : Int) : List Int → Option Nat
  | [] => none
  | x :: xs => if x = k then some 0 else (idxI k xs).map (· + 1)
def mthF (k : Mth) (o : D) (es : List D) (st : Store) : Res D :=
  match k, o, es with
  | .append, .ref l, [e] => match st[l]? with
    | some (some (.lst xs)) => if e.isRef = false ∧ xs.length < sizeLine then .ok .non (st.set l (some (.lst (xs ++ [e])))) else .err
    | _ => .err
  | .extend, .ref l, [e] => match st[l]?, lstOf st e with
    | some (some (.lst xs)), some ys => if xs.length + ys.length ≤ sizeLine then .ok .non (st.set l (some (.lst (xs ++ ys)))) else .err
    | _, _ => .err
  | .reverse, .ref l, [] => match st[l]? with
    | some (some (.lst xs)) => .ok .non (st.set l (some (.lst xs.reverse)))
    | _ => .err
  | .clear, .ref l, [] => match st[l]? with
    | some (some (.lst _)) => .ok .non (st.set l (some (.lst [])))
    | _ => .err
  | .insert, .ref l, [.int i, e] => match st[l]? with
    | some (some (.lst xs)) => if e.isRef = false ∧ xs.length < sizeLine ∧ 0 ≤ i ∧ i < 2 ^ 62 then .ok .non (st.set l (some (.lst (xs.take i.toNat ++ [e] ++ xs.drop i.toNat)))) else .err
    | _ => .err
  | .count, o, [.int k] => match (lstOf st o).bind intsOf with
    | some ns => .ok (.int (ns.count k : Nat)) st
    | none => .err
  | .index, o, [.int k] => match (lstOf st o).bind intsOf with
    | some ns => match idxI k ns with
      | some j => .ok (.int (j : Nat)) st
      | none => .err
    | none => .err
  | .pop, .ref l, [] => match st[l]? with
    | some (some (.lst xs)) => match xs[xs.length - 1]? with
      | some d => .ok d (st.set l (some (.lst xs.dropLast)))
      | none => .err
    | _ => .err
  | _, _, _ => .err

/-- what a loop walks -/
inductive Wk where
  | fix (xs : List D)
  | live (l : Nat)
  /-- a list that stands, and one of our own as it stands at each turn, of one length -/
  | zp (xs : List D) (l : Nat)
def zipF (x y : D) (st : Store) : Res Wk :=
  match x, y with
  | .lst xs, .ref l => match lstOf st (.ref l) with
    | some ys => if xs.length = ys.length then .ok (.zp xs l) st else .err
    | none => .err
  | _, _ => .err
def wkOf (x : D) (st : Store) : Res Wk :=
  match x with
  | .tup xs => .ok (.fix xs) st
  | .lst xs => .ok (.fix xs) st
  | .scr ns => .ok (.fix (ns.map .int)) st
  | .ref l => match lstOf st (.ref l) with
    | some _ => .ok (.live l) st
    | none => .err
  | _ => .err
def rngOk (i : Int) : Bool := decide (-(2 ^ 62) ≤ i) && decide (i < 2 ^ 62)
def rngD (lo : Int) (n : Nat) : List D := (List.range n).map fun (k : Nat) => .int (lo + k)
def rng1F (es : List D) (st : Store) : Res Wk :=
  match es with
  | [.int j] => if rngOk j then .ok (.fix (rngD 0 j.toNat)) st else .err
  | _ => .err
def rng2F (es : List D) (st : Store) : Res Wk :=
  match es with
  | [.int i, .int j] => if rngOk i && rngOk j then .ok (.fix (rngD i (j - i).toNat)) st else .err
  | _ => .err
def rng3F (es : List D) (st : Store) : Res Wk :=
  match es with
  | [.int i, .int j, .int c] => if rngOk i && rngOk j && decide (c = -1) then .ok (.fix ((List.range (i - j).toNat).map fun (k : Nat) => .int (i - k))) st else .err
  | _ => .err
def rngF (k : Nat) (es : List D) (st : Store) : Res Wk :=
  match k with
  | 1 => rng1F es st
  | 2 => rng2F es st
  | 3 => rng3F es st
  | _ => .err
/-- list(range(..)) -/
def lrngF (m : Bool) (x : D) (st : Store) : Res D :=
  match x with
  | .int j => if rngOk j && decide (j ≤ 16777216) then mk m (rngD 0 j.toNat) st else .err
  | _ => .err
def enumD (xs : List D) : List D := (List.range xs.length).zipWith (fun i d => .tup [.int (i : Nat), d]) xs

/-- the names that a loop stores -/
def asgN : T → D → Env → Option Env
  | .tnm i, d, env => if i < env.length then some (env.set i (some d)) else none
  | .ttp ts, .tup xs, env => asgNs ts xs env
  | _, _, _ => none
where asgNs : T → List D → Env → Option Env
  | .nil, [], env => some env
  | .cons (.tnm i) ts, x :: xs, env => if i < env.length then asgNs ts xs (env.set i (some x)) else none
  | _, _, _ => none
/-- the slots of a loop's names -/
def slots : T → List Nat
  | .tnm i => [i]
  | .ttp ts => slots ts
  | .cons t ts => slots t ++ slots ts
  | _ => []
def wipeE (env : Env) : List Nat → Env
  | [] => env
  | v :: vs => (wipeE env vs).set v none

abbrev CallF := Nat → List D → Store → Res D

/-- one turn of a comprehension: the thing that comes of it, if one does -/
def compL (body : D → Store → Res (Option D)) (n : Nat) : List D → Store → Res Unit
  | [], st => .ok () st
  | x :: xs, st => match body x st with
    | .ok none st' => compL body n xs st'
    | .ok (some d) st' => match st'[n]? with
      | some (some (.lst acc)) => if d.isRef = false ∧ acc.length < sizeLine then compL body n xs (st'.set n (some (.lst (acc ++ [d])))) else .err
      | _ => .err
    | _ => .err
def fuel : Nat := 1000000000
/-- .. of a list of our own, as it stands at each turn -/
def compR (body : D → Store → Res (Option D)) (n l : Nat) : Nat → Nat → Store → Res Unit
  | 0, _, _ => .err
  | k + 1, i, st => match lstOf st (.ref l) with
    | none => .err
    | some xs => match xs[i]? with
      | none => .ok () st
      | some x => match body x st with
        | .ok none st' => compR body n l k (i + 1) st'
        | .ok (some d) st' => match st'[n]? with
          | some (some (.lst acc)) => if d.isRef = false ∧ acc.length < sizeLine then compR body n l k (i + 1) (st'.set n (some (.lst (acc ++ [d])))) else .err
          | _ => .err
        | _ => .err
/-- turned about -/
def revF (m : Bool) (x : D) (st : Store) : Res D :=
  match x with
  | .tup xs => .ok (.tup xs.reverse) st
  | x => match lstOf st x with
    | some xs => mk m xs.reverse st
    | none => .err
/-- members of an ordered list, each once -/
def unq : List Int → List Int
  | [] => []
  | [x] => [x]
  | x :: y :: r => if x = y then unq (y :: r) else x :: unq (y :: r)
def uqI (ns : List Int) : List Int := unq (srtI ns)
/-- sorted(set(xs)) -/
def suqF (m : Bool) (x : D) (st : Store) : Res D :=
  match lstOf st x with
  | some xs => match intsOf xs with
    | some ns => if ns.length + 1 < 4096 then mk m ((uqI ns).map .int) st else .err
    | none => .err
  | none => .err
/-- min, max with a default of None -/
def mmdF (g : Bool) (x : D) (st : Store) : Res D :=
  match lstOf st x with
  | some xs => match intsOf xs with
    | some ns => .ok (mmV g ns) st
    | none => .err
  | none => .err
def tstB {α : Type} (d : D) (st : Store) (k : Bool → Store → Res α) : Res α :=
  match d with
  | .bl b => k b st
  | _ => .err
@[simp] theorem tstB_bl {α : Type} (b : Bool) (st : Store) (k : Bool → Store → Res α) : tstB (.bl b) st k = k b st := rfl
def tupF (ds : List D) (st : Store) : Res D := if ds.all (fun d => !d.isRef) = true ∧ ds.length ≤ sizeLine then .ok (.tup ds) st else .err
def lstF (m : Bool) (ds : List D) (st : Store) : Res D := if ds.all (fun d => !d.isRef) = true ∧ ds.length ≤ sizeLine then mk m ds st else .err
def dctF (k v : D) (st : Store) : Res D :=
  match k with
  | .int _ => if v.isRef = false then .ok .dct st else .err
  | _ => .err
/-- a call's end: a list of the callee's own is frozen, or taken over -/
def callEnd (m : Bool) (n : Nat) (d : D) (st : Store) : Res D :=
  match d with
  | .ref l => if l < n then .ok d (st.take n) else match st[l]? with
    | some (some (.lst xs)) => mk m xs (st.take n)
    | some (some (.fz xs)) => if m = true then .err else .ok (.lst xs) (st.take n)
    | _ => .err
  | d => .ok d (st.take n)

def compEnd (m : Bool) (n : Nat) (st : Store) : Res D := callEnd m n (.ref n) st

mutual
def ev (F : CallF) : T → Env → Store → Res D
  | .var i, env, st => match env[i]? with
    | some (some d) => .ok d st
    | _ => .err
  | .con d, _, st => .ok d st
  | .gi _ i, _, st => .ok (.int i) st
  | .bin m op a b, env, st => (ev F a env st).bind fun x st1 => (ev F b env st1).bind fun y st2 => binF m op x y st2
  | .neg a, env, st => (ev F a env st).bind fun x st1 => match x with
    | .int i => .ok (.int (-i)) st1
    | _ => .err
  | .cmp op a b, env, st => (ev F a env st).bind fun x st1 => (ev F b env st1).bind fun y st2 => optB (cmpF op x y st2) st2
  | .cmp2 op op' a b c, env, st => (ev F a env st).bind fun x st1 => (ev F b env st1).bind fun y st2 => match cmpF op x y st2 with
    | some true => (ev F c env st2).bind fun z st3 => optB (cmpF op' y z st3) st3
    | some false => .ok (.bl false) st2
    | none => .err
  | .bop o es, env, st => evB F o es env st
  | .nt a, env, st => (ev F a env st).bind fun x st1 => tstB x st1 fun b st2 => .ok (.bl (!b)) st2
  | .ite c a b, env, st => (ev F c env st).bind fun x st1 => tstB x st1 fun k st2 => if k = true then ev F a env st2 else ev F b env st2
  | .tup es, env, st => (evs F es env st).bind fun ds st1 => tupF ds st1
  | .lst m es, env, st => (evs F es env st).bind fun ds st1 => lstF m ds st1
  | .dct1 k v, env, st => (ev F k env st).bind fun x st1 => (ev F v env st1).bind fun y st2 => dctF x y st2
  | .sub a i, env, st => (ev F a env st).bind fun x st1 => (ev F i env st1).bind fun y st2 => subIx x y st2
  | .slc m a lo hi, env, st => (ev F a env st).bind fun x st1 => (evo F lo env st1).bind fun l st2 => (evo F hi env st2).bind fun h st3 => slcF m x l h st3
  | .call f m es, env, st => (evs F es env st).bind fun ds st1 => (F f ds st1).bind fun d st2 => callEnd m st1.length d st2
  | .blt b m es, env, st => (evs F es env st).bind fun ds st1 => bltF b m ds st1
  | .isi a ty, env, st => (ev F a env st).bind fun x st1 => isiF x ty st1
  | .comp m src tg own cond elt, env, st => (evw F src env st).bind fun w st1 => match w with
    | .fix xs => (compL (fun x st2 => match asgN tg x (wipeE env (own.map (·.2))) with
        | none => .err
        | some env2 => (evt F cond env2 st2).bind fun b st3 => if b = true then (ev F elt env2 st3).bind fun d st4 => .ok (some d) st4 else .ok none st3) st1.length xs (st1 ++ [some (.lst [])])).bind fun _ st2 => compEnd m st1.length st2
    | .live l => (compR (fun x st2 => match asgN tg x (wipeE env (own.map (·.2))) with
        | none => .err
        | some env2 => (evt F cond env2 st2).bind fun b st3 => if b = true then (ev F elt env2 st3).bind fun d st4 => .ok (some d) st4 else .ok none st3) st1.length l fuel 0 (st1 ++ [some (.lst [])])).bind fun _ st2 => compEnd m st1.length st2
    | .zp _ _ => .err
  | .frz a, env, st => (ev F a env st).bind fun x st1 => frzF x st1
  | .rev m a, env, st => (ev F a env st).bind fun x st1 => revF m x st1
  | .isi2 a ty ty', env, st => (ev F a env st).bind fun x st1 => isi2F x ty ty' st1
  | .suq m a, env, st => (ev F a env st).bind fun x st1 => suqF m x st1
  | .mmd g a, env, st => (ev F a env st).bind fun x st1 => mmdF g x st1
  | .cmp4 op op' op'' a b c d, env, st => (ev F a env st).bind fun x st1 => (ev F b env st1).bind fun y st2 => match cmpF op x y st2 with
    | some true => (ev F c env st2).bind fun z st3 => match cmpF op' y z st3 with
      | some true => (ev F d env st3).bind fun u st4 => optB (cmpF op'' z u st4) st4
      | some false => .ok (.bl false) st3
      | none => .err
    | some false => .ok (.bl false) st2
    | none => .err
  | .lrng m a, env, st => (ev F a env st).bind fun x st1 => lrngF m x st1
  | .mth k o es, env, st => (ev F o env st).bind fun x st1 => match lstOf st1 x with
    | none => .err
    | some _ => (evs F es env st1).bind fun ds st2 => mthF k x ds st2
  | _, _, _ => .err
/-- several, from the left -/
def evs (F : CallF) : T → Env → Store → Res (List D)
  | .nil, _, st => .ok [] st
  | .cons e es, env, st => (ev F e env st).bind fun d st1 => (evs F es env st1).bind fun ds st2 => .ok (d :: ds) st2
  | _, _, _ => .err
/-- and, or -/
def evB (F : CallF) (o : BoolOp) : T → Env → Store → Res D
  | .cons e .nil, env, st => ev F e env st
  | .cons e es, env, st => (ev F e env st).bind fun x st1 => tstB x st1 fun b st2 => match o, b with
    | .And, true => evB F o es env st2
    | .And, false => .ok (.bl false) st2
    | .Or, true => .ok (.bl true) st2
    | .Or, false => evB F o es env st2
  | _, _, _ => .err
/-- a part of a slice -/
def evo (F : CallF) : T → Env → Store → Res (Option Int)
  | .no, _, st => .ok none st
  | .so e, env, st => (ev F e env st).bind fun x st1 => match x with
    | .int i => .ok (some i) st1
    | _ => .err
  | _, _, _ => .err
/-- a comprehension's test -/
def evt (F : CallF) : T → Env → Store → Res Bool
  | .no, _, st => .ok true st
  | .so e, env, st => (ev F e env st).bind fun x st1 => tstB x st1 fun b st2 => .ok b st2
  | _, _, _ => .err
/-- what is walked -/
def evw (F : CallF) : T → Env → Store → Res Wk
  | .sit e, env, st => (ev F e env st).bind fun x st1 => wkOf x st1
  | .srng k es, env, st => (evs F es env st).bind fun ds st1 => rngF k ds st1
  | .senum e, env, st => (ev F e env st).bind fun x st1 => match x with
    | .tup xs => .ok (.fix (enumD xs)) st1
    | .lst xs => .ok (.fix (enumD xs)) st1
    | _ => .err
  | .srev e, env, st => (ev F e env st).bind fun x st1 => match x with
    | .lst xs => .ok (.fix xs.reverse) st1
    | _ => .err
  | .szip a b, env, st => (ev F a env st).bind fun x st1 => (ev F b env st1).bind fun y st2 => zipF x y st2
  | _, _, _ => .err
end

/-! ### statements -/
/-- o[i] = d -/
def setF (o i d : D) (st : Store) : Option Store :=
  match o, i with
  | .ref l, .int k => match st[l]? with
    | some (some (.lst xs)) => match ixN xs.length k with
      | some j => if d.isRef = false then some (st.set l (some (.lst (xs.set j d)))) else none
      | none => none
    | _ => none
  | _, _ => none
/-- o[i], a number of a list of our own -/
def augG (o i : D) (st : Store) : Option Int :=
  match o, i with
  | .ref l, .int k => match st[l]? with
    | some (some (.lst xs)) => match atI xs k with
      | some (.int v) => some v
      | _ => none
    | _ => none
  | _, _ => none
/-- a target -/
def asg (F : CallF) : T → D → Env → Store → Option (Env × Store)
  | .tnm i, d, env, st => if i < env.length then some (env.set i (some d), st) else none
  | .tix a i, d, env, st => match ev F a env st with
    | .ok x st1 => match ev F i env st1 with
      | .ok y st2 => (setF x y d st2).map fun st3 => (env, st3)
      | _ => none
    | _ => none
  | .ttp ts, .tup xs, env, st => asgs F ts xs env st
  | .ttp ts, .lst xs, env, st => asgs F ts xs env st
  | _, _, _, _ => none
where asgs (F : CallF) : T → List D → Env → Store → Option (Env × Store)
  | .nil, [], env, st => some (env, st)
  | .cons t ts, x :: xs, env, st => match asg F t x env st with
    | some (env1, st1) => asgs F ts xs env1 st1
    | none => none
  | _, _, _, _ => none

def forL (body : D → Env → Store → SRes) : List D → Env → Store → SRes
  | [], env, st => .nx env st
  | x :: xs, env, st => match body x env st with
    | .nx env' st' => forL body xs env' st'
    | .ct env' st' => forL body xs env' st'
    | .bk env' st' => .nx env' st'
    | r => r
def forR (body : D → Env → Store → SRes) (l : Nat) : Nat → Nat → Env → Store → SRes
  | 0, _, _, _ => .err
  | n + 1, i, env, st => match lstOf st (.ref l) with
    | none => .err
    | some xs => match xs[i]? with
      | none => .nx env st
      | some x => match body x env st with
        | .nx env' st' => forR body l n (i + 1) env' st'
        | .ct env' st' => forR body l n (i + 1) env' st'
        | .bk env' st' => .nx env' st'
        | r => r
/-- two lists side by side, the second one as it stands at each turn -/
def forZ (body : D → Env → Store → SRes) (xs : List D) (l : Nat) : Nat → Nat → Env → Store → SRes
  | 0, _, _, _ => .err
  | n + 1, i, env, st => match lstOf st (.ref l) with
    | none => .err
    | some ys => if xs.length = ys.length then match xs[i]?, ys[i]? with
      | some x, some y => match body (.tup [x, y]) env st with
        | .nx env' st' => forZ body xs l n (i + 1) env' st'
        | .ct env' st' => forZ body xs l n (i + 1) env' st'
        | .bk env' st' => .nx env' st'
        | r => r
      | _, _ => .nx env st
    else .err
def whileL (c : Env → Store → Res D) (b : Env → Store → SRes) : Nat → Env → Store → SRes
  | 0, _, _ => .err
  | n + 1, env, st => (c env st).thenS env fun x st1 => match x with
    | .bl true => match b env st1 with
      | .nx env' st' => whileL c b n env' st'
      | .ct env' st' => whileL c b n env' st'
      | .bk env' st' => .nx env' st'
      | r => r
    | .bl false => .nx env st1
    | _ => .err

/-! in the suite of a caught exception of class x -/
mutual
def hv (x : Nat) : T → Env → Store → Res D
  | .isx cs, _, st => .ok (.bl (cs.any (subC x))) st
  | .var i, env, st => match env[i]? with
    | some (some d) => .ok d st
    | _ => .err
  | .lst m es, env, st => (hvs x es env st).bind fun ds st1 => lstF m ds st1
  | _, _, _ => .err
def hvs (x : Nat) : T → Env → Store → Res (List D)
  | .nil, _, st => .ok [] st
  | .cons e es, env, st => (hv x e env st).bind fun d st1 => (hvs x es env st1).bind fun ds st2 => .ok (d :: ds) st2
  | _, _, _ => .err
end
def hs (x : Nat) : T → Env → Store → SRes
  | .nil, env, st => .nx env st
  | .cons s ss, env, st => (hs x s env st).andThen fun env1 st1 => hs x ss env1 st1
  | .sset (.tnm i) e, env, st => (hv x e env st).thenS env fun d st1 => if i < env.length then .nx (env.set i (some d)) st1 else .err
  | .sexp (.mth .append (.var i) (.cons e .nil)), env, st => (hv x (.var i) env st).thenS env fun l st1 => match lstOf st1 l with
    | none => .err
    | some _ => (hv x e env st1).thenS env fun d st2 => (mthF .append l [d] st2).thenS env fun _ st3 => .nx env st3
  | _, _, _ => .err
/-- the name goes behind the suite -/
def wipeH (i : Nat) : SRes → SRes
  | .nx env st => .nx (env.set i none) st
  | _ => .err
def tryK (i c : Nat) (h : T) : SRes → SRes
  | .exc x env st => match x.arg with
    | none => if i < env.length then (if subC x.cls c = true then wipeH i (hs x.cls h (env.set i none) st) else .exc x env st) else .err
    | some _ => .err
  | r => r

def ex (F : CallF) : T → Env → Store → SRes
  | .nil, env, st => .nx env st
  | .cons s ss, env, st => (ex F s env st).andThen fun env1 st1 => ex F ss env1 st1
  | .sset tg e, env, st => (ev F e env st).thenS env fun d st1 => match asg F tg d env st1 with
    | some (env2, st2) => .nx env2 st2
    | none => .err
  | .sexp e, env, st => (ev F e env st).thenS env fun _ st1 => .nx env st1
  | .sret e, env, st => (ev F e env st).thenS env fun d st1 => .rt d st1
  | .sretn, _, st => .rt .non st
  | .sif c a b, env, st => (ev F c env st).thenS env fun x st1 => match x with
    | .bl true => ex F a env st1
    | .bl false => ex F b env st1
    | _ => .err
  | .swhile c b, env, st => whileL (ev F c) (ex F b) fuel env st
  | .sfor src tg b, env, st => (evw F src env st).thenS env fun w st1 => match w with
    | .fix xs => forL (fun x env st => match asg F tg x env st with
      | some (env2, st2) => ex F b env2 st2
      | none => .err) xs env st1
    | .live l => forR (fun x env st => match asg F tg x env st with
      | some (env2, st2) => ex F b env2 st2
      | none => .err) l fuel 0 env st1
    | .zp xs l => forZ (fun x env st => match asg F tg x env st with
      | some (env2, st2) => ex F b env2 st2
      | none => .err) xs l fuel 0 env st1
  | .sbrk, env, st => .bk env st
  | .scnt, env, st => .ct env st
  | .spass, env, st => .nx env st
  | .saug a i e, env, st => (ev F a env st).thenS env fun x st1 => (ev F i env st1).thenS env fun y st2 => match augG x y st2 with
    | some v => (ev F e env st2).thenS env fun d st3 => match d with
      | .int w => match setF x y (.int (v + w)) st3 with
        | some st4 => .nx env st4
        | none => .err
      | _ => .err
    | none => .err
  | .sraise c, env, st => .exc ⟨c, none⟩ env st
  | .stry b c i h, env, st => tryK i c h (ex F b env st)
  | .spar i j a b, env, st => (ev F a env st).thenS env fun x st1 => (ev F b env st1).thenS env fun y st2 => if i < env.length ∧ j < env.length then .nx ((env.set i (some x)).set j (some y)) st2 else .err
  | _, _, _ => .err

/-! ### a def, the whole text -/
structure Fn where
  name : Str
  ps : List Str
  N : List Str
  body : T
/-- a name of the text that stands for a whole number -/
def Fn.isI (fn : Fn) (x : Str) (i : Int) : Bool := decide (fn.name = x) && match fn.body with
  | .con (.int j) => decide (j = i)
  | _ => false
def Fn.isC (fn : Fn) : Bool := match fn.body with
  | .con _ => true
  | .sraise _ => true
  | _ => false
/-- a name of the text that stands for a class of refusals which is raised -/
def Fn.isE (fn : Fn) (r : Nat) : Bool := match fn.body with
  | .sraise c => decide (c = r)
  | _ => false
def rzB (Fs : List Fn) (r : Nat) : Bool := Fs.any fun fn => fn.isE r
def cAof (Fs : List Fn) (mg : Str → Option Value) (r : Nat) : Option Addr := if rzB Fs r = true then match mg (cn r) with
  | some (.ref C) => some C
  | _ => none
  else none
/-- a call's end, told by the body's -/
def bodyEnd (r : SRes) : Res D :=
  match r with
  | .nx _ st => .ok .non st
  | .rt d st => .ok d st
  | .exc x _ st => .exc x st
  | _ => .err
def startE (n k : Nat) (ds : List D) : Env := ds.map some ++ List.replicate (n - k) none
def cf (Fs : List Fn) : Nat → CallF
  | 0 => fun _ _ _ => .err
  | n + 1 => fun f ds st => match Fs[f]? with
    | none => .err
    | some fn => if ds.length = fn.ps.length then bodyEnd (ex (cf Fs n) fn.body (startE fn.N.length fn.ps.length ds) st) else .err
end Zn

/-! Zn, part O: sorted of tuples of whole numbers, any number of them; two names set at once. -/
namespace Zn
open PySem PySem.Spec PyProof.Rows L2
section
variable {prog : Program} {w : World} {A : Around} {s : Shared}
def allInt : Nat → Bool := fun _ => false
def keyI (h : Heap) (v : Value) : List Int := match tupKey h allInt v with
  | some l => l.map fun x => match x with
    | .inl i => i
    | .inr _ => 0
  | none => []
theorem items_ints : ∀ {vs : List Value} {ns : List Int} (i : Nat), IntsAre vs ns → tupItems allInt i vs = some (ns.map Sum.inl)
  | _, _, _, .nil => rfl
  | _, _, i, .cons n t r => by
    show (if allInt i = true then none else (tupItems allInt (i + 1) _).map (Sum.inl n :: ·)) = _
    rw [if_neg (by simp [allInt]), items_ints (i + 1) r]
    rfl
theorem lexLt_ints : ∀ (a b : List Int), PyProof.Rows.lexLt itemOrd (a.map Sum.inl) (b.map Sum.inl) = HT.lexLt a b
  | [], [] => rfl
  | [], _ :: _ => rfl
  | _ :: _, [] => rfl
  | x :: a, y :: b => by
    rw [HT.lexLt_cons]
    show PyProof.Rows.lexLt itemOrd (Sum.inl x :: a.map Sum.inl) (Sum.inl y :: b.map Sum.inl) = _
    rw [lex_cons]
    show (decide (x < y) || (!decide (y < x) && PyProof.Rows.lexLt itemOrd (a.map Sum.inl) (b.map Sum.inl))) = _
    rw [lexLt_ints a b]
    by_cases e : x = y
    · subst e
      simp
    · rw [if_neg e]
      by_cases h : x < y
      · simp [h]
      · have : y < x := by omega
        simp [h, this]
/-- a tuple of whole numbers, one at least -/
def IsTI (h : Heap) (v : Value) (ns : List Int) : Prop := ∃ (a : Addr) (o : Obj) (xs : Array Value) (n : Nat), v = .ref a ∧ h.get? a = some o ∧ o.cls = .type "tuple" ∧ o.data = .seq xs n ∧ IntsAre xs.toList ns ∧ ns ≠ []
theorem IsTI.keeps {h h' : Heap} {v : Value} {ns : List Int} (x : IsTI h v ns) (k : ∀ b o, h.get? b = some o → o.cls = .type "tuple" → h'.get? b = some o) : IsTI h' v ns := by
  obtain ⟨a, o, xs, n, e, ho, hc, hd, hi, hn⟩ := x
  exact ⟨a, o, xs, n, e, k a o ho hc, hc, hd, hi, hn⟩
theorem IsTI.key {h : Heap} {v : Value} {ns : List Int} (x : IsTI h v ns) : tupKey h allInt v = some (ns.map Sum.inl) := by
  obtain ⟨a, o, xs, n, rfl, ho, hc, hd, hi, hn⟩ := x
  simp only [tupKey, ho, hd]
  exact items_ints 0 hi
theorem IsTI.keyI {h : Heap} {v : Value} {ns : List Int} (x : IsTI h v ns) : keyI h v = ns := by
  rw [Zn.keyI, x.key]
  show (ns.map Sum.inl).map _ = ns
  rw [List.map_map]
  exact (List.map_congr_left fun i _ => rfl).trans (List.map_id ns)
theorem ti_cmp {vs : List Value} {k : Value → List Int} (hp : ∀ v ∈ vs, IsTI s.heap v (k v)) : SrtO.Cmp prog w A s (tuples' true) (fun p => p.1 ∈ vs) (SrtO.lt2 fun v u => HT.lexLt (k v) (k u)) := by
  intro p q hm hm'
  show wpAny (model prog w) A (keyLt' (tuples' true) p.1 q.1) (fun r s' => s' = s ∧ r = HT.lexLt (k p.1) (k q.1)) (fun _ _ => False) s
  refine tup_ltAt (shape := allInt) true A _ p.1 q.1 _ _ (hp _ hm).key (hp _ hm').key ⟨rfl, ?_⟩
  exact lexLt_ints _ _
theorem ti_tups {h : Heap} {k : Value → List Int} : ∀ {vs : List Value}, (∀ v ∈ vs, IsTI h v (k v)) → ∃ fs, TupsOf h allInt vs fs ∧ fs.length = vs.length
  | [], _ => ⟨[], .nil, rfl⟩
  | v :: vs, hp => by
    obtain ⟨fs, h1, h2⟩ := ti_tups (vs := vs) fun u hu => hp u (List.mem_cons_of_mem _ hu)
    obtain ⟨a, o, xs, n, e, ho, hc, hd, hi, hn⟩ := hp v List.mem_cons_self
    obtain ⟨xs⟩ := xs
    obtain ⟨ns, hns⟩ : ∃ ns, ns = k v := ⟨_, rfl⟩
    rw [← hns] at hi hn
    cases hi with
    | nil => exact absurd rfl hn
    | cons i t r => exact ⟨_ :: fs, .cons ⟨a, o, _, n, e, ho, hc, hd, rfl, fun _ => ⟨i, t, rfl⟩, fun z => by cases z⟩ h1, by rw [List.length_cons, List.length_cons, h2]⟩
theorem ti_sortable {a : Addr} {vs : List Value} {k : Value → List Int} (h0 : 0 < vs.length) (hp : ∀ v ∈ vs, IsTI s.heap v (k v)) (ha : ∀ o, s.heap.get? a = some o → o.cls ≠ .type "tuple") : SrtO.SortableO prog w A s a vs fun v u => HT.lexLt (k v) (k u) := by
  intro h' keep
  have hp' : ∀ v ∈ vs, IsTI h' v (k v) := fun v hm => (hp v hm).keeps fun b o e c => keep b o (fun z => by subst z; exact ha o e c) e
  obtain ⟨fs, h1, h2⟩ := ti_tups hp'
  exact ⟨tuples' true, fun Q E hq => tup_kind (s := { s with heap := h' }) (by omega) h1 hq, ti_cmp hp'⟩
end
/-- sorted(xs), xs a list of tuples of whole numbers -/
def rSortedX (K : PySem.W.Frag) : List V → Hp → VK → Prop := fun vs H Q => ∃ (a : Addr) (ps : List (V × List Int)), vs = [V.ref a] ∧ SqL K H a (ps.map (·.1)) ∧ (∀ p ∈ ps, p.2 ≠ [] ∧ ∃ t, p.1 = V.ref t ∧ SqT K H t (p.2.map V.int)) ∧
  ∀ (qs : List (V × List Int)) (p : Addr), qs.Perm ps → qs.Pairwise (fun x y => HT.lexLt y.2 x.2 = false) → H p = none → Q (.ref p) (upd H p (.lst (qs.map (·.1))))
theorem cr_sortedX {X : Cx} : CallR X (.builtin "sorted") (rSortedX X.K) := by
  intro pins s σ H vs us Q I r h
  obtain ⟨a, ps, rfl, hs, hx, q⟩ := h
  obtain ⟨its, rv, hl, hz⟩ := I.list hs
  obtain ⟨u, rfl, ru⟩ := vals1 r
  obtain rfl : u = Value.ref a := ru
  have hq : ∀ {ps : List (V × List Int)} {its : List Value}, Vals (ps.map (·.1)) its → (∀ p ∈ ps, p.2 ≠ [] ∧ ∃ t, p.1 = V.ref t ∧ SqT X.K H t (p.2.map V.int)) → its.map (fun v => (backV v, keyI s.heap v)) = ps ∧ ∀ v ∈ its, IsTI s.heap v (keyI s.heap v) ∧ ∃ t, v = Value.ref t := by
    intro ps
    induction ps with
    | nil => intro its rv _; cases rv; exact ⟨rfl, fun v hv => absurd hv (by simp)⟩
    | cons p ps ih =>
      intro its rv hx
      cases rv with
      | cons r1 r2 =>
        obtain ⟨h1, h2⟩ := ih r2 fun p hp => hx p (List.mem_cons_of_mem _ hp)
        obtain ⟨hn, t, e, ht⟩ := hx p List.mem_cons_self
        obtain ⟨p1, p2⟩ := p
        have e : p1 = V.ref t := e
        subst e
        rename_i u us
        have eu : u = Value.ref t := r1
        subst eu
        obtain ⟨its2, rv2, pt, _⟩ := I.tuple ht
        obtain ⟨o, ho, hc, n, hd⟩ := pt
        have ti : IsTI s.heap (.ref t) p2 := ⟨t, o, its2.toArray, n, rfl, ho, hc, hd, rv2.ints, hn⟩
        refine ⟨?_, fun v hv => ?_⟩
        · rw [List.map_cons, h1, ti.keyI]
          rfl
        · rcases List.mem_cons.mp hv with rfl | hv
          · rw [ti.keyI]
            exact ⟨ti, _, rfl⟩
          · exact h2 v hv
  obtain ⟨e1, e2⟩ := hq rv hx
  refine SrtO.sorted_ord (NtL.swo_lexL (keyI s.heap)) hl.isList (by rw [← rv.length]; exact hz) (fun h2 h₁ a' ha' kk => ?_) fun out h1 h2 => ?_
  · refine ti_sortable (s := { s with heap := h₁ }) (by omega) (fun v hm => (e2 v hm).1.keeps fun b o e _ => (kk b o e).2) fun o e => ?_
    have e' : some o = some (seqObj "list" its.toArray 0) := e.symm.trans ha'
    cases e'
    intro c
    exact absurd (Value.type.inj c) (by decide)
  · have h3 : ∀ u ∈ out, ∃ a, u = Value.ref a := fun u hu => (e2 u (h2.perm.mem_iff.mp hu)).2
    have em : (out.map fun v => (backV v, keyI s.heap v)).map (·.1) = out.map backV := by rw [List.map_map]; rfl
    have hp : (out.map fun v => (backV v, keyI s.heap v)).Perm ps := by
      rw [← e1]
      exact h2.perm.map _
    have hlen : (out.map backV).length ≤ sizeLine := by
      rw [List.length_map, h2.perm.length_eq, ← rv.length]
      exact hz
    obtain ⟨ep, he'⟩ := PyProof.Rows.sortedAll_at s.heap its out.toArray
    refine ⟨.ref _, upd H (s.heap.objs.size + 1) (.lst (out.map backV)), I.laid (t' := s.toks) (fun _ _ => PyProof.Rows.sortedAll_old) (Nat.le_succ _) ⟨hlen, out, ep, vals_back h3, he'⟩, rfl, ?_⟩
    have := q _ (s.heap.objs.size + 1) hp (List.pairwise_map.mpr h1) (I.hok.fresh (Nat.le_succ _))
    rw [em] at this
    exact this

/-! ### two names set at once from a pair that is written -/
def blkOf (sc : Scope) : ScopeKind := if sc.kind.isAnnotationScope then .function else sc.kind
def swOk (sc : Scope) (px py : Pos) (x y : Str) (a b : Expr) : Bool :=
  (blkOf sc == .function) && (sc.names.lookup x == some .local) && (sc.names.lookup y == some .local) && (py.line == px.line) && !(x == y) && !(foldedForSure 8 a && foldedForSure 8 b) && !(constantsAlone 8 a && constantsAlone 8 b) &&
    !([a, b].any fun | .Starred .. => true | _ => false)
/-- two names of which the first is a cell: stored in order -/
def noSw (sc : Scope) : Expr → Bool
  | .Tuple [.Name x _, .Name _ _] _ _ => sc.names.lookup x == some .cell
  | _ => false
theorem no_stores {env : PySem.Env} {px py pt : Pos} {kt} {x y : Str} {v : Expr} (h : (env.scope.names.lookup x == some .cell) = true) :
    swappedStores [.Tuple [.Name x px, .Name y py] kt pt] v env = pure none := by
  have hx : (env.kindOf x == some .local) = false := by
    have e0 : (env.kindOf x == some .cell) = true := h
    have e : env.kindOf x = some .cell := by simpa using e0
    rw [e]; rfl
  unfold swappedStores
  have f : ∀ g : Expr → Option Str, g (.Name x px) = none → (List.filterMap g [Expr.Name x px, Expr.Name y py]).length ≠ 2 := fun g g1 => by
    rw [List.filterMap_cons_none g1]
    cases hg : g (.Name y py) <;> simp [hg]
  cases v with
  | Tuple vs k2 p2 =>
    simp only [List.length_cons, List.length_nil]
    split
    · rfl
    · split
      · rfl
      · refine if_pos ?_
        rw [Bool.or_eq_true]
        refine .inl ?_
        rw [bne_iff_ne]
        exact f _ (by simp [hx])
  | _ => rfl
theorem sw_stores {env : PySem.Env} {px py pt p2 : Pos} {kt k2} {x y : Str} {a b : Expr} (h : swOk env.scope px py x y a b = true) :
    swappedStores [.Tuple [.Name x px, .Name y py] kt pt] (.Tuple [a, b] k2 p2) env = pure (some [x, y]) := by
  unfold swOk at h
  simp only [Bool.and_eq_true, Bool.not_eq_true'] at h
  obtain ⟨⟨⟨⟨⟨⟨⟨h1, h2⟩, h3⟩, h4⟩, h5⟩, h6⟩, h7⟩, h8⟩ := h
  have hb : (env.blockKind != .function) = false := by
    have : (env.blockKind == .function) = true := h1
    rw [bne, this]; rfl
  have hx : (env.kindOf x == some .local) = true := h2
  have hy : (env.kindOf y == some .local) = true := h3
  have hne : (y == x) = false := by
    rw [beq_eq_false_iff_ne] at h5 ⊢
    exact Ne.symm h5
  unfold swappedStores
  simp only [List.any_cons, List.any_nil, Bool.or_false] at h8
  have e8 : ([a, b].any fun | .Starred .. => true | _ => false) = false := by
    simp only [List.any_cons, List.any_nil, Bool.or_false]
    exact h8
  simp [hb, e8, hx, hy, h4, h5, hne, h6, h7, List.eraseDups, List.eraseDupsBy, List.eraseDupsBy.loop, Expr.pos]
  have hx' : env.kindOf x = some .local := by simpa using hx
  have hy' : env.kindOf y = some .local := by simpa using hy
  have h4' : py.line = px.line := by simpa using h4
  have f : ∀ g : Expr → Option Str, g (.Name x px) = some x → g (.Name y py) = some y → List.filterMap g [Expr.Name x px, Expr.Name y py] = [x, y] := fun g g1 g2 => by simp [g1, g2]
  rw [Bool.or_eq_false_iff] at h8
  refine (if_neg ?_).trans ?_
  · rintro (h | h)
    · split at h
      · have := h8.1; simp at this
      · cases h
    · split at h
      · have := h8.2; simp at this
      · cases h
  · rw [f _ (by simp [hx']) (by simp [hy', h4'])]
    simp [List.eraseDupsBy.loop, hne, h5]
end Zn

/-! Zn, part 3: does a tree stand for a text? -/
namespace Zn
open PySem PySem.Spec PyProof.Rows L2

def visB (sc : Scope) (x : Str) : Bool :=
  match sc.names.lookup x with
  | some .local => true
  | some .cell => true
  | some .free => true
  | _ => false
def wrB (sc : Scope) (x : Str) : Bool :=
  match sc.names.lookup x with
  | some .local => true
  | some .cell => true
  | _ => false
def glB (sc : Scope) (x : Str) : Bool :=
  match sc.names.lookup x with
  | some .globalImplicit => true
  | _ => false
def nmOk (x : Str) : Bool := !(x == ("__debug__" : Str)) && !(x == ("__classdict__" : Str)) && !(x == ("__name__" : Str))
theorem visB_ok {sc : Scope} {x : Str} (h : visB sc x = true) : Vis sc x := by
  unfold visB at h
  split at h
  · exact .inl (by assumption)
  · exact .inr (.inl (by assumption))
  · exact .inr (.inr (by assumption))
  · cases h
theorem wrB_ok {sc : Scope} {x : Str} (h : wrB sc x = true) : Loc sc x := by
  unfold wrB at h
  split at h
  · exact .inl (by assumption)
  · exact .inr (by assumption)
  · cases h
theorem glB_ok {sc : Scope} {x : Str} (h : glB sc x = true) : sc.names.lookup x = some .globalImplicit := by
  unfold glB at h
  split at h
  · assumption
  · cases h
theorem nmOk_ok {x : Str} (h : nmOk x = true) : (x == ("__debug__" : Str)) = false ∧ (x == ("__classdict__" : Str)) = false ∧ x ≠ ("__name__" : Str) := by
  unfold nmOk at h
  simp only [Bool.and_eq_true, Bool.not_eq_true'] at h
  exact ⟨h.1.1, h.1.2, fun e => by rw [e] at h; simp at h⟩

def bName : Blt → Str
  | .len => "len"
  | .sum => "sum"
  | .all => "all"
  | .tuple => "tuple"
  | .list => "list"
  | .int => "int"
  | .min => "min"
  | .max => "max"
  | .sorted => "sorted"
  | .str => "str"
def mName : Mth → Str
  | .append => "append"
  | .extend => "extend"
  | .pop => "pop"
  | .reverse => "reverse"
  | .clear => "clear"
  | .insert => "insert"
  | .count => "count"
  | .index => "index"
def mAr : Mth → Nat
  | .append => 1
  | .extend => 1
  | .pop => 0
  | .reverse => 0
  | .clear => 0
  | .insert => 2
  | .count => 1
  | .index => 1
/-- the built-ins that a text may name -/
def bltNames : List Str := ["len", "sum", "all", "tuple", "list", "int", "bool", "str", "isinstance", "range", "enumerate", "reversed", "min", "max", "sorted", "set", "ValueError", "zip", "dict"]

/-- a test that is no e if t else f -/
def tst : T → Bool
  | .ite _ _ _ => false
  | .nt a => tst a
  | .bop _ es => tst es
  | .cons e es => tst e && tst es
  | .frz _ => false
  | _ => true
def isComp : Expr → Bool
  | .ListComp _ _ _ _ => true
  | _ => false
/-- the forms that our trees stand for -/
def pl : Expr → Bool
  | .Name _ _ => true
  | .Constant _ _ _ => true
  | .BinOp _ _ _ _ => true
  | .UnaryOp _ _ _ => true
  | .Compare _ _ _ _ => true
  | .BoolOp _ _ _ => true
  | .IfExp _ _ _ _ => true
  | .Tuple _ _ _ => true
  | .List _ _ => true
  | .Dict _ _ _ => true
  | .Subscript _ _ _ => true
  | .Call _ _ _ _ => true
  | .ListComp _ _ _ _ => true
  | .Attribute _ _ _ => true
  | _ => false
/-- what a method may be called of -/
def atB : Expr → Bool
  | .Call _ _ _ _ => false
  | _ => true
def conB (d : D) (c : Const) : Bool :=
  match d, c with
  | .non, .none => true
  | .bl b, .bool b' => b == b'
  | .int i, .int j => decide (i = j)
  | .str s, .str s' => decide (s = s')
  | _, _ => false
/-- the names stored by a comprehension -/
def chkN (N : List Str) (sc : Scope) : T → Expr → Bool
  | .tnm i, .Name x _ => decide (N[i]? = some x) && wrB sc x
  | .ttp ts, .Tuple es _ _ => chkNs N sc ts es
  | _, _ => false
where chkNs (N : List Str) (sc : Scope) : T → List Expr → Bool
  | .nil, [] => true
  | .cons (.tnm i) ts, .Name x _ :: es => decide (N[i]? = some x) && wrB sc x && chkNs N sc ts es
  | _, _ => false

/-- enumerate hands out pairs: two names are to stand there -/
def isEn : T → Bool
  | .senum _ => true
  | .szip _ _ => true
  | _ => false
def isTupE : Expr → Bool
  | .Tuple _ _ _ => true
  | _ => false
def tgOk (src : T) (g : Expr) : Bool := !isEn src || isTupE g
section
variable (N : List Str) (Fs : List Fn)
mutual
def chkE (sc : Scope) : T → Expr → Bool
  | .var i, ex => match ex with
    | .Name x _ => decide (N[i]? = some x) && visB sc x && nmOk x
    | _ => false
  | .con d, ex => match ex with
    | .Constant c _ _ => conB d c
    | _ => false
  | .gi f i, ex => match ex with
    | .Name x _ => (match Fs[f]? with
      | some fn => fn.isI x i
      | none => false) && glB sc x && nmOk x
    | _ => false
  | .bin _ op a b, ex => match ex with
    | .BinOp l o r _ => decide (op = o) && chkE sc a l && chkE sc b r
    | _ => false
  | .neg a, ex => match ex with
    | .UnaryOp .USub o _ => chkE sc a o
    | _ => false
  | .cmp op a b, ex => match ex with
    | .Compare l [o] [r] _ => decide (op = o) && chkE sc a l && chkE sc b r && pl r
    | _ => false
  | .cmp2 op op' a b c, ex => match ex with
    | .Compare l [o, o'] [r, r'] _ => decide (op = o) && decide (op' = o') && chkE sc a l && chkE sc b r && chkE sc c r' && pl r'
    | _ => false
  | .bop o es, ex => match ex with
    | .BoolOp o' vs _ => decide (o = o') && chkEs sc es vs && !vs.isEmpty
    | _ => false
  | .nt a, ex => match ex with
    | .UnaryOp .Not o _ => chkE sc a o
    | _ => false
  | .ite c a b, ex => match ex with
    | .IfExp t l r _ => chkE sc c t && tst c && chkE sc a l && chkE sc b r
    | _ => false
  | .tup es, ex => match ex with
    | .Tuple vs _ _ => chkEs sc es vs
    | _ => false
  | .lst _ es, ex => match ex with
    | .List vs _ => chkEs sc es vs
    | _ => false
  | .dct1 k v, ex => match ex with
    | .Dict [some k'] [v'] _ => chkE sc k k' && chkE sc v v'
    | _ => false
  | .sub a i, ex => match ex with
    | .Subscript l r _ => chkE sc a l && chkE sc i r && pl r
    | _ => false
  | .slc _ a lo hi, ex => match ex with
    | .Subscript l (.Slice u w none _) _ => chkE sc a l && chkO sc lo u && chkO sc hi w
    | _ => false
  | .call f _ es, ex => match ex with
    | .Call (.Name x _) (v :: vs) [] _ => (match Fs[f]? with
      | some fn => decide (fn.name = x) && !fn.isC
      | none => false) && glB sc x && nmOk x && chkEs sc es (v :: vs)
    | _ => false
  | .blt b _ es, ex => match ex with
    | .Call (.Name x _) (v :: vs) [] _ => decide (bName b = x) && glB sc x && chkEs sc es (v :: vs)
    | _ => false
  | .isi a ty, ex => match ex with
    | .Call (.Name x _) [v, .Name y _] [] _ => decide (x = ("isinstance" : Str)) && decide (y = Str.ofString ty) && isiK ty && glB sc x && glB sc y && chkE sc a v && pl v
    | _ => false
  | .isi2 a ty ty', ex => match ex with
    | .Call (.Name x _) [v, .Tuple [.Name y _, .Name z _] _ _] [] _ => decide (x = ("isinstance" : Str)) && decide (y = Str.ofString ty) && isiK ty && decide (z = Str.ofString ty') && isiK ty' && glB sc x && glB sc y && glB sc z && chkE sc a v && pl v
    | _ => false
  | .comp _ src tg own cond elt, ex => match ex with
    | .ListComp elt' [⟨tg', iter, ifs, k⟩] scope _ => decide (k = 0) && chkW sc src iter && blkC N sc scope own && chkN N scope tg tg' && (slots tg).all (fun i => decide (i ∈ own.map (·.2))) && chkC (relS scope sc) cond ifs && chkE (relS scope sc) elt elt' && tgOk src tg'
    | _ => false
  | .rev _ a, ex => match ex with
    | .Subscript l (.Slice none none (some (.UnaryOp .USub (.Constant (.int 1) _ _) _)) _) _ => chkE sc a l
    | _ => false
  | .suq _ a, ex => match ex with
    | .Call (.Name x _) [.Call (.Name y _) [v] [] _] [] _ => decide (x = ("sorted" : Str)) && decide (y = ("set" : Str)) && glB sc x && glB sc y && chkE sc a v && pl v
    | _ => false
  | .mmd g a, ex => match ex with
    | .Call (.Name x _) [v] [⟨some y, .Constant .none _ _, _⟩] _ => decide (x = (if g = true then ("max" : Str) else ("min" : Str))) && decide (y = ("default" : Str)) && glB sc x && chkE sc a v && pl v
    | _ => false
  | .cmp4 op op' op'' a b c d, ex => match ex with
    | .Compare l [o, o', o''] [r, r', r''] _ => decide (op = o) && decide (op' = o') && decide (op'' = o'') && chkE sc a l && chkE sc b r && chkE sc c r' && chkE sc d r'' && pl r''
    | _ => false
  | .lrng _ a, ex => match ex with
    | .Call (.Name x _) [.Call (.Name y _) [v] [] _] [] _ => decide (x = ("list" : Str)) && decide (y = ("range" : Str)) && glB sc x && glB sc y && chkE sc a v && pl v
    | _ => false
  | .frz a, ex => chkE sc a ex && !isComp ex
  | .mth k o es, ex => match ex with
    | .Call (.Attribute v x apos) vs [] pos => decide (mName k = x) && (apos.endLine == pos.line) && chkE sc o v && atB v && chkEs sc es vs && decide (vs.length = mAr k)
    | _ => false
  | _, _ => false
def chkEs (sc : Scope) : T → List Expr → Bool
  | .nil, vs => vs.isEmpty
  | .cons e es, vs => match vs with
    | v :: vs => pl v && chkE sc e v && chkEs sc es vs
    | _ => false
  | _, _ => false
def chkO (sc : Scope) : T → Option Expr → Bool
  | .no, v => v.isNone
  | .so e, v => match v with
    | some v => chkE sc e v
    | none => false
  | _, _ => false
def chkC (sc : Scope) : T → List Expr → Bool
  | .no, vs => vs.isEmpty
  | .so e, vs => match vs with
    | [v] => chkE sc e v && tst e
    | _ => false
  | _, _ => false
def chkW (sc : Scope) : T → Expr → Bool
  | .sit e, ex => chkE sc e ex && pl ex
  | .srng k es, ex => match ex with
    | .Call (.Name x _) vs [] _ => decide (x = ("range" : Str)) && glB sc x && chkEs sc es vs && decide (vs.length = k) && decide (k = 1 ∨ k = 2 ∨ k = 3)
    | _ => false
  | .senum e, ex => match ex with
    | .Call (.Name x _) [v] [] _ => decide (x = ("enumerate" : Str)) && glB sc x && chkE sc e v && pl v
    | _ => false
  | .srev e, ex => match ex with
    | .Call (.Name x _) [v] [] _ => decide (x = ("reversed" : Str)) && glB sc x && chkE sc e v && pl v
    | _ => false
  | .szip a b, ex => match ex with
    | .Call (.Name x _) [v, w] [] _ => decide (x = ("zip" : Str)) && glB sc x && chkE sc a v && pl v && chkE sc b w && pl w
    | _ => false
  | _, _ => false
end
def chkG (sc : Scope) : T → Expr → Bool
  | .tnm i, ex => match ex with
    | .Name x _ => decide (N[i]? = some x) && wrB sc x
    | _ => false
  | .tix a i, ex => match ex with
    | .Subscript l r _ => chkE N Fs sc a l && chkE N Fs sc i r && pl r
    | _ => false
  | .ttp ts, ex => match ex with
    | .Tuple es _ _ => chkGs sc ts es
    | _ => false
  | _, _ => false
where chkGs (sc : Scope) : T → List Expr → Bool
  | .nil, es => es.isEmpty
  | .cons t ts, es => match es with
    | e :: es => chkG sc t e && chkGs sc ts es
    | _ => false
  | _, _ => false
/-- two names set at once from a pair that is written: stored from the right -/
def swapped : T → Expr → Bool
  | .ttp _, .Tuple _ _ _ => true
  | _, _ => false
/-- the class that a name names -/
def chkC1 (sc : Scope) (c : Nat) : Expr → Bool
  | .Name z _ => decide (cn c = z) && glB sc z && decide (c ≤ 7)
  | _ => false
def chkCs (sc : Scope) : List Nat → List Expr → Bool
  | [], [] => true
  | c :: cs, e :: es => chkC1 sc c e && chkCs sc cs es
  | _, _ => false
def chkZ (sc : Scope) (cs : List Nat) : Expr → Bool
  | .Tuple es _ _ => chkCs sc cs es && decide (cs.length ≤ 100)
  | z => chkCs sc cs [z]
mutual
/-- in a suite that holds its exception by the name at i -/
def chkH (sc : Scope) (i : Nat) : T → Expr → Bool
  | .isx cs, ex => match ex with
    | .Call (.Name f _) [.Name y _, z] [] _ => decide (f = ("isinstance" : Str)) && glB sc f && decide (N[i]? = some y) && visB sc y && nmOk y && chkZ sc cs z
    | _ => false
  | .var j, ex => match ex with
    | .Name x _ => decide (N[j]? = some x) && visB sc x && nmOk x
    | _ => false
  | .lst _ es, ex => match ex with
    | .List vs _ => chkHs sc i es vs
    | _ => false
  | _, _ => false
def chkHs (sc : Scope) (i : Nat) : T → List Expr → Bool
  | .nil, vs => vs.isEmpty
  | .cons e es, vs => match vs with
    | v :: vs => pl v && chkH sc i e v && chkHs sc i es vs
    | _ => false
  | _, _ => false
end
def chkX (sc : Scope) (i : Nat) : T → Stmt → Bool
  | .sset (.tnm j) e, s => match s with
    | .Assign [.Name x _] v _ => decide (j ≠ i) && decide (N[j]? = some x) && wrB sc x && chkH N sc i e v && pl v
    | _ => false
  | .sexp (.mth .append (.var j) (.cons e .nil)), s => match s with
    | .Expr (.Call (.Attribute (.Name y py) x apos) [v] [] pos) _ => decide (x = ("append" : Str)) && (apos.endLine == pos.line) && chkH N sc i (.var j) (.Name y py) && chkH N sc i e v && pl v
    | _ => false
  | _, _ => false
def chkXs (sc : Scope) (i : Nat) : T → List Stmt → Bool
  | .nil, ss => ss.isEmpty
  | .cons s ss, l => match l with
    | x :: l => chkX N sc i s x && chkXs sc i ss l
    | _ => false
  | _, _ => false
mutual
def chkS (sc : Scope) : T → Stmt → Bool
  | .sset tg e, s => match s with
    | .Assign [g] v _ => chkG N Fs sc tg g && chkE N Fs sc e v && pl v && (!swapped tg v || noSw sc g)
    | _ => false
  | .sexp e, s => match s with
    | .Expr v _ => chkE N Fs sc e v && pl v && !isComp v
    | _ => false
  | .sret e, s => match s with
    | .Return (some v) _ => chkE N Fs sc e v
    | _ => false
  | .sretn, s => match s with
    | .Return none _ => true
    | _ => false
  | .sif c a b, s => match s with
    | .If t l r _ => chkE N Fs sc c t && tst c && chkSs sc a l && chkSs sc b r
    | _ => false
  | .swhile c b, s => match s with
    | .While t l [] _ => chkE N Fs sc c t && tst c && chkSs sc b l
    | _ => false
  | .sfor src tg b, s => match s with
    | .For g iter l [] _ => chkW N Fs sc src iter && chkG N Fs sc tg g && chkSs sc b l && tgOk src g
    | _ => false
  | .sbrk, s => match s with
    | .Break _ => true
    | _ => false
  | .scnt, s => match s with
    | .Continue _ => true
    | _ => false
  | .spass, s => match s with
    | .Pass _ => true
    | _ => false
  | .sdead, _ => true
  | .spar i j a b, s => match s with
    | .Assign [.Tuple [.Name x px, .Name y py] _ _] (.Tuple [v, w] _ _) _ => decide (i ≠ j) && decide (N[i]? = some x) && decide (N[j]? = some y) && chkE N Fs sc a v && pl v && chkE N Fs sc b w && pl w && swOk sc px py x y v w
    | _ => false
  | .saug a i e, s => match s with
    | .AugAssign (.Subscript l r _) .Add v _ => chkE N Fs sc a l && chkE N Fs sc i r && pl r && chkE N Fs sc e v && pl v
    | _ => false
  | .sraise c, s => match s with
    | .Raise (some (.Call (.Name x _) [.Constant (.str _) _ _] [] _)) none _ => decide (cn c = x) && glB sc x && nmOk x && rzB Fs c
    | _ => false
  | .stry b c i h, s => match s with
    | .Try body [.ExceptHandler (some (.Name x _)) (some n) (s0 :: ss) _] [] [] _ => chkSs sc b body && decide (cn c = x) && glB sc x && nmOk x && decide (c < 7) && (List.range 7).any (rzB Fs) && decide (N[i]? = some n) && decide (sc.names.lookup n = some .local) && chkXs N sc i h (s0 :: ss)
    | _ => false
  | _, _ => false
def chkSs (sc : Scope) : T → List Stmt → Bool
  | .nil, ss => ss.isEmpty
  | .cons s ss, l => match l with
    | x :: l => chkS sc s x && chkSs sc ss l
    | _ => false
  | .sdead, _ => true
  | _, _ => false
end
end
end Zn

/-! Zn, part 4: what is wanted behind an evaluation; the operators keep it. -/
namespace Zn
open PySem PySem.Spec PyProof.Rows L2

structure RE (K : PySem.W.Frag) (s : Sit) (env : Env) (σ : L2.St) : Prop where
  len : env.length = σ.length
  at_ : ∀ (i : Nat) (d : D), env[i]? = some (some d) → ∃ v, σ[i]? = some (some v) ∧ Rep K s d v
def RX (K : PySem.W.Frag) (cA : Nat → Option Addr) (s : Sit) (x : Exn) (cls : Value) (dd : Option Addr) : Prop :=
  ∃ C, cA x.cls = some C ∧ cls = .ref C ∧ match x.arg with
    | none => dd = none
    | some d => ∃ a v, dd = some a ∧ s.H a = some (.xd [("number", v)]) ∧ RD K s.H s.M d v

section
variable {K : PySem.W.Frag} {cA : Nat → Option Addr} {s s' s1 : Sit} {σ : L2.St} {W : WX} {env : Env}
theorem RE.le (ok : s.Ok K) (e : s.Le s') (r : RE K s env σ) : RE K s' env σ := ⟨r.len, fun i d h => let ⟨v, h1, h2⟩ := r.at_ i d h; ⟨v, h1, h2.le ok e⟩⟩
theorem RE.set {i : Nat} {d : D} {v : V} (r : RE K s env σ) (h : Rep K s d v) : RE K s (env.set i (some d)) (σ.set i (some v)) := by
  refine ⟨by rw [List.length_set, List.length_set]; exact r.len, fun j e he => ?_⟩
  by_cases hj : i = j
  · subst hj
    by_cases hi : i < env.length
    · rw [List.getElem?_set_self hi] at he
      cases he
      exact ⟨v, by rw [List.getElem?_set_self (by rw [← r.len]; exact hi)], h⟩
    · rw [List.getElem?_eq_none (by simpa using hi)] at he
      cases he
  · rw [List.getElem?_set_ne hj] at he
    obtain ⟨w, h1, h2⟩ := r.at_ j e he
    exact ⟨w, by rw [List.getElem?_set_ne hj]; exact h1, h2⟩
theorem wipeE_length (env : Env) : ∀ vs : List Nat, (wipeE env vs).length = env.length
  | [] => rfl
  | v :: vs => by unfold wipeE; rw [List.length_set, wipeE_length env vs]
theorem RE.wipe (r : RE K s env σ) : ∀ vs : List Nat, RE K s (wipeE env vs) (L2.wipe σ vs)
  | [] => r
  | v :: vs => by
    have ih := RE.wipe r vs
    refine ⟨by rw [wipeE_length, wipe_length]; exact r.len, fun i d h => ?_⟩
    unfold wipeE at h
    unfold L2.wipe
    by_cases e : v = i
    · subst e
      by_cases hv : v < (wipeE env vs).length
      · rw [List.getElem?_set_self hv] at h
        cases h
      · rw [List.getElem?_eq_none (by simpa using hv)] at h
        cases h
    · rw [List.getElem?_set_ne e] at h
      rw [List.getElem?_set_ne e]
      exact ih.at_ i d h

def Post {α : Type} (K : PySem.W.Frag) (cA : Nat → Option Addr) (s : Sit) (σ : L2.St) (W : WX) (r : Res α) (Q : α → Sit → Prop) : Prop :=
  match r with
  | .ok a st => ∀ s', s'.st = st → s'.Ok K → s.Le s' → Q a s'
  | .exc x st => ∀ s' cls dd, s'.st = st → s'.Ok K → s.Le s' → RX K cA s' x cls dd → W cls dd σ s'.H
  | .err => False
theorem Post.le {α : Type} {r : Res α} {Q : α → Sit → Prop} (e : s.Le s') (h : Post K cA s σ W r Q) : Post K cA s' σ W r Q := by
  cases r with
  | ok a st => exact fun t h1 h2 h3 => h t h1 h2 (e.trans h3)
  | exc x st => exact fun t c d h1 h2 h3 h4 => h t c d h1 h2 (e.trans h3) h4
  | err => exact h
theorem Post.mono {α : Type} {r : Res α} {Q Q' : α → Sit → Prop} (h : Post K cA s σ W r Q) (i : ∀ a s', s'.Ok K → s.Le s' → Q a s' → Q' a s') : Post K cA s σ W r Q' := by
  cases r with
  | ok a st => exact fun t h1 h2 h3 => i a t h2 h3 (h t h1 h2 h3)
  | exc x st => exact h
  | err => exact h
/-- the first of two, the second to come -/
theorem Post.split {α β : Type} {r : Res α} {k : α → Store → Res β} {Q : β → Sit → Prop} (h : Post K cA s σ W (r.bind k) Q) :
    Post K cA s σ W r fun a s1 => Post K cA s1 σ W (k a s1.st) Q := by
  cases r with
  | ok a st =>
    intro t h1 h2 h3
    have h : Post K cA s σ W (k a st) Q := h
    rw [← h1] at h
    exact h.le h3
  | exc x st => exact h
  | err => exact h

/-- an expression's end, by values -/
abbrev PQ (K : PySem.W.Frag) (Q : VK) : D → Sit → Prop := fun d s' => ∀ v, Rep K s' d v → Q v s'.H
def tE (K : PySem.W.Frag) (cA : Nat → Option Addr) (F : CallF) (W : WX) (e : T) : TE := fun σ H Q => ∃ s env, s.H = H ∧ s.Ok K ∧ RE K s env σ ∧ Post K cA s σ W (ev F e env s.st) (PQ K Q)
def tA (K : PySem.W.Frag) (cA : Nat → Option Addr) (F : CallF) (W : WX) (e : T) : TA := fun σ H Q => ∃ s env, s.H = H ∧ s.Ok K ∧ RE K s env σ ∧ Post K cA s σ W (evs F e env s.st) fun ds s' => ∀ vs, Reps K s' ds vs → Q vs s'.H
def tT (K : PySem.W.Frag) (cA : Nat → Option Addr) (F : CallF) (W : WX) (e : T) : TT := fun σ H Q => ∃ s env, s.H = H ∧ s.Ok K ∧ RE K s env σ ∧ Post K cA s σ W (ev F e env s.st) fun d s' => ∃ b, d = .bl b ∧ Q b s'.H
def tB' (K : PySem.W.Frag) (cA : Nat → Option Addr) (F : CallF) (W : WX) (o : BoolOp) (e : T) : TE := fun σ H Q => ∃ s env, s.H = H ∧ s.Ok K ∧ RE K s env σ ∧ Post K cA s σ W (evB F o e env s.st) (PQ K Q)
def tBT (K : PySem.W.Frag) (cA : Nat → Option Addr) (F : CallF) (W : WX) (o : BoolOp) (e : T) : TT := fun σ H Q => ∃ s env, s.H = H ∧ s.Ok K ∧ RE K s env σ ∧ Post K cA s σ W (evB F o e env s.st) fun d s' => ∃ b, d = .bl b ∧ Q b s'.H
def tO (K : PySem.W.Frag) (cA : Nat → Option Addr) (F : CallF) (W : WX) (e : T) : TO := fun σ H Q => ∃ s env, s.H = H ∧ s.Ok K ∧ RE K s env σ ∧ Post K cA s σ W (evo F e env s.st) fun o s' => Q o s'.H
def tC' (K : PySem.W.Frag) (cA : Nat → Option Addr) (F : CallF) (W : WX) (e : T) : TT := fun σ H Q => ∃ s env, s.H = H ∧ s.Ok K ∧ RE K s env σ ∧ Post K cA s σ W (evt F e env s.st) fun b s' => Q b s'.H

theorem PE.imp {X : Cx} {e : Expr} {t t' : TE} (h : PE X e t) (i : ∀ σ H Q, t' σ H Q → t σ H Q) : PE X e t' := ⟨fun pins s σ H Q I hw => h.run pins s σ H Q I (i σ H Q hw)⟩
theorem PT.imp {X : Cx} {e : Expr} {t t' : TT} (h : PT X e t) (i : ∀ σ H Q, t' σ H Q → t σ H Q) : PT X e t' := ⟨fun pins s σ H Q I hw => h.run pins s σ H Q I (i σ H Q hw)⟩
theorem PW.imp {X : Cx} {e : Expr} {t t' : TT} (h : PW X e t) (i : ∀ σ H Q, t' σ H Q → t σ H Q) : PW X e t' := ⟨fun wh pins s σ H Q I hw => h.run wh pins s σ H Q I (i σ H Q hw)⟩
theorem PA.imp {X : Cx} {e : List Expr} {t t' : TA} (h : PA X e t) (i : ∀ σ H Q, t' σ H Q → t σ H Q) : PA X e t' := ⟨fun pos pins s σ H Q I hw => h.run pos pins s σ H Q I (i σ H Q hw)⟩
theorem PO.imp {X : Cx} {e : Option Expr} {t t' : TO} (h : PO X e t) (i : ∀ σ H Q, t' σ H Q → t σ H Q) : PO X e t' := ⟨fun pins s σ H Q I hw => h.run pins s σ H Q I (i σ H Q hw)⟩
theorem PS.imp {X : Cx} {e : Stmt} {t t' : TS} (h : PS X e t) (i : ∀ D σ H, t' D σ H → t D σ H) : PS X e t' := ⟨fun pins s σ H D I hw => h.run pins s σ H D I (i D σ H hw)⟩
theorem PSs.imp {X : Cx} {e : List Stmt} {t t' : TS} (h : PSs X e t) (i : ∀ D σ H, t' D σ H → t D σ H) : PSs X e t' := ⟨fun pins s σ H D I hw => h.run pins s σ H D I (i D σ H hw)⟩
theorem PG.imp {X : Cx} {e : Expr} {t t' : TG} (h : PG X e t) (i : ∀ v σ H Q, t' v σ H Q → t v σ H Q) : PG X e t' := ⟨fun pins s σ H v u Q I r hw => h.run pins s σ H v u Q I r (i v σ H Q hw)⟩
theorem PGs.imp {X : Cx} {e : List Expr} {t t' : TGs} (h : PGs X e t) (i : ∀ v σ H Q, t' v σ H Q → t v σ H Q) : PGs X e t' := ⟨fun pins s σ H v u Q I r hw => h.run pins s σ H v u Q I r (i v σ H Q hw)⟩
theorem PI.imp {X : Cx} {tg e : Expr} {t t' : TI} (h : PI X tg e t) (i : ∀ σ H Q, t' σ H Q → t σ H Q) : PI X tg e t' := ⟨fun pins s σ H Q I hw => h.run pins s σ H Q I (i σ H Q hw)⟩

/-! ### from a situation on -/
theorem tE_of {F : CallF} {e : T} {H : Hp} {Q : VK} (ok : s.Ok K) (re : RE K s env σ) (eH : s.H = H) (h : Post K cA s σ W (ev F e env s.st) (PQ K Q)) : tE K cA F W e σ H Q := ⟨s, env, eH, ok, re, h⟩
/-- one, then the rest -/
theorem tE_then {F : CallF} {e : T} {β : Type} {k : D → Store → Res β} {Q' : β → Sit → Prop} {Q : VK} (ok : s.Ok K) (re : RE K s env σ) (h : Post K cA s σ W ((ev F e env s.st).bind k) Q')
    (n : ∀ s1 d x, s1.Ok K → s.Le s1 → RE K s1 env σ → Rep K s1 d x → Post K cA s1 σ W (k d s1.st) Q' → Q x s1.H) : tE K cA F W e σ s.H Q :=
  ⟨s, env, rfl, ok, re, h.split.mono fun d s1 o1 l1 h1 v hv => n s1 d v o1 l1 (re.le ok l1) hv h1⟩
theorem tA_then {F : CallF} {e : T} {β : Type} {k : List D → Store → Res β} {Q' : β → Sit → Prop} {Q : List V → Hp → Prop} (ok : s.Ok K) (re : RE K s env σ) (h : Post K cA s σ W ((evs F e env s.st).bind k) Q')
    (n : ∀ s1 d x, s1.Ok K → s.Le s1 → RE K s1 env σ → Reps K s1 d x → Post K cA s1 σ W (k d s1.st) Q' → Q x s1.H) : tA K cA F W e σ s.H Q :=
  ⟨s, env, rfl, ok, re, h.split.mono fun d s1 o1 l1 h1 v hv => n s1 d v o1 l1 (re.le ok l1) hv h1⟩
theorem tO_then {F : CallF} {e : T} {β : Type} {k : Option Int → Store → Res β} {Q' : β → Sit → Prop} {Q : Option Int → Hp → Prop} (ok : s.Ok K) (re : RE K s env σ) (h : Post K cA s σ W ((evo F e env s.st).bind k) Q')
    (n : ∀ s1 d, s1.Ok K → s.Le s1 → RE K s1 env σ → Post K cA s1 σ W (k d s1.st) Q' → Q d s1.H) : tO K cA F W e σ s.H Q :=
  ⟨s, env, rfl, ok, re, h.split.mono fun d s1 o1 l1 h1 => n s1 d o1 l1 (re.le ok l1) h1⟩
/-- a test, then the rest -/
theorem tT_then {F : CallF} {e : T} {β : Type} {k : Bool → Store → Res β} {Q' : β → Sit → Prop} {Q : Bool → Hp → Prop} (ok : s.Ok K) (re : RE K s env σ) (h : Post K cA s σ W ((ev F e env s.st).bind fun x st => tstB x st k) Q')
    (n : ∀ s1 b, s1.Ok K → s.Le s1 → RE K s1 env σ → Post K cA s1 σ W (k b s1.st) Q' → Q b s1.H) : tT K cA F W e σ s.H Q :=
  ⟨s, env, rfl, ok, re, h.split.mono fun d s1 o1 l1 h1 => by
    cases d with
    | bl b => exact ⟨b, rfl, n s1 b o1 l1 (re.le ok l1) h1⟩
    | _ => exact False.elim h1⟩

/-! ### what comes of the ends -/
theorem post_ok {α : Type} {a : α} {Q : α → Sit → Prop} (ok : s.Ok K) (h : Post K cA s σ W (.ok a s.st) Q) : Q a s := h s rfl ok (Sit.Le.refl s)
theorem post_val {d : D} {v : V} {Q : VK} (ok : s.Ok K) (h : Post K cA s σ W (.ok d s.st) (PQ K Q)) (r : Rep K s d v) : Q v s.H := post_ok ok h v r
theorem post_mk {m : Bool} {xs : List D} {vs : List V} {Q : VK} (ok : s.Ok K) (hr : RDs K s.H s.M xs vs) (h : Post K cA s σ W (mk m xs s.st) (PQ K Q)) : ∀ p, s.H p = none → Q (.ref p) (upd s.H p (.lst vs)) := by
  intro p hp
  cases m with
  | false =>
    refine h (s.put p (.lst vs)) rfl (Sit.put_ok ok hp) (Sit.put_le hp) (.ref p) (.dat (.lst upd_same ?_ (hr.le ok (Sit.put_le hp))))
    exact fun m => Sit.notM ok hp m
  | true => exact h (s.new p xs vs) rfl (Sit.new_ok ok hp hr) (Sit.new_le ok hp) (.ref p) (Sit.new_at ok)
theorem post_tup {xs : List D} {vs : List V} {Q : VK} (ok : s.Ok K) (hr : RDs K s.H s.M xs vs) (h : Post K cA s σ W (.ok (.tup xs) s.st) (PQ K Q)) : ∀ p, s.H p = none → Q (.ref p) (upd s.H p (.tup vs)) := fun p hp =>
  h (s.put p (.tup vs)) rfl (Sit.put_ok ok hp) (Sit.put_le hp) (.ref p) (.dat (.tup (SqT.of upd_same) (hr.le ok (Sit.put_le hp))))

/-- what lstOf tells of the heap -/
theorem lstOf_ok {d : D} {v : V} {xs : List D} (ok : s.Ok K) (r : Rep K s d v) (h : lstOf s.st d = some xs) : ∃ a vs, v = .ref a ∧ s.H a = some (.lst vs) ∧ RDs K s.H s.M xs vs := by
  cases r with
  | ref ha =>
    rename_i l a
    unfold lstOf at h
    simp only at h
    split at h
    · rename_i ys hc
      cases h
      obtain ⟨vs, h1, h2⟩ := cellOk_iff.mp (ok.cell l _ a hc ha)
      exact ⟨a, vs, rfl, h1, h2⟩
    · cases h
  | dat r =>
    cases r with
    | lst h1 n r =>
      unfold lstOf at h
      cases h
      exact ⟨_, _, rfl, h1, r⟩
    | _ => cases h
theorem atI_map {α β : Type} {f : α → β} {xs : List α} {i : Int} {x : α} (h : atI xs i = some x) : atI (xs.map f) i = some (f x) := by
  unfold atI at h ⊢
  rw [List.length_map]
  cases e : ixN xs.length i with
  | none => rw [e] at h; cases h
  | some j =>
    rw [e] at h
    simp only [Option.bind_some] at h ⊢
    rw [List.getElem?_map, h]
    rfl
theorem RDs.atI {H : Hp} {M : Addr → Prop} {ds : List D} {vs : List V} {i : Int} {d : D} (r : RDs K H M ds vs) (h : L2.atI ds i = some d) : ∃ v, L2.atI vs i = some v ∧ RD K H M d v := by
  unfold L2.atI at h ⊢
  rw [← r.length]
  cases e : ixN ds.length i with
  | none => rw [e] at h; cases h
  | some j =>
    rw [e] at h
    simp only [Option.bind_some] at h ⊢
    exact r.get h
theorem RDs.cut {H : Hp} {M : Addr → Prop} {ds : List D} {vs : List V} {lo hi : Option Int} (r : RDs K H M ds vs) : RDs K H M (cutD ds lo hi) (cutV vs lo hi) := by
  unfold cutD cutV
  rw [← r.length]
  exact (r.drop _).take _
theorem cutD_whole {xs : List D} {lo hi : Option Int} (h : HT.sIx xs.length 0 lo = 0 ∧ HT.sIx xs.length xs.length hi = xs.length) : cutD xs lo hi = xs := by
  unfold cutD
  rw [h.1, h.2, List.drop_zero, Nat.sub_zero, List.take_length]
theorem intsOf_ok : ∀ {xs : List D} {ns : List Int}, intsOf xs = some ns → xs = ns.map D.int
  | [], ns, h => by cases h; rfl
  | .int i :: r, ns, h => by
    unfold intsOf at h
    cases e : intsOf r with
    | none => rw [e] at h; cases h
    | some ms =>
      rw [e] at h
      cases h
      rw [intsOf_ok e]
      rfl
  | .non :: _, _, h => by cases h
  | .bl _ :: _, _, h => by cases h
  | .str _ :: _, _, h => by cases h
  | .tup _ :: _, _, h => by cases h
  | .lst _ :: _, _, h => by cases h
  | .scr _ :: _, _, h => by cases h
  | .dct :: _, _, h => by cases h
  | .ref _ :: _, _, h => by cases h
theorem boolsOf_ok : ∀ {xs : List D} {ns : List Bool}, boolsOf xs = some ns → xs = ns.map D.bl
  | [], ns, h => by cases h; rfl
  | .bl i :: r, ns, h => by
    unfold boolsOf at h
    cases e : boolsOf r with
    | none => rw [e] at h; cases h
    | some ms =>
      rw [e] at h
      cases h
      rw [boolsOf_ok e]
      rfl
  | .non :: _, _, h => by cases h
  | .int _ :: _, _, h => by cases h
  | .str _ :: _, _, h => by cases h
  | .tup _ :: _, _, h => by cases h
  | .lst _ :: _, _, h => by cases h
  | .scr _ :: _, _, h => by cases h
  | .dct :: _, _, h => by cases h
  | .ref _ :: _, _, h => by cases h
theorem RDs.replicate {H : Hp} {M : Addr → Prop} {ds : List D} {vs : List V} (r : RDs K H M ds vs) : ∀ n : Nat, RDs K H M (List.replicate n ds).flatten (List.replicate n vs).flatten
  | 0 => .nil
  | n + 1 => by
    rw [List.replicate_succ, List.replicate_succ, List.flatten_cons, List.flatten_cons]
    exact r.append (RDs.replicate r n)

/-! ### the operators -/
def OpS (K : PySem.W.Frag) (cA : Nat → Option Addr) (g : D → D → Store → Res D) (r : R2) : Prop :=
  ∀ (s : Sit) (σ : L2.St) (W : WX) (d e : D) (x y : V) (Q : VK), s.Ok K → Rep K s d x → Rep K s e y → Post K cA s σ W (g d e s.st) (PQ K Q) → r x y s.H Q
theorem rep_int {i : Int} {v : V} (r : Rep K s (.int i) v) : v = .int i := by
  cases r with
  | dat r => cases r; rfl
theorem rep_bl {i : Bool} {v : V} (r : Rep K s (.bl i) v) : v = .bl i := by
  cases r with
  | dat r => cases r; rfl
theorem rep_str {i : Str} {v : V} (r : Rep K s (.str i) v) : v = .str i := by
  cases r with
  | dat r => cases r; rfl
theorem rep_non {v : V} (r : Rep K s .non v) : v = .non := by
  cases r with
  | dat r => cases r; rfl
theorem rep_tup {xs : List D} {v : V} (r : Rep K s (.tup xs) v) : ∃ a vs, v = .ref a ∧ SqT K s.H a vs ∧ RDs K s.H s.M xs vs := by
  cases r with
  | dat r => cases r with
    | tup h r => exact ⟨_, _, rfl, h, r⟩
theorem rep_scr {ns : List Int} {v : V} (r : Rep K s (.scr ns) v) : ∃ a, v = .ref a ∧ SqL K s.H a (ns.map V.int) := by
  cases r with
  | dat r => cases r with
    | scr h => exact ⟨_, rfl, by
        rcases h with ⟨o, h⟩ | h
        · exact .inl (.inr ⟨o, h⟩)
        · exact .inr h⟩
theorem Rep.int (i : Int) : Rep K s (.int i) (.int i) := .dat (.int i)
theorem Rep.bl (i : Bool) : Rep K s (.bl i) (.bl i) := .dat (.bl i)
theorem Rep.str (i : Str) : Rep K s (.str i) (.str i) := .dat (.str i)
theorem Rep.non : Rep K s .non .non := .dat .non

theorem ops_add {m : Bool} : OpS K cA (addF m) (fun x y H Q => rI0 (fun i j => .int (i + j)) x y H Q ∨ ((∃ i j, x = .str i ∧ y = .str j ∧ i.length + j.length ≤ sizeLine ∧ Q (.str (i ++ j)) H) ∨ (rCatA K x y H Q ∨ rCat x y H Q))) := by
  intro s σ W d e x y Q ok rx ry h
  unfold addF at h
  split at h
  · cases rep_int rx; cases rep_int ry
    exact .inl ⟨_, _, rfl, rfl, post_val ok h (.int _)⟩
  · cases rep_str rx; cases rep_str ry
    split at h
    · rename_i hz
      exact .inr (.inl ⟨_, _, rfl, rfl, hz, post_val ok h (.str _)⟩)
    · exact h.elim
  · obtain ⟨a, us, rfl, ha, ra⟩ := rep_tup rx
    obtain ⟨b, ws, rfl, hb, rb⟩ := rep_tup ry
    split at h
    · rename_i xs ys hz
      refine .inr (.inr (.inl ⟨a, b, us, ws, rfl, rfl, ha, hb, by rw [← ra.length, ← rb.length]; exact hz, fun e => ?_, fun _ e => ?_, fun _ _ => post_tup ok (ra.append rb) h⟩))
      · subst e
        cases ra
        exact post_val ok h ry
      · subst e
        cases rb
        rw [List.append_nil] at h
        exact post_val ok h rx
    · exact h.elim
  · split at h
    · rename_i xs ys hx hy
      obtain ⟨a, us, rfl, ha, ra⟩ := lstOf_ok ok rx hx
      obtain ⟨b, ws, rfl, hb, rb⟩ := lstOf_ok ok ry hy
      split at h
      · rename_i hz
        exact .inr (.inr (.inr ⟨a, b, us, ws, rfl, rfl, ha, hb, by rw [← ra.length, ← rb.length]; exact hz, post_mk ok (ra.append rb) h⟩))
      · exact h.elim
    · exact h.elim
theorem ops_sub : OpS K cA subF (rI0 fun i j => .int (i - j)) := by
  intro s σ W d e x y Q ok rx ry h
  unfold subF at h
  split at h
  · cases rep_int rx; cases rep_int ry
    exact ⟨_, _, rfl, rfl, post_val ok h (.int _)⟩
  · exact h.elim
theorem ops_mul {m : Bool} : OpS K cA (mulF m) (fun x y H Q => (rI CMulW (fun i j => .int (i * j)) x y H Q ∨ rRep x y H Q) ∨ (rRepT K x y H Q ∨ rRepS K x y H Q)) := by
  intro s σ W d e x y Q ok rx ry h
  unfold mulF at h
  split at h
  · cases rep_int rx; cases rep_int ry
    split at h
    · rename_i hz
      unfold mulOk at hz
      rw [decide_eq_true_eq] at hz
      exact .inl (.inl ⟨_, _, rfl, rfl, hz, post_val ok h (.int _)⟩)
    · exact h.elim
  · cases rep_int ry
    rename_i a k
    split at h
    · rename_i hz
      obtain ⟨b, us, rfl, hb, ra⟩ := rep_tup rx
      have hl := ra.length
      have hne : us ≠ [] := fun e => by rw [e, List.length_nil] at hl; omega
      by_cases h1 : k = 1
      · subst h1
        refine .inr (.inr ⟨b, 1, us, rfl, rfl, hb, hne, .inl ⟨rfl, ?_⟩⟩)
        have e : (List.replicate (1 : Int).toNat a).flatten = a := by simp
        rw [e] at h
        exact h s rfl ok (Sit.Le.refl _) _ (.dat (.tup hb ra))
      · by_cases h0 : k = 0
        · subst h0
          refine .inr (.inr ⟨b, 0, us, rfl, rfl, hb, hne, .inr ⟨rfl, ?_⟩⟩)
          exact post_tup ok (vs := []) .nil h
        · obtain ⟨z1, z2, z3, z4⟩ := hz
          exact .inr (.inl ⟨b, k, us, rfl, rfl, hb, hne, by omega, z4, by rw [← hl]; exact z2, post_tup ok (ra.replicate _) h⟩)
    · exact h.elim
  · cases rep_int ry
    split at h
    · rename_i a ha
      obtain ⟨b, us, rfl, hb, ra⟩ := lstOf_ok ok rx ha
      split at h
      · rename_i hz
        exact .inl (.inr ⟨b, _, us, rfl, rfl, hb, hz.2.1, hz.1, by rw [← ra.length]; exact hz.2.2, post_mk ok (ra.replicate _) h⟩)
      · exact h.elim
    · exact h.elim
  · exact h.elim
theorem ops_div : OpS K cA divF (rI CDivW fun i j => .int (i / j)) := by
  intro s σ W d e x y Q ok rx ry h
  unfold divF at h
  split at h
  · cases rep_int rx; cases rep_int ry
    split at h
    · rename_i hz
      unfold divOk at hz
      rw [Bool.and_eq_true, decide_eq_true_eq, decide_eq_true_eq] at hz
      exact ⟨_, _, rfl, rfl, hz, post_val ok h (.int _)⟩
    · exact h.elim
  · exact h.elim
theorem ops_mod : OpS K cA modF (rI (fun _ j => 0 < j) fun i j => .int (i % j)) := by
  intro s σ W d e x y Q ok rx ry h
  unfold modF at h
  split at h
  · cases rep_int rx; cases rep_int ry
    split at h
    · rename_i hz
      exact ⟨_, _, rfl, rfl, hz, post_val ok h (.int _)⟩
    · exact h.elim
  · exact h.elim
theorem powOk_ok {i j : Int} (hz : powOk i j = true) : CPow i j := by
  unfold powOk at hz
  rw [Bool.and_eq_true, Bool.and_eq_true, decide_eq_true_eq, decide_eq_true_eq, decide_eq_true_eq] at hz
  exact ⟨hz.1.1, hz.1.2, hz.2⟩
theorem ops_pow : OpS K cA powF (rI CPow fun i j => .int (i ^ j.toNat)) := by
  intro s σ W d e x y Q ok rx ry h
  unfold powF at h
  split at h
  · cases rep_int rx; cases rep_int ry
    split at h
    · rename_i hz
      exact ⟨_, _, rfl, rfl, powOk_ok hz, post_val ok h (.int _)⟩
    · exact h.elim
  · exact h.elim
theorem ops_shl : OpS K cA shlF (rI CPow fun i j => .int (i * 2 ^ j.toNat)) := by
  intro s σ W d e x y Q ok rx ry h
  unfold shlF at h
  split at h
  · cases rep_int rx; cases rep_int ry
    split at h
    · rename_i hz
      exact ⟨_, _, rfl, rfl, powOk_ok hz, post_val ok h (.int _)⟩
    · exact h.elim
  · exact h.elim
theorem ops_shr : OpS K cA shrF (rI (fun _ j => 0 ≤ j) fun i j => .int (i / 2 ^ j.toNat)) := by
  intro s σ W d e x y Q ok rx ry h
  unfold shrF at h
  split at h
  · cases rep_int rx; cases rep_int ry
    split at h
    · rename_i hz
      exact ⟨_, _, rfl, rfl, hz, post_val ok h (.int _)⟩
    · exact h.elim
  · exact h.elim
theorem ops_and : OpS K cA andF (rI0 fun i j => .int (Builtin.bitAnd i j)) := by
  intro s σ W d e x y Q ok rx ry h
  unfold andF at h
  split at h
  · cases rep_int rx; cases rep_int ry
    exact ⟨_, _, rfl, rfl, post_val ok h (.int _)⟩
  · exact h.elim

/-! ### == -/
mutual
theorem py_ok {H : Hp} {M : Addr → Prop} : ∀ {d : D} {v : V} {p : PyData}, RD K H M d v → d.py = some p → Dp K H v p
  | _, _, _, .non, h => by cases h; exact .non
  | _, _, _, .bl b, h => by cases h; exact .bl b
  | _, _, _, .int b, h => by cases h; exact .int b
  | _, _, _, .str b, h => by cases h; exact .str b
  | .tup xs, _, _, .tup h1 r, h => by
    unfold D.py at h
    cases e : pys xs with
    | none => rw [e] at h; cases h
    | some ps => rw [e] at h; cases h; exact .tup h1 (pys_ok r e)
  | .lst xs, _, _, .lst h1 _ r, h => by
    unfold D.py at h
    cases e : pys xs with
    | none => rw [e] at h; cases h
    | some ps => rw [e] at h; cases h; exact .lst (SqL.of h1) (pys_ok r e)
  | _, _, _, .scr _, h => by cases h
  | _, _, _, .dct _ _, h => by cases h
theorem pys_ok {H : Hp} {M : Addr → Prop} : ∀ {d : List D} {v : List V} {p : List PyData}, RDs K H M d v → pys d = some p → DpAll K H v p
  | _, _, _, .nil, h => by cases h; exact .nil
  | x :: xs, _, _, .cons a r, h => by
    unfold pys at h
    cases e1 : x.py with
    | none => rw [e1] at h; cases h
    | some q =>
      cases e2 : pys xs with
      | none => rw [e1, e2] at h; cases h
      | some qs => rw [e1, e2] at h; cases h; exact .cons (py_ok a e1) (pys_ok r e2)
end
theorem pyOf_ok {d : D} {v : V} {p : PyData} (ok : s.Ok K) (r : Rep K s d v) (h : pyOf s.st d = some p) : Dp K s.H v p := by
  unfold pyOf at h
  split at h
  · rename_i xs hx
    obtain ⟨a, vs, rfl, h1, h2⟩ := lstOf_ok ok r hx
    cases e : pys xs with
    | none => rw [e] at h; cases h
    | some ps => rw [e] at h; cases h; exact .lst (SqL.of h1) (pys_ok h2 e)
  · cases r with
    | ref ha => cases h
    | dat r => exact py_ok r h
theorem ops_eq : OpS K cA (fun x y st => optB (eqF st x y) st) (rEqD K) := by
  intro s σ W d e x y Q ok rx ry h
  have h : Post K cA s σ W (optB (eqF s.st d e) s.st) (PQ K Q) := h
  unfold eqF at h
  split at h
  · rename_i p q hp hq
    split at h
    · rename_i hz
      rw [Bool.and_eq_true] at hz
      exact ⟨p, q, pyOf_ok ok rx hp, pyOf_ok ok ry hq, hz.1, hz.2, post_val ok h (.bl _)⟩
    · exact h.elim
  · exact h.elim
theorem ops_ne : OpS K cA (fun x y st => optB ((eqF st x y).map (!·)) st) (rNeD K) := by
  intro s σ W d e x y Q ok rx ry h
  have h : Post K cA s σ W (optB ((eqF s.st d e).map (!·)) s.st) (PQ K Q) := h
  unfold eqF at h
  split at h
  · rename_i p q hp hq
    split at h
    · rename_i hz
      rw [Bool.and_eq_true] at hz
      exact ⟨p, q, pyOf_ok ok rx hp, pyOf_ok ok ry hq, hz.1, hz.2, post_val ok h (.bl _)⟩
    · exact h.elim
  · exact h.elim
theorem ops_lt : OpS K cA (fun x y st => optB (ltF x y) st) (fun x y H Q => rI0 (fun i j => .bl (decide (i < j))) x y H Q ∨ rLtT K x y H Q) := by
  intro s σ W d e x y Q ok rx ry h
  have h : Post K cA s σ W (optB (ltF d e) s.st) (PQ K Q) := h
  unfold ltF at h
  split at h
  · cases rep_int rx; cases rep_int ry
    exact .inl ⟨_, _, rfl, rfl, post_val ok h (.bl _)⟩
  · split at h
    · rename_i ns ms hn hm
      obtain ⟨a, us, rfl, ha, ra⟩ := rep_tup rx
      obtain ⟨b, ws, rfl, hb, rb⟩ := rep_tup ry
      rw [intsOf_ok hn] at ra
      rw [intsOf_ok hm] at rb
      rw [ra.ints] at ha
      rw [rb.ints] at hb
      exact .inr ⟨a, b, ns, ms, rfl, rfl, ha, hb, post_val ok h (.bl _)⟩
    · exact h.elim
  · exact h.elim
theorem ops_cmpI {f : D → D → Option Bool} {g : Int → Int → Bool} (hf : ∀ i j, f (.int i) (.int j) = some (g i j)) (hn : ∀ d e, f d e ≠ none → ∃ i j, d = .int i ∧ e = .int j) :
    OpS K cA (fun x y st => optB (f x y) st) (rI0 (fun i j => .bl (g i j))) := by
  intro s σ W d e x y Q ok rx ry h
  have h : Post K cA s σ W (optB (f d e) s.st) (PQ K Q) := h
  by_cases z : f d e = none
  · rw [z] at h
    exact h.elim
  · obtain ⟨i, j, rfl, rfl⟩ := hn d e z
    cases rep_int rx; cases rep_int ry
    rw [hf] at h
    exact ⟨_, _, rfl, rfl, post_val ok h (.bl _)⟩
theorem ops_le : OpS K cA (fun x y st => optB (leF x y) st) (fun x y H Q => rI0 (fun i j => .bl (decide (i ≤ j))) x y H Q ∨ rLeT' K x y H Q) := by
  intro s σ W d e x y Q ok rx ry h
  have h : Post K cA s σ W (optB (leF d e) s.st) (PQ K Q) := h
  unfold leF at h
  split at h
  · cases rep_int rx; cases rep_int ry
    exact .inl ⟨_, _, rfl, rfl, post_val ok h (.bl _)⟩
  · split at h
    · rename_i ns ms hn hm
      obtain ⟨a, us, rfl, ha, ra⟩ := rep_tup rx
      obtain ⟨b, ws, rfl, hb, rb⟩ := rep_tup ry
      rw [intsOf_ok hn] at ra
      rw [intsOf_ok hm] at rb
      rw [ra.ints] at ha
      rw [rb.ints] at hb
      exact .inr ⟨a, b, ns, ms, rfl, rfl, ha, hb, post_val ok h (.bl _)⟩
    · exact h.elim
  · exact h.elim
theorem ops_gt : OpS K cA (fun x y st => optB (gtF x y) st) (fun x y H Q => rI0 (fun i j => .bl (decide (j < i))) x y H Q ∨ rGtT K x y H Q) := by
  intro s σ W d e x y Q ok rx ry h
  have h : Post K cA s σ W (optB (gtF d e) s.st) (PQ K Q) := h
  unfold gtF at h
  split at h
  · cases rep_int rx; cases rep_int ry
    exact .inl ⟨_, _, rfl, rfl, post_val ok h (.bl _)⟩
  · split at h
    · rename_i ns ms hn hm
      obtain ⟨a, us, rfl, ha, ra⟩ := rep_tup rx
      obtain ⟨b, ws, rfl, hb, rb⟩ := rep_tup ry
      rw [intsOf_ok hn] at ra
      rw [intsOf_ok hm] at rb
      rw [ra.ints] at ha
      rw [rb.ints] at hb
      exact .inr ⟨a, b, ns, ms, rfl, rfl, ha, hb, post_val ok h (.bl _)⟩
    · exact h.elim
  · exact h.elim
theorem ops_ge : OpS K cA (fun x y st => optB (geF x y) st) (fun x y H Q => rI0 (fun i j => .bl (decide (j ≤ i))) x y H Q ∨ rGeT K x y H Q) := by
  intro s σ W d e x y Q ok rx ry h
  have h : Post K cA s σ W (optB (geF d e) s.st) (PQ K Q) := h
  unfold geF at h
  split at h
  · cases rep_int rx; cases rep_int ry
    exact .inl ⟨_, _, rfl, rfl, post_val ok h (.bl _)⟩
  · split at h
    · rename_i ns ms hn hm
      obtain ⟨a, us, rfl, ha, ra⟩ := rep_tup rx
      obtain ⟨b, ws, rfl, hb, rb⟩ := rep_tup ry
      rw [intsOf_ok hn] at ra
      rw [intsOf_ok hm] at rb
      rw [ra.ints] at ha
      rw [rb.ints] at hb
      exact .inr ⟨a, b, ns, ms, rfl, rfl, ha, hb, post_val ok h (.bl _)⟩
    · exact h.elim
  · exact h.elim
theorem isNon_ok {d : D} {v : V} (r : Rep K s d v) : isNon d = decide (v = .non) := by
  cases r with
  | ref h => rfl
  | dat r => cases r <;> rfl
theorem ops_is : OpS K cA (fun x y st => optB (isF x y) st) (fun x y H Q => (y = .non ∧ Q (.bl (decide (x = .non))) H) ∨ ∃ a b, x = .bl a ∧ y = .bl b ∧ Q (.bl (decide (a = b))) H) := by
  intro s σ W d e x y Q ok rx ry h
  have h : Post K cA s σ W (optB (isF d e) s.st) (PQ K Q) := h
  unfold isF at h
  split at h
  · cases rep_non ry
    refine .inl ⟨rfl, ?_⟩
    rw [← isNon_ok rx]
    exact post_val ok h (.bl _)
  · cases rep_bl rx; cases rep_bl ry
    exact .inr ⟨_, _, rfl, rfl, post_val ok h (.bl _)⟩
  · exact h.elim
theorem ops_isnot : OpS K cA (fun x y st => optB ((isF x y).map (!·)) st) (fun x y H Q => (y = .non ∧ Q (.bl (!decide (x = .non))) H) ∨ ∃ a b, x = .bl a ∧ y = .bl b ∧ Q (.bl (!decide (a = b))) H) := by
  intro s σ W d e x y Q ok rx ry h
  have h : Post K cA s σ W (optB ((isF d e).map (!·)) s.st) (PQ K Q) := h
  unfold isF at h
  split at h
  · cases rep_non ry
    refine .inl ⟨rfl, ?_⟩
    rw [← isNon_ok rx]
    exact post_val ok h (.bl _)
  · cases rep_bl rx; cases rep_bl ry
    exact .inr ⟨_, _, rfl, rfl, post_val ok h (.bl _)⟩
  · exact h.elim

theorem seqOf_ok {s : Sit} {d : D} {v : V} {xs : List D} (ok : s.Ok K) (r : Rep K s d v) (h : seqOf s.st d = some xs) :
    ∃ a us, v = .ref a ∧ (SqL K s.H a us ∨ SqT K s.H a us) ∧ RDs K s.H s.M xs us := by
  unfold seqOf at h
  split at h
  · cases h
    obtain ⟨a, us, rfl, ha, ra⟩ := rep_tup r
    exact ⟨a, us, rfl, .inr ha, ra⟩
  · obtain ⟨a, us, rfl, ha, ra⟩ := lstOf_ok ok r h
    exact ⟨a, us, rfl, .inl (SqL.of ha), ra⟩
theorem flat_ok {d : D} {v : V} (r : Rep K s d v) (h : flatD d = true) : flatV v = true := by
  cases r with
  | ref _ => cases h
  | dat r => cases r <;> first | rfl | cases h
theorem eqFl_ok {d e : D} {x y : V} (rd : Rep K s d x) (re : Rep K s e y) (hd : flatD d = true) (he : flatD e = true) : eqFl e d = eqV y x := by
  cases rd with
  | ref _ => cases hd
  | dat rd =>
    cases re with
    | ref _ => cases he
    | dat re => cases rd <;> cases re <;> first | rfl | cases hd | cases he
theorem any_ok {d : D} {x : V} (rd : Rep K s d x) (hd : flatD d = true) : ∀ {ds : List D} {vs : List V}, RDs K s.H s.M ds vs → ds.all flatD = true → vs.all flatV = true ∧ (ds.any fun z => eqFl z d) = inV x vs
  | _, _, .nil, _ => ⟨rfl, rfl⟩
  | _, _, .cons h r, z => by
    rw [List.all_cons, Bool.and_eq_true] at z
    obtain ⟨a, b⟩ := any_ok rd hd r z.2
    refine ⟨by rw [List.all_cons, flat_ok (.dat h) z.1, a]; rfl, ?_⟩
    unfold inV at b ⊢
    rw [List.any_cons, List.any_cons, b, eqFl_ok rd (.dat h) hd z.1]
theorem in_ok {d e : D} {x y : V} {b : Bool} (ok : s.Ok K) (rx : Rep K s d x) (ry : Rep K s e y) (h : inF s.st d e = some b) :
    (∃ a us, y = .ref a ∧ (SqL K s.H a us ∨ SqT K s.H a us) ∧ flatV x = true ∧ us.all flatV = true ∧ b = inV x us) ∨
    (∃ p ps, Dp K s.H x p ∧ Dp K s.H y (.list ps) ∧ SeqAt.shaped p = true ∧ SeqAt.shaped (.list ps) = true ∧ b = ps.any fun z => PyData.eqv z p) := by
  unfold inF at h
  split at h
  · rename_i xs hx
    split at h
    · rename_i hf
      cases h
      obtain ⟨a, us, rfl, ha, ra⟩ := seqOf_ok ok ry hx
      obtain ⟨z1, z2⟩ := any_ok rx hf.1 ra hf.2
      exact .inl ⟨a, us, rfl, ha, flat_ok rx hf.1, z1, z2⟩
    · unfold inDF at h
      split at h
      · rename_i p ps hp hq
        split at h
        · rename_i hs
          rw [Bool.and_eq_true] at hs
          cases h
          exact .inr ⟨p, ps, pyOf_ok ok rx hp, pyOf_ok ok ry hq, hs.1, hs.2, rfl⟩
        · cases h
      · cases h
  · cases h
theorem ops_in : OpS K cA (fun x y st => optB (inF st x y) st) (fun x y H Q => rIn K false x y H Q ∨ rInD K x y H Q) := by
  intro s σ W d e x y Q ok rx ry h
  have h : Post K cA s σ W (optB (inF s.st d e) s.st) (PQ K Q) := h
  cases z : inF s.st d e with
  | none => rw [z] at h; exact h.elim
  | some b =>
    rw [z] at h
    rcases in_ok ok rx ry z with ⟨a, us, e1, ha, f1, f2, rfl⟩ | ⟨p, ps, h1, h2, h3, h4, rfl⟩
    · exact .inl ⟨a, us, e1, ha, f1, f2, post_val ok h (.dat (.bl _))⟩
    · exact .inr ⟨p, ps, h1, h2, h3, h4, post_val ok h (.dat (.bl _))⟩
theorem ops_notin : OpS K cA (fun x y st => optB ((inF st x y).map (!·)) st) (fun x y H Q => rIn K true x y H Q ∨ rNotInD K x y H Q) := by
  intro s σ W d e x y Q ok rx ry h
  have h : Post K cA s σ W (optB ((inF s.st d e).map (!·)) s.st) (PQ K Q) := h
  cases z : inF s.st d e with
  | none => rw [z] at h; exact h.elim
  | some b =>
    rw [z] at h
    rcases in_ok ok rx ry z with ⟨a, us, e1, ha, f1, f2, rfl⟩ | ⟨p, ps, h1, h2, h3, h4, rfl⟩
    · exact .inl ⟨a, us, e1, ha, f1, f2, post_val ok h (.dat (.bl _))⟩
    · exact .inr ⟨p, ps, h1, h2, h3, h4, post_val ok h (.dat (.bl _))⟩

/-- an operator's rule, and that our evaluator keeps it -/
def OpK (X : Cx) (cA : Nat → Option Addr) (f : Value → Value → Sem Value) (g : D → D → Store → Res D) : Prop := ∃ r, OpR X f r ∧ OpS X.K cA g r
theorem opk_bin {X : Cx} {m : Bool} {op : Operator} : OpK X cA (binaryOp op) (binF m op) := by
  have dead : ∀ {f : Value → Value → Sem Value} {g : D → D → Store → Res D}, (∀ d e st, g d e st = .err) → OpK X cA f g := fun hg =>
    ⟨fun _ _ _ _ => False, fun _ _ _ _ _ _ _ _ _ _ _ _ h => h.elim, fun s σ W d e x y Q ok rx ry h => by rw [hg] at h; exact h⟩
  cases op with
  | Add => exact ⟨_, op_add.or (op_add_str.or (op_catA.or op_cat)), ops_add⟩
  | Sub => exact ⟨_, op_sub, ops_sub⟩
  | Mult => exact ⟨_, (op_mulW.or op_rep).or (op_repT.or op_repS), ops_mul⟩
  | FloorDiv => exact ⟨_, op_fdivW, ops_div⟩
  | Mod => exact ⟨_, op_mod, ops_mod⟩
  | Pow => exact ⟨_, op_pow, ops_pow⟩
  | LShift => exact ⟨_, op_shl, ops_shl⟩
  | RShift => exact ⟨_, op_shr, ops_shr⟩
  | BitAnd => exact ⟨_, op_and, ops_and⟩
  | _ => exact dead fun _ _ _ => rfl
theorem opk_cmp {X : Cx} {op : CmpOp} (hu1 : X.A.units + 65 < cLine) : OpK X cA (compareOp op) (fun x y st => optB (cmpF op x y st) st) := by
  have hu : X.A.units + 64 < cLine := by omega
  have dead : ∀ {f : Value → Value → Sem Value} {g : D → D → Store → Res D}, (∀ d e st, g d e st = .err) → OpK X cA f g := fun hg =>
    ⟨fun _ _ _ _ => False, fun _ _ _ _ _ _ _ _ _ _ _ _ h => h.elim, fun s σ W d e x y Q ok rx ry h => by rw [hg] at h; exact h⟩
  cases op with
  | Eq => exact ⟨_, op_eqD hu, ops_eq⟩
  | NotEq => exact ⟨_, op_neD hu, ops_ne⟩
  | Lt => exact ⟨_, op_lt.or (op_ltT (by omega)), ops_lt⟩
  | LtE => exact ⟨_, op_le.or (op_leT' (by omega)), ops_le⟩
  | Gt => exact ⟨_, op_gt.or (op_gtT (by omega)), ops_gt⟩
  | GtE => exact ⟨_, op_ge.or (op_geT (by omega)), ops_ge⟩
  | Is => exact ⟨_, op_isN.or op_is_bl, ops_is⟩
  | IsNot => exact ⟨_, op_notN.or op_isnot_bl, ops_isnot⟩
  | In => exact ⟨_, op_in_seq.or (op_inD hu1), ops_in⟩
  | NotIn => exact ⟨_, op_notIn_seq.or (op_notInD hu1), ops_notin⟩
end
end Zn

/-! Zn, part 5: the rules over the model for subscripts, slices, built-ins, what is walked. -/
namespace Zn
open PySem PySem.Spec PyProof.Rows L2
section
variable {K : PySem.W.Frag} {cA : Nat → Option Addr} {s s' s1 : Sit} {σ : L2.St} {W : WX} {env : Env}

theorem star_pl {e : Expr} {es : List Expr} {env : PySem.Env} (h : pl e = true) : starEach (e :: es) env = (false, eval e env) :: starEach es env := by
  cases e <;> first | rfl | cases h
theorem mark_pl {e : Expr} {op : CmpOp} (h : pl e = true) : behindInMarks op e = false := by
  cases e <;> first | rfl | cases h
theorem ix_pl {e : Expr} (h : pl e = true) : PlainIx e := by
  intro o i
  cases e <;> first | rfl | cases h
theorem sw_pl {e : Expr} {t : Option Expr} {l : Nat} {env : PySem.Env} (h : pl e = true) (hc : isComp e = false) : swapsWith e t l env = pure false := by
  cases e with
  | ListComp _ _ _ _ => exact absurd (show true = false from hc) (by decide)
  | _ => first | rfl | cases h
theorem at_pl {e : Expr} {x : Str} {env : PySem.Env} {w : Sem Value} (h : atB e = true) : attributeBase e x env w = w := by
  cases e <;> first | rfl | cases h
theorem fold_pl {e : Expr} {env : PySem.Env} (h : pl e = true) : ∀ x, foldedSetIterable e env x = pure x := by
  intro x
  cases e <;> first | rfl | cases h
theorem backTo_any {pos : Pos} {env : PySem.Env} : ∀ {es : List Expr}, (∀ e ∈ es, pl e = true) → (backTo pos (starEach es env)).any (·.1) = false
  | [], _ => rfl
  | e :: es, h => by
    rw [star_pl (h e List.mem_cons_self)]
    show (false || (backTo pos (starEach es env)).any (·.1)) = false
    rw [backTo_any fun e he => h e (List.mem_cons_of_mem _ he)]
    rfl

/-! ### subscripts -/
theorem ops_ix : OpS K cA subIx (rIx K) := by
  intro s σ W d e x y Q ok rx ry h
  unfold subIx at h
  split at h
  · cases rep_int ry
    obtain ⟨a, us, rfl, ha, ra⟩ := rep_tup rx
    split at h
    · rename_i d hd
      obtain ⟨v, hv, rv⟩ := ra.atI hd
      exact .inr (.inl ⟨a, us, _, v, rfl, rfl, ha, hv, post_val ok h (.dat rv)⟩)
    · exact h.elim
  · cases rep_int ry
    obtain ⟨a, rfl, ha⟩ := rep_scr rx
    split at h
    · rename_i d hd
      exact .inl ⟨a, _, _, _, rfl, rfl, ha, atI_map hd, post_val ok h (.int _)⟩
    · exact h.elim
  · cases rep_int ry
    cases rep_str rx
    split at h
    · rename_i c hc
      split at h
      · rename_i hz
        exact .inr (.inr ⟨_, _, c, rfl, rfl, hz, hc, post_val ok h (.str _)⟩)
      · exact h.elim
    · exact h.elim
  · cases rep_int ry
    split at h
    · rename_i xs hx
      obtain ⟨a, us, rfl, ha, ra⟩ := lstOf_ok ok rx hx
      split at h
      · rename_i d hd
        obtain ⟨v, hv, rv⟩ := ra.atI hd
        exact .inl ⟨a, us, _, v, rfl, rfl, SqL.of ha, hv, post_val ok h (.dat rv)⟩
      · exact h.elim
    · exact h.elim
  · exact h.elim

abbrev SlX (X : Cx) : V → Option Int → Option Int → Hp → VK → Prop := fun x lo hi H Q => rSlL X.K x lo hi H Q ∨ (rSlA X.K x lo hi H Q ∨ rSlS x lo hi H Q)
theorem slc_ok {X : Cx} {m : Bool} {d : D} {x : V} {lo hi : Option Int} {Q : VK} (ok : s.Ok X.K) (rx : Rep X.K s d x) (h : Post X.K cA s σ W (slcF m d lo hi s.st) (PQ X.K Q)) : SlX X x lo hi s.H Q := by
  unfold slcF at h
  split at h
  · obtain ⟨a, us, rfl, ha, ra⟩ := rep_tup rx
    refine .inr (.inl ⟨a, us, rfl, ha, fun e => ?_, fun _ => post_tup ok ra.cut h⟩)
    rw [← ra.length] at e
    rw [cutD_whole e] at h
    exact post_val ok h rx
  · cases rep_str rx
    split at h
    · rename_i hz
      exact .inr (.inr ⟨_, rfl, hz, post_val ok h (.str _)⟩)
    · exact h.elim
  · split at h
    · rename_i xs hx
      obtain ⟨a, us, rfl, ha, ra⟩ := lstOf_ok ok rx hx
      exact .inl ⟨a, us, rfl, SqL.of ha, post_mk ok ra.cut h⟩
    · exact h.elim

/-! ### built-ins -/
def CallS (K : PySem.W.Frag) (cA : Nat → Option Addr) (g : List D → Store → Res D) (r : List V → Hp → VK → Prop) : Prop :=
  ∀ (s : Sit) (σ : L2.St) (W : WX) (ds : List D) (vs : List V) (Q : VK), s.Ok K → Reps K s ds vs → Post K cA s σ W (g ds s.st) (PQ K Q) → r vs s.H Q
theorem one_of {K : PySem.W.Frag} {s : Sit} {x : D} {vs : List V} (r : Reps K s [x] vs) : ∃ v, vs = [v] ∧ Rep K s x v := by
  cases r with
  | cons rx rn =>
    cases rn
    exact ⟨_, rfl, rx⟩
theorem calls_len : CallS K cA lenL (fun xs H Q => (∃ p ys, xs = [.ref p] ∧ (SqL K H p ys ∨ SqT K H p ys) ∧ Q (.int ys.length) H) ∨ ∃ z, xs = [.str z] ∧ z.length ≤ sizeLine ∧ Q (.int z.length) H) := by
  intro s σ W ds vs Q ok r h
  unfold lenL at h
  split at h
  · obtain ⟨v, rfl, rx⟩ := one_of r
    unfold lenF at h
    split at h
    · obtain ⟨a, us, rfl, ha, ra⟩ := rep_tup rx
      rw [ra.length] at h
      exact .inl ⟨a, us, rfl, .inr ha, post_val ok h (.int _)⟩
    · obtain ⟨a, rfl, ha⟩ := rep_scr rx
      rw [← List.length_map (f := V.int)] at h
      exact .inl ⟨a, _, rfl, .inl ha, post_val ok h (.int _)⟩
    · cases rep_str rx
      split at h
      · rename_i hz
        exact .inr ⟨_, rfl, hz, post_val ok h (.int _)⟩
      · exact h.elim
    · split at h
      · rename_i xs hx
        obtain ⟨a, us, rfl, ha, ra⟩ := lstOf_ok ok rx hx
        rw [ra.length] at h
        exact .inl ⟨a, us, rfl, .inl (SqL.of ha), post_val ok h (.int _)⟩
      · exact h.elim
  · exact h.elim
/-- sum of a tuple of whole numbers -/
def rSumT (K : PySem.W.Frag) : List V → Hp → VK → Prop := fun vs H Q => ∃ (a : Addr) (ns : List Int), vs = [V.ref a] ∧ SqT K H a (ns.map V.int) ∧ Q (.int ns.sum) H
theorem cr_sumT {X : Cx} (hc : X.calm = true) : CallR X (.builtin "sum") (rSumT X.K) := by
  intro pins s σ H vs us Q I r h
  obtain ⟨a, ns, rfl, hs, q⟩ := h
  obtain ⟨its, rv, pl, _⟩ := I.tuple hs
  rw [Vals.ref1 r]
  have hi := rv.ints
  obtain ⟨xs, hx⟩ := hi.allInts.items
  have hn : numsOf its.toArray.toList = ns := by rw [show its.toArray.toList = its from rfl, hi.numsOf]
  rw [hx] at hn
  rw [nums_intItems] at hn
  have hl : s.heap.IsTuple a (intItems xs) := by rw [← hx]; exact pl
  refine PySem.W.ktm_sumG (I.ok.hd hc) hl fun h' tk t' hk => ?_
  rw [preSum_eq, List.take_of_length_le (by simp), hn]
  exact ⟨.int _, H, I.kept hk, ⟨_, rfl⟩, q⟩
theorem calls_sum : CallS K cA sumL (fun vs H Q => rSum K vs H Q ∨ rSumT K vs H Q) := by
  intro s σ W ds vs Q ok r h
  unfold sumL at h
  split at h
  · obtain ⟨v, rfl, rx⟩ := one_of r
    split at h
    · rename_i ns hn
      obtain ⟨xs, hx, hi⟩ := Option.bind_eq_some_iff.mp hn
      obtain ⟨a, us, rfl, ha, ra⟩ := seqOf_ok ok rx hx
      rw [intsOf_ok hi] at ra
      rw [ra.ints] at ha
      rcases ha with ha | ha
      · exact .inl ⟨a, ns, rfl, ha, post_val ok h (.int _)⟩
      · exact .inr ⟨a, ns, rfl, ha, post_val ok h (.int _)⟩
    · exact h.elim
  · exact h.elim
theorem mm_fold (ns : List Int) : ∀ n : Int, (ns.foldl min n ∈ n :: ns ∧ ∀ y ∈ n :: ns, ns.foldl min n ≤ y) ∧ (ns.foldl max n ∈ n :: ns ∧ ∀ y ∈ n :: ns, y ≤ ns.foldl max n) := by
  induction ns with
  | nil => intro n; exact ⟨⟨by simp, fun y h => by simp at h; simp [h]⟩, by simp, fun y h => by simp at h; simp [h]⟩
  | cons a r ih =>
    intro n
    obtain ⟨⟨h1, h2⟩, _⟩ := ih (min n a)
    obtain ⟨_, h3, h4⟩ := ih (max n a)
    simp only [List.foldl_cons]
    refine ⟨⟨?_, fun y hy => ?_⟩, ?_, fun y hy => ?_⟩
    · rcases List.mem_cons.mp h1 with e | e
      · rw [e]; rcases Int.le_total n a with h | h
        · rw [Int.min_eq_left h]; simp
        · rw [Int.min_eq_right h]; simp
      · simp [e]
    · have h5 := h2 (min n a) (by simp)
      rcases List.mem_cons.mp hy with e | hy
      · rw [e]; omega
      · rcases List.mem_cons.mp hy with e | hy
        · rw [e]; omega
        · exact h2 y (by simp [hy])
    · rcases List.mem_cons.mp h3 with e | e
      · rw [e]; rcases Int.le_total n a with h | h
        · rw [Int.max_eq_right h]; simp
        · rw [Int.max_eq_left h]; simp
      · simp [e]
    · have h5 := h4 (max n a) (by simp)
      rcases List.mem_cons.mp hy with e | hy
      · rw [e]; omega
      · rcases List.mem_cons.mp hy with e | hy
        · rw [e]; omega
        · exact h4 y (by simp [hy])
theorem mmL_ok {g : Bool} {x : D} {v : V} {Q : VK} (ok : s.Ok K) (r : Rep K s x v) (h : Post K cA s σ W (mmL g x s.st) (PQ K Q)) : ∃ (a : Addr) (n : Int) (ns : List Int), v = V.ref a ∧ SqL K s.H a ((n :: ns).map V.int) ∧
    ∀ m, m ∈ n :: ns → ((g = false ∧ ∀ y ∈ n :: ns, m ≤ y) ∨ (g = true ∧ ∀ y ∈ n :: ns, y ≤ m)) → Q (.int m) s.H := by
  unfold mmL at h
  split at h
  · rename_i xs hx
    obtain ⟨a, us, rfl, ha, ra⟩ := lstOf_ok ok r hx
    split at h
    · rename_i n ns hi
      rw [intsOf_ok hi] at ra
      rw [ra.ints] at ha
      refine ⟨a, n, ns, rfl, SqL.of ha, fun m hm hq => ?_⟩
      obtain ⟨⟨k1, k2⟩, k3, k4⟩ := mm_fold ns n
      rcases hq with ⟨rfl, hq⟩ | ⟨rfl, hq⟩
      · have e : m = ns.foldl min n := by have := k2 m hm; have := hq _ k1; omega
        rw [e]; exact post_val ok h (.int _)
      · have e : m = ns.foldl max n := by have := k4 m hm; have := hq _ k3; omega
        rw [e]; exact post_val ok h (.int _)
    · exact h.elim
  · exact h.elim
theorem calls_min : CallS K cA minL (fun xs H Q => (∃ i j, xs = [.int i, .int j] ∧ Q (.int (if j < i then j else i)) H) ∨ rMin K xs H Q) := by
  intro s σ W ds vs Q ok r h
  unfold minL at h
  split at h
  · cases r with
    | cons r1 r2 =>
      obtain ⟨v, rfl, rx⟩ := one_of r2
      cases rep_int r1
      cases rep_int rx
      exact .inl ⟨_, _, rfl, post_val ok h (.int _)⟩
  · obtain ⟨v, rfl, rx⟩ := one_of r
    obtain ⟨a, n, ns, rfl, h1, h2⟩ := mmL_ok ok rx h
    exact .inr ⟨a, n :: ns, rfl, h1, by simp, fun m hm hq => h2 m hm (.inl ⟨rfl, hq⟩)⟩
  · exact h.elim
theorem calls_max : CallS K cA maxL (fun xs H Q => (∃ i j, xs = [.int i, .int j] ∧ Q (.int (if j > i then j else i)) H) ∨ rMax K xs H Q) := by
  intro s σ W ds vs Q ok r h
  unfold maxL at h
  split at h
  · cases r with
    | cons r1 r2 =>
      obtain ⟨v, rfl, rx⟩ := one_of r2
      cases rep_int r1
      cases rep_int rx
      exact .inl ⟨_, _, rfl, post_val ok h (.int _)⟩
  · obtain ⟨v, rfl, rx⟩ := one_of r
    obtain ⟨a, n, ns, rfl, h1, h2⟩ := mmL_ok ok rx h
    exact .inr ⟨a, n :: ns, rfl, h1, by simp, fun m hm hq => h2 m hm (.inr ⟨rfl, hq⟩)⟩
  · exact h.elim
theorem insI_perm (x : Int) : ∀ l : List Int, (insI x l).Perm (x :: l)
  | [] => .refl _
  | y :: l => by
    unfold insI
    split
    · exact .refl _
    · exact ((insI_perm x l).cons y).trans (.swap x y l)
theorem srtI_perm : ∀ l : List Int, (srtI l).Perm l
  | [] => .refl _
  | x :: l => (insI_perm x (srtI l)).trans ((srtI_perm l).cons x)
theorem insI_le (x : Int) : ∀ l : List Int, l.Pairwise (· ≤ ·) → (insI x l).Pairwise (· ≤ ·)
  | [], _ => by simp [insI]
  | y :: l, h => by
    unfold insI
    rw [List.pairwise_cons] at h
    split
    · rename_i hxy
      rw [List.pairwise_cons, List.pairwise_cons]
      exact ⟨fun z hz => by
        rcases List.mem_cons.mp hz with rfl | hz
        · exact hxy
        · exact Int.le_trans hxy (h.1 z hz), h⟩
    · rename_i hxy
      rw [List.pairwise_cons]
      refine ⟨fun z hz => ?_, insI_le x l h.2⟩
      rcases List.mem_cons.mp ((insI_perm x l).mem_iff.mp hz) with rfl | hz
      · omega
      · exact h.1 z hz
theorem srtI_le : ∀ l : List Int, (srtI l).Pairwise (· ≤ ·)
  | [] => .nil
  | x :: l => insI_le x _ (srtI_le l)
theorem sorted_same : ∀ {a b : List Int}, a.Perm b → a.Pairwise (· ≤ ·) → b.Pairwise (· ≤ ·) → a = b
  | [], b, p, _, _ => (List.nil_perm.mp p).symm
  | x :: a, [], p, _, _ => (List.perm_nil.mp p)
  | x :: a, y :: b, p, h1, h2 => by
    rw [List.pairwise_cons] at h1 h2
    have e : x = y := by
      have hx : x ∈ y :: b := p.mem_iff.mp (by simp)
      have hy : y ∈ x :: a := p.mem_iff.mpr (by simp)
      rcases List.mem_cons.mp hx with e | hx
      · exact e
      · rcases List.mem_cons.mp hy with e | hy
        · exact e.symm
        · exact Int.le_antisymm (h1.1 y hy) (h2.1 x hx)
    subst e
    rw [sorted_same (p.cons_inv) h1.2 h2.2]
theorem insT_perm (x : List Int) : ∀ l, (insT x l).Perm (x :: l)
  | [] => .refl _
  | y :: ys => by
    simp only [insT]
    split
    · exact .refl _
    · exact (List.Perm.cons y (insT_perm x ys)).trans (.swap x y ys)
theorem srtT_perm : ∀ l : List (List Int), (srtT l).Perm l
  | [] => .refl _
  | x :: l => (insT_perm x _).trans (.cons x (srtT_perm l))
theorem insT_le (x : List Int) : ∀ l : List (List Int), l.Pairwise (fun x y => HT.lexLt y x = false) → (insT x l).Pairwise (fun x y => HT.lexLt y x = false)
  | [], _ => List.pairwise_singleton _ _
  | y :: l, h => by
    simp only [insT]
    rw [List.pairwise_cons] at h
    split
    · rename_i hxy
      rw [List.pairwise_cons, List.pairwise_cons]
      exact ⟨fun z hz => by
        rcases List.mem_cons.mp hz with rfl | hz
        · exact hxy
        · exact NtL.lex_tr x y z hxy (h.1 z hz), h⟩
    · rename_i hxy
      rw [List.pairwise_cons]
      refine ⟨fun z hz => ?_, insT_le x l h.2⟩
      rcases List.mem_cons.mp ((insT_perm x l).mem_iff.mp hz) with rfl | hz
      · exact NtL.lex_asym y z (by simpa using hxy)
      · exact h.1 z hz
theorem srtT_le : ∀ l : List (List Int), (srtT l).Pairwise (fun x y => HT.lexLt y x = false)
  | [] => .nil
  | x :: l => insT_le x _ (srtT_le l)
theorem lex_anti : ∀ {a b : List Int}, HT.lexLt a b = false → HT.lexLt b a = false → a = b
  | [], [], _, _ => rfl
  | [], y :: b, h, _ => by rw [HT.lexLt_nil_cons] at h; cases h
  | x :: a, [], _, h => by rw [HT.lexLt_nil_cons] at h; cases h
  | x :: a, y :: b, h1, h2 => by
    rw [HT.lexLt_cons] at h1 h2
    by_cases e : x = y
    · subst e
      rw [if_pos rfl] at h1 h2
      rw [lex_anti h1 h2]
    · rw [if_neg e] at h1
      rw [if_neg (Ne.symm e)] at h2
      have := of_decide_eq_false h1
      have := of_decide_eq_false h2
      omega
theorem sorted_sameT : ∀ {a b : List (List Int)}, a.Perm b → a.Pairwise (fun x y => HT.lexLt y x = false) → b.Pairwise (fun x y => HT.lexLt y x = false) → a = b
  | [], b, p, _, _ => (List.nil_perm.mp p).symm
  | x :: a, [], p, _, _ => (List.perm_nil.mp p)
  | x :: a, y :: b, p, h1, h2 => by
    rw [List.pairwise_cons] at h1 h2
    have e : x = y := by
      have hx : x ∈ y :: b := p.mem_iff.mp (by simp)
      have hy : y ∈ x :: a := p.mem_iff.mpr (by simp)
      rcases List.mem_cons.mp hx with e | hx
      · exact e
      · rcases List.mem_cons.mp hy with e | hy
        · exact e.symm
        · exact lex_anti (h2.1 x hx) (h1.1 y hy)
    subst e
    rw [sorted_sameT (p.cons_inv) h1.2 h2.2]
theorem tups_ok {s : Sit} (ok : s.Ok K) : ∀ {ds : List D} {nss : List (List Int)} {vs : List V}, tupsOf ds = some nss → RDs K s.H s.M ds vs →
    ∃ ps : List (V × List Int), vs = ps.map (·.1) ∧ nss = ps.map (·.2) ∧ ∀ p ∈ ps, p.2 ≠ [] ∧ RD K s.H s.M (tupD p.2) p.1 ∧ ∃ t, p.1 = V.ref t ∧ SqT K s.H t (p.2.map V.int)
  | [], nss, vs, h, r => by
    cases r
    simp only [tupsOf, Option.some.injEq] at h
    subst h
    exact ⟨[], rfl, rfl, fun p hp => absurd hp (by simp)⟩
  | d :: ds, nss, vs, h, r => by
    cases r with
    | cons r1 r2 =>
      rename_i v vs
      cases d with
      | tup xs =>
        cases xs with
        | nil => simp [tupsOf] at h
        | cons x xs =>
          simp only [tupsOf] at h
          split at h
          · rename_i ns nss' h1 h2
            cases h
            obtain ⟨ps, e1, e2, e3⟩ := tups_ok ok h2 r2
            have ei := intsOf_ok h1
            rw [ei] at r1
            refine ⟨(v, ns) :: ps, by rw [e1]; rfl, by rw [e2]; rfl, fun p hp => ?_⟩
            rcases List.mem_cons.mp hp with rfl | hp
            · refine ⟨fun z => ?_, r1, ?_⟩
              · have z : ns = [] := z
                rw [z] at ei
                cases ei
              · cases r1 with
                | tup hq rs =>
                  rw [rs.ints] at hq
                  exact ⟨_, rfl, hq⟩
            · exact e3 p hp
          · cases h
      | _ => simp [tupsOf] at h
theorem calls_sorted (m : Bool) : CallS K cA (sortedL m) (fun vs H Q => rSortedI K vs H Q ∨ rSortedX K vs H Q) := by
  intro s σ W ds vs Q ok r h
  unfold sortedL at h
  split at h
  · obtain ⟨v, rfl, rx⟩ := one_of r
    split at h
    · rename_i xs hx
      obtain ⟨a, us, rfl, ha, ra⟩ := lstOf_ok ok rx hx
      split at h
      · rename_i ns hi
        rw [intsOf_ok hi] at ra
        rw [ra.ints] at ha
        refine .inl ⟨a, ns, rfl, SqL.of ha, fun ns' p hp hs hf => ?_⟩
        rw [sorted_same (hp.trans (srtI_perm ns).symm) hs (srtI_le ns)]
        exact post_mk ok RDs.of_ints h p hf
      · split at h
        · rename_i nss hi
          obtain ⟨ps, e1, e2, e3⟩ := tups_ok ok hi ra
          subst e1 e2
          refine .inr ⟨a, ps, rfl, SqL.of ha, fun p hp => ⟨(e3 p hp).1, (e3 p hp).2.2⟩, fun qs p hp hs hf => ?_⟩
          have es : (qs.map (·.2)) = srtT (ps.map (·.2)) := sorted_sameT ((hp.map _).trans (srtT_perm _).symm) (List.pairwise_map.mpr hs) (srtT_le _)
          rw [← es] at h
          refine post_mk ok ?_ h p hf
          have : ∀ qs : List (V × List Int), (∀ q ∈ qs, RD K s.H s.M (tupD q.2) q.1) → RDs K s.H s.M ((qs.map (·.2)).map tupD) (qs.map (·.1)) := by
            intro qs
            induction qs with
            | nil => intro _; exact .nil
            | cons q qs ih => intro hq; exact .cons (hq q (by simp)) (ih fun q' h' => hq q' (by simp [h']))
          exact this qs fun q hq => (e3 q (hp.mem_iff.mp hq)).2.1
        · exact h.elim
    · exact h.elim
  · exact h.elim
theorem calls_all : CallS K cA allL (rAll K) := by
  intro s σ W ds vs Q ok r h
  unfold allL at h
  split at h
  · obtain ⟨v, rfl, rx⟩ := one_of r
    split at h
    · rename_i ns hn
      obtain ⟨xs, hx, hi⟩ := Option.bind_eq_some_iff.mp hn
      obtain ⟨a, us, rfl, ha, ra⟩ := lstOf_ok ok rx hx
      rw [boolsOf_ok hi] at ra
      rw [ra.bools] at ha
      exact ⟨a, ns, rfl, SqL.of ha, post_val ok h (.bl _)⟩
    · exact h.elim
  · exact h.elim
theorem calls_tuple : CallS K cA tupleL (fun xs H Q => ∃ p ys, xs = [.ref p] ∧ ((SqL K H p ys ∧ ∀ l, H l = none → Q (.ref l) (upd H l (.tup ys))) ∨ (SqT K H p ys ∧ Q (.ref p) H))) := by
  intro s σ W ds vs Q ok r h
  unfold tupleL at h
  split at h
  · obtain ⟨v, rfl, rx⟩ := one_of r
    split at h
    · obtain ⟨a, us, rfl, ha, ra⟩ := rep_tup rx
      exact ⟨a, us, rfl, .inr ⟨ha, post_val ok h rx⟩⟩
    · split at h
      · rename_i xs hx
        obtain ⟨a, us, rfl, ha, ra⟩ := lstOf_ok ok rx hx
        exact ⟨a, us, rfl, .inl ⟨SqL.of ha, post_tup ok ra h⟩⟩
      · exact h.elim
  · exact h.elim
theorem calls_list {m : Bool} : CallS K cA (listL m) (fun xs H Q => ∃ p ys, xs = [.ref p] ∧ (SqL K H p ys ∨ SqT K H p ys) ∧ ∀ l, H l = none → Q (.ref l) (upd H l (.lst ys))) := by
  intro s σ W ds vs Q ok r h
  unfold listL at h
  split at h
  · obtain ⟨v, rfl, rx⟩ := one_of r
    split at h
    · obtain ⟨a, us, rfl, ha, ra⟩ := rep_tup rx
      exact ⟨a, us, rfl, .inr ha, post_mk ok ra h⟩
    · split at h
      · rename_i xs hx
        obtain ⟨a, us, rfl, ha, ra⟩ := lstOf_ok ok rx hx
        exact ⟨a, us, rfl, .inl (SqL.of ha), post_mk ok ra h⟩
      · exact h.elim
  · exact h.elim
theorem calls_int : CallS K cA intL (fun xs H Q => (∃ i, xs = [.int i] ∧ Q (.int i) H) ∨ ∃ k, xs = [.bl k] ∧ Q (.int (if k then 1 else 0)) H) := by
  intro s σ W ds vs Q ok r h
  unfold intL at h
  split at h
  · obtain ⟨v, rfl, rx⟩ := one_of r
    split at h
    · cases rep_int rx
      exact .inl ⟨_, rfl, post_val ok h (.int _)⟩
    · cases rep_bl rx
      exact .inr ⟨_, rfl, post_val ok h (.int _)⟩
    · exact h.elim
  · exact h.elim
theorem calls_str : CallS K cA strL (fun xs H Q => (∃ i, xs = [.int i] ∧ i.natAbs.log2 < 1920 ∧ Q (.str (toString i)) H) ∨ ∃ a, xs = [.str a] ∧ Q (.str a) H) := by
  intro s σ W ds vs Q ok r h
  unfold strL at h
  split at h
  · obtain ⟨v, rfl, rx⟩ := one_of r
    split at h
    · cases rep_int rx
      split at h
      · rename_i hz
        exact .inl ⟨_, rfl, hz, post_val ok h (.str _)⟩
      · exact h.elim
    · cases rep_str rx
      exact .inr ⟨_, rfl, post_val ok h (.str _)⟩
    · exact h.elim
  · exact h.elim

/-! ### isinstance -/
theorem tyX_ok {d : D} {v : V} (r : RD K s.H s.M d v) : TyX K s.H v (.type (tyN d)) := by
  cases r with
  | non => exact .base .non
  | bl b => exact .base (.bl b)
  | int b => exact .base (.int b)
  | str b => exact .base (.str b)
  | tup h _ =>
    rcases h with (h | ⟨o, h⟩) | ⟨o, its, n, h1, h2, _⟩
    · exact .base (.tup h)
    · exact .fTuple h
    · exact .kTuple h1 h2
  | lst h _ _ => exact .base (.lst h)
  | scr h =>
    rcases h with ⟨o, h⟩ | ⟨o, its, n, h1, h2, _⟩
    · exact .base (.frz h)
    · exact .kList h1 h2
  | dct h _ => exact .base (.dK h)
theorem isiK_cases {b : String} (h : isiK b = true) : b = "int" ∨ b = "bool" ∨ b = "str" ∨ b = "tuple" ∨ b = "list" := by
  unfold isiK at h
  simp only [Bool.or_eq_true, beq_iff_eq] at h
  rcases h with (((h | h) | h) | h) | h
  · exact .inl h
  · exact .inr (.inl h)
  · exact .inr (.inr (.inl h))
  · exact .inr (.inr (.inr (.inl h)))
  · exact .inr (.inr (.inr (.inr h)))
theorem isiN_ok {d : D} {b : String} (h : isiK b = true) : kitB (tyN d) b = some (isiN (tyN d) b) := by
  have key : ∀ a ∈ ["NoneType", "bool", "int", "str", "tuple", "list", "dict"], ∀ b ∈ ["int", "bool", "str", "tuple", "list"], kitB a b = some (isiN a b) := by decide +kernel
  refine key _ ?_ _ ?_
  · cases d <;> simp [tyN]
  · rcases isiK_cases h with rfl | rfl | rfl | rfl | rfl <;> simp
theorem isi_ok {d : D} {v : V} {ty : String} {Q : VK} (ok : s.Ok K) (r : Rep K s d v) (h : Post K cA s σ W (isiF d ty s.st) (PQ K Q)) : ∃ t b, TyX K s.H v t ∧ PySem.W.kitOne K t (.type ty) = some b ∧ Q (.bl b) s.H := by
  unfold isiF at h
  split at h
  · rename_i hk
    split at h
    · rename_i l
      split at h
      · rename_i xs hx
        obtain ⟨a, vs, rfl, h1, _⟩ := lstOf_ok ok r hx
        exact ⟨_, _, .base (.lst h1), kit_ty (isiN_ok (d := .ref l) hk), post_val ok h (.bl _)⟩
      · exact h.elim
    · rename_i hn
      cases r with
      | ref z => exact absurd rfl (hn _)
      | dat r => exact ⟨_, _, tyX_ok r, kit_ty (isiN_ok hk), post_val ok h (.bl _)⟩
  · exact h.elim
end
end Zn

set_option maxHeartbeats 4000000
/-! Zn, part S: sorted(set(xs)) of whole numbers, any number of them. -/
namespace Zn
open PySem PySem.Spec PyProof.Rows L2
section
variable {P : Program} {w : World} {A : Around} {E : Value → Shared → Prop} {s : Shared} {a : Addr}
set_option maxHeartbeats 3200000 in
theorem call_set_lst {l : Addr} {items : Array Value} (ns : List Int) {Q : Value → Shared → Prop} (hh : A.handled = none) (hl : s.heap.IsList l items) (hit : IntsAre items.toList ns) (hb : ns.length + 1 < scanBound)
    (h : ∀ (h' : Heap) (tk c : Nat), SetR w h' s.heap.objs.size (fun j => decide (j ∈ ns)) c → c ≤ ns.length → (∀ b o, s.heap.get? b = some o → h'.get? b = some o) → Q (.ref s.heap.objs.size) { s with heap := h', toks := tk }) :
    wpAny (model P w) A (call (.type "set") [.ref l]) Q E s := by
  have hisz : items.size = ns.length := by
    have q := IntsAre.length hit
    rw [Array.length_toList] at q
    exact q
  obtain ⟨c, tl, hmro⟩ := F.called_set.mro
  have hmade := F.called_set.made
  have hsub := F.called_set.sub
  refine wpAny_call (codeAny_of_tree ?_)
  show wpAny _ _ (callAny (.type "set") _) _ _ _
  refine wpAny_pure ⟨Code.quiet_builtin _ (by decide +kernel), codeAny_builtin F.entry_type_call ?_⟩
  rw [Around.under_plain (weight_type_call_type "set" [.ref l] []) rfl]
  have h1 := F.called_set.notType
  have h2 := F.called_set.canCreate
  have hct := F.typeCall_set_1 (.ref l)
  repeat (any_goals (first | assumption | wp_step))

  refine codeAny_mono (code_set_led1 (.ref l) (E := E) (Q₁ := fun obj s₁ => obj = .ref s.heap.objs.size ∧ s₁ = { s with heap := s.heap.push { cls := .type "set", dict := none, data := .set #[] 0 (.fresh 0 0 (!w.params.followText "set-order")) } }) ⟨rfl, rfl⟩) fun r s₁ hr => ?_
  cases r with
  | error e => exact hr
  | ok fl =>
    cases fl with
    | ret obj =>
      obtain ⟨rfl, rfl⟩ := hr
      have hS : (s.heap.push { cls := .type "set", dict := none, data := .set #[] 0 (.fresh 0 0 (!w.params.followText "set-order")) }).get? s.heap.objs.size = some { cls := .type "set", dict := none, data := .set #[] 0 (.fresh 0 0 (!w.params.followText "set-order")) } := Heap.get?_push_size _ rfl
      have hT : Shared.TypeIs { s with heap := s.heap.push { cls := .type "set", dict := none, data := .set #[] 0 (.fresh 0 0 (!w.params.followText "set-order")) } } (.ref s.heap.objs.size) "set" := ⟨_, hS, rfl⟩
      have hli := F.called_set.init.lookup
      have hbi := F.called_set.init.bind (.ref s.heap.objs.size)
      repeat (any_goals (first | assumption | wp_step))

      refine codeAny_mono (codeAny_call_builtin (R := wants (fun r s₂ => r = .none ∧ ∃ h' tk c, s₂ = { s with heap := h', toks := tk } ∧ SetR w h' s.heap.objs.size (fun j => decide (j ∈ ns)) c ∧ c ≤ ns.length ∧
          (∀ b o, s.heap.get? b = some o → h'.get? b = some o)) E) F.called_set.init.plain F.entry_set_init (check_set_init_1 hT ?_)) fun r₂ s₂ hr₂ => ?_
      · obtain ⟨ol, hol, hcl, nl, hdl⟩ := hl
        obtain ⟨ocls, odict, odata, oslots⟩ := ol
        simp only at hcl hdl
        subst hcl; subst hdl
        have hol' : (s.heap.push { cls := .type "set", dict := none, data := .set #[] 0 (.fresh 0 0 (!w.params.followText "set-order")) }).get? l = some { cls := .type "list", dict := odict, data := .seq items nl, slots := oslots } := Heap.get?_push_of_some _ hol
        have hsls := F.sub_list_set
        have hslf := F.sub_list_frozenset
        have hne : (Value.type "list" == Value.type "dict") = false := by decide
        have hl1 : (s.heap.push { cls := .type "set", dict := none, data := .set #[] 0 (.fresh 0 0 (!w.params.followText "set-order")) }).IsList l items := ⟨_, hol', rfl, nl, rfl⟩
        unfold Builtin.«set.__init__» noKeywords Builtin.Frozenset.updateFrom
        generalize hPI : pyIter = PI
        wp_walk
        subst hPI

        refine wpAny_pyIter_list hl1 ?_
        refine wpAny_bind (wpAny_runValue ?_)
        have hlS : l < s.heap.objs.size := Heap.lt_size hol
        have hh3 : A.in1.in1.in1.handled = none := by simp [hh]
        have hz1 : (s.heap.push { cls := .type "set", dict := none, data := .set #[] 0 (.fresh 0 0 (!w.params.followText "set-order")) }).objs.size = s.heap.objs.size + 1 := Heap.size_push ..
        have hneI : l ≠ (s.heap.push { cls := .type "set", dict := none, data := .set #[] 0 (.fresh 0 0 (!w.params.followText "set-order")) }).objs.size := by
          rw [Heap.size_push]; exact Nat.ne_of_lt (Nat.lt_succ_of_lt hlS)
        have hSf : s.heap.objs.size ∉ [(s.heap.push { cls := .type "set", dict := none, data := .set #[] 0 (.fresh 0 0 (!w.params.followText "set-order")) }).objs.size, l] := by
          rw [Heap.size_push]; simp only [List.mem_cons, List.mem_singleton, List.not_mem_nil, or_false, not_or]
          exact ⟨Nat.ne_of_lt (Nat.lt_succ_self _), Nat.ne_of_gt hlS⟩
        have hval : ∀ (i : Nat) (v : Value), items[i]? = some v → ∃ k t, ns[i]? = some k ∧ v = .int k t := fun i v hv => by
          have hi : i < ns.length := by rw [← hisz]; exact (Array.getElem?_eq_some_iff.mp hv).1
          obtain ⟨t, e⟩ := PyProof.Rows.IntsAre.int_at hit i v (by rw [Array.getElem?_toList]; exact hv)
          refine ⟨ns[i], t, List.getElem?_eq_getElem hi, ?_⟩
          rw [e, List.getD_eq_getElem?_getD, List.getElem?_eq_getElem hi] <;> rfl
        refine set_update_ints ((Walks.list hh3 _ l hneI items).toS) s.heap.objs.size
          hSf ns hisz hb hval (items.size - 0) 0 _ (by omega) (Nat.zero_le _)
          ⟨⟨_, Heap.get?_push_size _ rfl, rfl, rfl⟩, (hl1.push _)⟩ ?hS0 ?hR
        case hS0 =>
          have hget : ((s.heap.push { cls := .type "set", dict := none, data := .set #[] 0 (.fresh 0 0 (!w.params.followText "set-order")) }).push { cls := .type "list_iterator", data := .fields #[.ref l, .int 0 0] }).get? s.heap.objs.size
              = some { cls := .type "set", dict := none, data := .set #[] 0 (.fresh 0 0 (!w.params.followText "set-order")) } := Heap.get?_push_of_some _ hS
          exact ⟨0, Nat.le_refl 0, setR_new_at hget⟩
        case hR =>
          intro s' c' hm hc' hS'
          obtain ⟨h', g2, d', tk', os'⟩ := s'
          have eg : g2 = s.gens := hm.gens
          have ed : d' = s.drawn := hm.drawn
          have eo : os' = s.os := hm.os
          subst eg; subst ed; subst eo
          show wpAny _ _ _ _ _ _
          refine wpAny_pure ?_
          show wpAny _ _ (ret Value.none) _ _ _
          rw [hisz] at hc'
          refine wpAny_pure ⟨rfl, h', tk', c', rfl, hS', hc', fun b o e => ?_⟩
          have hb0 : b < s.heap.objs.size := Heap.lt_size e
          have hb1 : b ≠ s.heap.objs.size := Nat.ne_of_lt hb0
          have hb2 : b ≠ (s.heap.push { cls := .type "set", dict := none, data := .set #[] 0 (.fresh 0 0 (!w.params.followText "set-order")) }).objs.size := by
            rw [Heap.size_push]; exact Nat.ne_of_lt (Nat.lt_succ_of_lt hb0)
          exact hm.heap b o (by simp only [List.mem_cons, List.mem_singleton, List.not_mem_nil, or_false, not_or]; exact ⟨hb1, hb2⟩) (Heap.get?_push_of_some _ (Heap.get?_push_of_some _ e))

      · cases r₂ with
        | error e => exact hr₂
        | ok fl₂ =>
          cases fl₂ with
          | ret r =>
            obtain ⟨rfl, h', tk, c', rfl, hS', hc', hk'⟩ := hr₂
            repeat (any_goals (first | assumption | wp_step))
            exact h _ _ _ hS' hc' hk'
          | _ => exact hr₂.elim
    | _ => exact hr.elim

theorem sorted_setI {S : Int → Bool} {n : Nat} {Q : Value → Shared → Prop} (R : SetR w s.heap a S n) (hh : A.handled = none)
    (hQ : ∀ s' p (out : Array Value) (c : Nat) (ns : List Int), (∀ b o, s.heap.get? b = some o → s'.heap.get? b = some o) → s'.gens = s.gens → s'.os = s.os → s.heap.objs.size ≤ p →
      s'.heap.get? p = some (seqObj "list" out c) → IntsAre out.toList ns → ns.Pairwise (· < ·) → (∀ k, k ∈ ns ↔ S k = true) → ns.length = n → n < scanBound → Q (.ref p) s') :
    wpAny (model P w) A (call (.builtin "sorted") [.ref a]) Q E s := by
  obtain ⟨o, es, ep, t, ho, hex, hd, g, nd, hm, hb, hf, hn, hr, hl⟩ := R
  refine Calls.call_function_entry kind_sorted plain_sorted entry_sorted (args_sorted1 _) ?_
  unfold Builtin.«sorted»
  refine wpAny_bind (m := checkCount "sorted" 1 1 _) (wpAny_pure ?_)
  refine wpAny_bind (collect_set (A := A.in1) hh ⟨o, ho, hex.1, hd⟩ hf hb hr hl fun s1 vs k1 hz g1 o1 pm => ?_)
  have hvl : vs.length = n := by rw [pm.length_eq, List.length_map, Array.length_toList]; exact hn
  have hnb : n < scanBound := by rw [← hn]; exact hb
  have hvz : vs.length ≤ sizeLine := by rw [hvl, sizeLine_eq]; unfold scanBound at hnb; omega
  have hI : IntsAre vs (vs.map SrtO.iv) := SrtO.ints_iv fun v hv => by
    obtain ⟨e, he, q⟩ := List.mem_map.mp (pm.mem_iff.mp hv)
    obtain ⟨k, tk, h1, _⟩ := g e he
    exact ⟨k, tk, by rw [← q]; exact h1⟩
  have pk : (vs.map SrtO.iv).Perm (es.toList.map keyOf) := by
    have q := pm.map SrtO.iv
    rw [List.map_map] at q
    have e : es.toList.map (SrtO.iv ∘ fun x => x.2) = es.toList.map keyOf := List.map_congr_left fun x hx => by
      obtain ⟨k, tk, h1, _⟩ := g x hx
      show SrtO.iv x.2 = keyOf x
      unfold keyOf
      rw [h1]; rfl
    rw [← e]; exact q
  refine wpAny_bind (wpAny_newList ?_ hvz)
  have hoL : (s1.heap.push (seqObj "list" vs.toArray 0)).get? s1.heap.objs.size = some (seqObj "list" vs.toArray 0) := Heap.get?_push_size _ rfl
  refine wpAny_bind (wpAny_holding (wpAny_call_entry slot_list_sort ⟨_, hoL, rfl⟩ entry_list_sort
    (SrtO.list_sort_ord SrtO.swo_int hoL hvz (fun h2 => SrtO.ints_sortable hI h2) fun out h1 h2 => ⟨_, rfl, ?_⟩) (args_list_sort _)))
  obtain ⟨k1', k2, k3⟩ := SrtO.ints_out hI h1 h2
  obtain ⟨c, hc⟩ := sortedHeap_at (vs := vs) (out := out.toArray) hoL
  have pn : (out.map SrtO.iv).Perm (es.toList.map keyOf) := k2.trans pk
  refine wpAny_pure ⟨_, rfl, hQ _ s1.heap.objs.size out.toArray c (out.map SrtO.iv) (fun b u e => ?_) g1 o1 hz hc k1' (lt_of_le_nodup _ k3 (pn.nodup_iff.mpr nd)) (fun k => by rw [pn.mem_iff, ← hm k]) ?_ hnb⟩
  · have q := k1 b u e
    have hlt := Heap.lt_size q
    show (sortedHeap (s1.heap.push (seqObj "list" vs.toArray 0)) s1.heap.objs.size vs out.toArray).get? b = some u
    rw [sortedHeap_old (Nat.ne_of_lt hlt) (by rw [size_push']; exact Nat.lt_succ_of_lt hlt)]
    exact Heap.get?_push_of_some _ q
  · rw [pn.length_eq, List.length_map, Array.length_toList]; exact hn
end
section
variable {X : Cx}
/-- set(xs), a list of whole numbers -/
def rSetLI (K : PySem.W.Frag) (w : World) : List V → Hp → VK → Prop := fun xs H Q => ∃ (l : Addr) (ns : List Int), xs = [V.ref l] ∧ SqL K H l (ns.map V.int) ∧ ns.length + 1 < scanBound ∧
  ∀ (p : Addr) (c : Nat), H p = none → Q (.ref p) (upd H p (SetO w p (fun j => decide (j ∈ ns)) c))
theorem cr_setL (hc : X.calm = true) : CallR X (.type "set") (rSetLI X.K X.w) := by
  intro pins s σ H xs us Q I r h
  obtain ⟨l, ns, rfl, hl, hb, q⟩ := h
  rw [Vals.ref1 r]
  obtain ⟨its, rv, pl, hz⟩ := I.list hl
  have hn : H s.heap.objs.size = none := I.hok.fresh (Nat.le_refl _)
  refine call_set_lst (P := X.prog) (w := X.w) ns (I.ok.hd hc) pl.isList (by simpa using rv.ints) hb fun h' tk c R hc' k => ?_
  exact ⟨.ref s.heap.objs.size, upd H s.heap.objs.size (SetO X.w s.heap.objs.size (fun j => decide (j ∈ ns)) c), I.laid (t' := tk) k (Nat.le_refl _) (setO_new R), rfl, q _ c hn⟩
/-- sorted(set), whole numbers -/
def rSortedSI (w : World) : List V → Hp → VK → Prop := fun vs H Q => ∃ (a : Addr) (S : Int → Bool) (n : Nat), vs = [V.ref a] ∧ H a = some (SetO w a S n) ∧
  ∀ (ns : List Int) (p : Addr), ns.Pairwise (· < ·) → (∀ k : Int, k ∈ ns ↔ S k = true) → H p = none → Q (.ref p) (upd H p (.lst (ns.map V.int)))
theorem cr_sortedSI (hc : X.calm = true) : CallR X (.builtin "sorted") (rSortedSI X.w) := by
  intro pins s σ H vs us Q I r h
  obtain ⟨a, S, n, rfl, ha, q⟩ := h
  have R := setO_get I ha
  rw [Vals.ref1 r]
  refine sorted_setI R (I.ok.hd hc) fun s' p out c ns k g o hp hg hi hs hm hl hnb => ?_
  have hlen : (ns.map V.int).length ≤ sizeLine := by rw [List.length_map, hl, sizeLine_eq]; unfold scanBound at hnb; omega
  have hn : H p = none := I.hok.fresh hp
  have J : Inv X pins σ (upd H p (.lst (ns.map V.int))) { s with heap := s'.heap, gens := s'.gens, drawn := s'.drawn, toks := s'.toks } :=
    I.call (ch := []) (Un.laid k hp hn) (I.hok.laid k hp ⟨hlen, out.toList, c, vals_of_ints hi, hg⟩) (by rw [g]; exact I.bare) (fun _ z => nomatch z)
  have e : s' = { s with heap := s'.heap, gens := s'.gens, drawn := s'.drawn, toks := s'.toks } := by
    cases s'
    cases s
    cases o
    rfl
  rw [e]
  exact ⟨.ref p, _, J, rfl, q ns p hs hm hn⟩
theorem unq_mem : ∀ (l : List Int) (x : Int), x ∈ unq l ↔ x ∈ l
  | [], _ => Iff.rfl
  | [_], _ => Iff.rfl
  | a :: b :: r, x => by
    have ih := unq_mem (b :: r) x
    rw [unq]
    by_cases h : a = b
    · rw [if_pos h, ih, h]; simp
    · rw [if_neg h, List.mem_cons, ih]; exact List.mem_cons.symm
theorem unq_head : ∀ (a : Int) (l : List Int), (a :: l).Pairwise (· ≤ ·) → ∀ x ∈ unq (a :: l), a ≤ x := fun a l h x hx => by
  rcases List.mem_cons.mp ((unq_mem _ _).mp hx) with rfl | hx
  · exact Int.le_refl _
  · exact (List.pairwise_cons.mp h).1 x hx
theorem unq_lt : ∀ (l : List Int), l.Pairwise (· ≤ ·) → (unq l).Pairwise (· < ·)
  | [], _ => .nil
  | [_], _ => by rw [unq]; exact List.pairwise_singleton _ _
  | a :: b :: r, h => by
    have h2 := (List.pairwise_cons.mp h).2
    have ih := unq_lt (b :: r) h2
    rw [unq]
    by_cases e : a = b
    · rw [if_pos e]; exact ih
    · rw [if_neg e]
      refine List.pairwise_cons.mpr ⟨fun x hx => ?_, ih⟩
      have h3 := unq_head b r h2 x hx
      have h4 := (List.pairwise_cons.mp h).1 b (by simp)
      omega
theorem lt_same : ∀ {a b : List Int}, a.Pairwise (· < ·) → b.Pairwise (· < ·) → (∀ x, x ∈ a ↔ x ∈ b) → a = b
  | [], [], _, _, _ => rfl
  | [], y :: b, _, _, h => absurd ((h y).mpr (by simp)) (by simp)
  | x :: a, [], _, _, h => absurd ((h x).mp (by simp)) (by simp)
  | x :: a, y :: b, ha, hb, h => by
    obtain ⟨h1, h2⟩ := List.pairwise_cons.mp ha
    obtain ⟨h3, h4⟩ := List.pairwise_cons.mp hb
    have hxy : x = y := by
      rcases List.mem_cons.mp ((h x).mp (by simp)) with e | e
      · exact e
      · rcases List.mem_cons.mp ((h y).mpr (by simp)) with e' | e'
        · exact e'.symm
        · have := h1 y e'; have := h3 x e; omega
    subst hxy
    rw [lt_same h2 h4 fun z => ?_]
    have hz := h z
    simp only [List.mem_cons] at hz
    constructor
    · intro m
      rcases hz.mp (.inr m) with e | e
      · have := h1 z m; omega
      · exact e
    · intro m
      rcases hz.mpr (.inr m) with e | e
      · have := h3 z m; omega
      · exact e
end
section
variable {K : PySem.W.Frag} {cA : Nat → Option Addr} {s : Sit} {σ : L2.St} {W : WX}
/-- the inner call's own want, the outer's after it -/
def rUq (K : PySem.W.Frag) : List V → Hp → VK → Prop := fun xs H Q => ∃ (l : Addr) (ns : List Int), xs = [V.ref l] ∧ SqL K H l (ns.map V.int) ∧ ns.length + 1 < scanBound ∧
  ∀ (p q : Addr) (o : HO), H p = none → upd H p o q = none → Q (.ref q) (upd (upd H p o) q (.lst ((uqI ns).map V.int)))
theorem suq_ok (m : Bool) {x : D} {v : V} {Q : VK} (ok : s.Ok K) (r : Rep K s x v) (h : Post K cA s σ W (suqF m x s.st) (PQ K Q)) : rUq K [v] s.H Q := by
  unfold suqF at h
  split at h
  · rename_i xs hx
    obtain ⟨a, us, rfl, ha, ra⟩ := lstOf_ok ok r hx
    split at h
    · rename_i ns hi
      rw [intsOf_ok hi] at ra
      rw [ra.ints] at ha
      split at h
      · rename_i hl
        refine ⟨a, ns, rfl, SqL.of ha, hl, fun p q o hp hq => ?_⟩
        have h2 : Post K cA (s.put p o) σ W (mk m ((uqI ns).map .int) (s.put p o).st) (PQ K Q) := h.le (Sit.put_le hp)
        exact post_mk (s := s.put p o) (Sit.put_ok ok hp) RDs.of_ints h2 q hq
      · exact h.elim
    · exact h.elim
  · exact h.elim
end
end Zn

/-! Zn, part M: min and max with a default of None; comparisons of four in a chain. -/
namespace Zn
open PySem PySem.Spec PyProof.Rows L2
theorem args_maxD (a : Value) : argsOk "max" ⟨[a], [("default", .none)]⟩ := by unfold argsOk; kernel_rfl
theorem args_minD (a : Value) : argsOk "min" ⟨[a], [("default", .none)]⟩ := by unfold argsOk; kernel_rfl
theorem call_function_tree_kw {prog : Program} {w : World} {A : Around} {E : Value → Shared → Prop} {s : Shared} {id : String} {b : Builtin} {args : List Value} {kw : List (Str × Value)} {Q : Value → Shared → Prop} (hk : builtinKind id = none) (hp : plainId id = true)
    (hb : entryFor table id = some b) (ha : argsOk id ⟨args, kw⟩)
    (hc : wpAny (model prog w) A.in1 (b ⟨args, kw⟩) (fun fin s' => match fin with
      | .done f => (match (Except.ok f : Result) with | .ok (.ret v) => Q v s' | .ok _ => False | .error e => E e s')
      | .again c' => c'.quiet = true ∧ codeAny (model prog w) A c' (fun r s' => match r with | .ok (.ret v) => Q v s' | .ok _ => False | .error e => E e s') s') E s) :
    wpAny (model prog w) A (call (.builtin id) args kw) Q E s := by
  refine wpAny_call (codeAny_call_builtin hp hb ?_)
  simp only [checkBuiltinCall, hk]
  cases hsig : Manifest.signature? id with
  | none => exact wpAny_pure hc
  | some sig =>
    have ha' : Bind.checkArgs id sig ⟨args, kw⟩ = pure () := by simpa only [argsOk, hsig] using ha
    simp only [ha']
    exact wpAny_pure hc
theorem bp_max : Builtin.Builtins.bindParams "max" ["key", "default"] 0 ⟨[], [("default", .none)]⟩ = pure [none, some .none] := by kernel_rfl
theorem bp_min : Builtin.Builtins.bindParams "min" ["key", "default"] 0 ⟨[], [("default", .none)]⟩ = pure [none, some .none] := by kernel_rfl
section
variable {prog : Program} {w : World} {A : Around} {R : Result → Shared → Prop} {I : Addr} {fp wr : List Addr} {n : Nat} {P : Nat → Value → Prop} {St : Nat → Heap → Prop}
theorem codeAny_max_loopD (W : Walks prog w A.in1 I fp wr n P St) (bt : Nat → Nat → Bool) (hcmp : CmpOf prog w A.in1 .Gt P bt) (S : Addr) (hSf : S ∉ fp) :
    ∀ (k j : Nat) (s : Shared) (vb : Value) (c : Nat), n - (j + 1) = k → j + 1 ≤ n → St (j + 1) s.heap → P (argBest bt j) vb →
    s.heap.get? S = some { cls := .type "list", dict := none, data := .seq #[vb, vb] c, slots := #[] } →
    (∀ v h' tk, P (argBest bt (n - 1)) v → (∀ b o, b ∉ wr → b ≠ S → s.heap.get? b = some o → h'.get? b = some o) → R (.ok (.ret v)) { s with heap := h', toks := tk }) →
    codeAny (model prog w) A (.builtin "max.loop" ⟨[.ref I, .none, .ref S], [("default", .none)]⟩) R s := by
  have hSw : S ∉ wr := fun h => hSf (W.sub _ h)
  have hname : (toString "max" ++ toString ".loop" : String) = "max.loop" := by decide
  intro k
  induction k with
  | zero =>
    intro j s vb c hk hj hst hPb hS hR
    have hin : j + 1 = n := by omega
    refine codeAny_builtin F.entry_max_loop ?_
    rw [Around.under_plainId F.plain_max_loop _]
    show wpAny _ A.in1 (seqItems? (.ref S) >>= _) _ _ s
    refine wpAny_bind (wpAny_seqItems hS rfl ?_)
    show wpAny _ A.in1 (tryCatch (pyNext (.ref I)) _ >>= _) _ _ s
    refine wpAny_bind (wpAny_tryCatch (W.done s _ _ (hin ▸ hst) fun h' tk hk' => ?_))
    have hS' := hk' S _ hSw hS
    show wpAny _ A.in1 (updateSeq S (fun _ => #[]) >>= _) _ _ _
    refine wpAny_bind ?_
    refine wpAny_updateSeq hS' rfl (wpAny_bind (wpAny_letGo (wpAny_pure ?_)))
    refine hR vb _ tk (by rw [← hin]; exact hPb) fun b o hbw hbS e => (Heap.get?_update_other _ _ (Ne.symm hbS)).trans (hk' b o hbw e)
  | succ k ih =>
    intro j s vb c hk hj hst hPb hS hR
    have hlt : j + 1 < n := by omega
    refine codeAny_builtin F.entry_max_loop ?_
    rw [Around.under_plainId F.plain_max_loop _]
    show wpAny _ A.in1 (seqItems? (.ref S) >>= _) _ _ s
    refine wpAny_bind (wpAny_seqItems hS rfl ?_)
    show wpAny _ A.in1 (tryCatch (pyNext (.ref I)) _ >>= _) _ _ s
    refine wpAny_bind (wpAny_tryCatch (W.item (j + 1) s _ _ hlt hst fun v h' tk hP hst' hk' => ?_))
    have hS' := hk' S _ hSw hS
    show wpAny _ A.in1 (tryCatch (holding [v, v] (richCompare .Gt v vb >>= _)) _ >>= _) _ _ _
    refine wpAny_bind (wpAny_tryCatch (wpAny_holding (wpAny_bind (hcmp (j + 1) (argBest bt j) v vb _ _ _ hP hPb ?_))))
    refine wpAny_bind (wpAny_holding (wpAny_truthy_bool ?_))
    refine wpAny_bind (wpAny_letGo (wpAny_pure ?_))
    cases hb : bt (j + 1) (argBest bt j) with
    | true =>
      simp only [if_true]
      refine wpAny_bind ?_
      refine wpAny_updateSeq hS' rfl (wpAny_bind (wpAny_letGo ?_))
      rw [hname]
      refine wpAny_pure ⟨plainId_quiet F.plain_max_loop _, ih (j + 1) _ v _ (by omega) hlt (W.frame _ _ _ hst' fun b hbf o e => ?_) (by simp only [argBest, hb, if_true]; exact hP) (Heap.get?_update_self _ hS' rfl)
        fun v' h'' tk'' hP' hk'' => ?_⟩
      · exact (Heap.get?_update_other _ _ (fun h : S = b => hSf (by rw [h]; exact hbf))).trans e
      · exact hR v' h'' tk'' hP' fun b o hbw hbS e => hk'' b o hbw hbS ((Heap.get?_update_other _ _ (Ne.symm hbS)).trans (hk' b o hbw e))
    | false =>
      simp only [Bool.false_eq_true, if_false]
      refine wpAny_bind (wpAny_letGo ?_)
      rw [hname]
      refine wpAny_pure ⟨plainId_quiet F.plain_max_loop _, ih (j + 1) _ vb c (by omega) hlt hst' (by simp only [argBest, hb, Bool.false_eq_true, if_false]; exact hPb) hS' fun v' h'' tk'' hP' hk'' => ?_⟩
      exact hR v' h'' tk'' hP' fun b o hbw hbS e => hk'' b o hbw hbS (hk' b o hbw e)

theorem codeAny_max_loopD_first (W : Walks prog w A.in1 I fp wr n P St) (bt : Nat → Nat → Bool) (hcmp : CmpOf prog w A.in1 .Gt P bt) (S : Addr) (hSf : S ∉ fp) (hn : 0 < n) {s : Shared} {c : Nat} (hst : St 0 s.heap)
    (hS : s.heap.get? S = some { cls := .type "list", dict := none, data := .seq #[] c, slots := #[] })
    (hR : ∀ v h' tk, P (argBest bt (n - 1)) v → (∀ b o, b ∉ wr → b ≠ S → s.heap.get? b = some o → h'.get? b = some o) → R (.ok (.ret v)) { s with heap := h', toks := tk }) :
    codeAny (model prog w) A (.builtin "max.loop" ⟨[.ref I, .none, .ref S], [("default", .none)]⟩) R s := by
  have hSw : S ∉ wr := fun h => hSf (W.sub _ h)
  have hname : (toString "max" ++ toString ".loop" : String) = "max.loop" := by decide
  refine codeAny_builtin F.entry_max_loop ?_
  rw [Around.under_plainId F.plain_max_loop _]
  show wpAny _ A.in1 (seqItems? (.ref S) >>= _) _ _ s
  refine wpAny_bind (wpAny_seqItems hS rfl ?_)
  show wpAny _ A.in1 (tryCatch (pyNext (.ref I)) _ >>= _) _ _ s
  refine wpAny_bind (wpAny_tryCatch (W.item 0 s _ _ hn hst fun v h' tk hP hst' hk' => ?_))
  have hS' := hk' S _ hSw hS
  show wpAny _ A.in1 (updateSeq S (fun _ => #[v, v]) >>= _) _ _ _
  refine wpAny_bind ?_
  refine wpAny_updateSeq hS' rfl ?_
  rw [hname]
  refine wpAny_pure ⟨plainId_quiet F.plain_max_loop _, codeAny_max_loopD W bt hcmp S hSf _ 0 _ v _ rfl hn (W.frame _ _ _ hst' fun b hbf o e => ?_) hP (Heap.get?_update_self _ hS' rfl) fun v' h'' tk'' hP' hk'' => ?_⟩
  · exact (Heap.get?_update_other _ _ (fun h : S = b => hSf (by rw [h]; exact hbf))).trans e
  · exact hR v' h'' tk'' hP' fun b o hbw hbS e => hk'' b o hbw hbS ((Heap.get?_update_other _ _ (Ne.symm hbS)).trans (hk' b o hbw e))
theorem codeAny_min_loopD (W : Walks prog w A.in1 I fp wr n P St) (bt : Nat → Nat → Bool) (hcmp : CmpOf prog w A.in1 .Lt P bt) (S : Addr) (hSf : S ∉ fp) :
    ∀ (k j : Nat) (s : Shared) (vb : Value) (c : Nat), n - (j + 1) = k → j + 1 ≤ n → St (j + 1) s.heap → P (argBest bt j) vb →
    s.heap.get? S = some { cls := .type "list", dict := none, data := .seq #[vb, vb] c, slots := #[] } →
    (∀ v h' tk, P (argBest bt (n - 1)) v → (∀ b o, b ∉ wr → b ≠ S → s.heap.get? b = some o → h'.get? b = some o) → R (.ok (.ret v)) { s with heap := h', toks := tk }) →
    codeAny (model prog w) A (.builtin "min.loop" ⟨[.ref I, .none, .ref S], [("default", .none)]⟩) R s := by
  have hSw : S ∉ wr := fun h => hSf (W.sub _ h)
  have hname : (toString "min" ++ toString ".loop" : String) = "min.loop" := by decide
  intro k
  induction k with
  | zero =>
    intro j s vb c hk hj hst hPb hS hR
    have hin : j + 1 = n := by omega
    refine codeAny_builtin F.entry_min_loop ?_
    rw [Around.under_plainId F.plain_min_loop _]
    show wpAny _ A.in1 (seqItems? (.ref S) >>= _) _ _ s
    refine wpAny_bind (wpAny_seqItems hS rfl ?_)
    show wpAny _ A.in1 (tryCatch (pyNext (.ref I)) _ >>= _) _ _ s
    refine wpAny_bind (wpAny_tryCatch (W.done s _ _ (hin ▸ hst) fun h' tk hk' => ?_))
    have hS' := hk' S _ hSw hS
    show wpAny _ A.in1 (updateSeq S (fun _ => #[]) >>= _) _ _ _
    refine wpAny_bind ?_
    refine wpAny_updateSeq hS' rfl (wpAny_bind (wpAny_letGo (wpAny_pure ?_)))
    refine hR vb _ tk (by rw [← hin]; exact hPb) fun b o hbw hbS e => (Heap.get?_update_other _ _ (Ne.symm hbS)).trans (hk' b o hbw e)
  | succ k ih =>
    intro j s vb c hk hj hst hPb hS hR
    have hlt : j + 1 < n := by omega
    refine codeAny_builtin F.entry_min_loop ?_
    rw [Around.under_plainId F.plain_min_loop _]
    show wpAny _ A.in1 (seqItems? (.ref S) >>= _) _ _ s
    refine wpAny_bind (wpAny_seqItems hS rfl ?_)
    show wpAny _ A.in1 (tryCatch (pyNext (.ref I)) _ >>= _) _ _ s
    refine wpAny_bind (wpAny_tryCatch (W.item (j + 1) s _ _ hlt hst fun v h' tk hP hst' hk' => ?_))
    have hS' := hk' S _ hSw hS
    show wpAny _ A.in1 (tryCatch (holding [v, v] (richCompare .Lt v vb >>= _)) _ >>= _) _ _ _
    refine wpAny_bind (wpAny_tryCatch (wpAny_holding (wpAny_bind (hcmp (j + 1) (argBest bt j) v vb _ _ _ hP hPb ?_))))
    refine wpAny_bind (wpAny_holding (wpAny_truthy_bool ?_))
    refine wpAny_bind (wpAny_letGo (wpAny_pure ?_))
    cases hb : bt (j + 1) (argBest bt j) with
    | true =>
      simp only [if_true]
      refine wpAny_bind ?_
      refine wpAny_updateSeq hS' rfl (wpAny_bind (wpAny_letGo ?_))
      rw [hname]
      refine wpAny_pure ⟨plainId_quiet F.plain_min_loop _, ih (j + 1) _ v _ (by omega) hlt (W.frame _ _ _ hst' fun b hbf o e => ?_) (by simp only [argBest, hb, if_true]; exact hP) (Heap.get?_update_self _ hS' rfl)
        fun v' h'' tk'' hP' hk'' => ?_⟩
      · exact (Heap.get?_update_other _ _ (fun h : S = b => hSf (by rw [h]; exact hbf))).trans e
      · exact hR v' h'' tk'' hP' fun b o hbw hbS e => hk'' b o hbw hbS ((Heap.get?_update_other _ _ (Ne.symm hbS)).trans (hk' b o hbw e))
    | false =>
      simp only [Bool.false_eq_true, if_false]
      refine wpAny_bind (wpAny_letGo ?_)
      rw [hname]
      refine wpAny_pure ⟨plainId_quiet F.plain_min_loop _, ih (j + 1) _ vb c (by omega) hlt hst' (by simp only [argBest, hb, Bool.false_eq_true, if_false]; exact hPb) hS' fun v' h'' tk'' hP' hk'' => ?_⟩
      exact hR v' h'' tk'' hP' fun b o hbw hbS e => hk'' b o hbw hbS (hk' b o hbw e)

theorem codeAny_min_loopD_first (W : Walks prog w A.in1 I fp wr n P St) (bt : Nat → Nat → Bool) (hcmp : CmpOf prog w A.in1 .Lt P bt) (S : Addr) (hSf : S ∉ fp) (hn : 0 < n) {s : Shared} {c : Nat} (hst : St 0 s.heap)
    (hS : s.heap.get? S = some { cls := .type "list", dict := none, data := .seq #[] c, slots := #[] })
    (hR : ∀ v h' tk, P (argBest bt (n - 1)) v → (∀ b o, b ∉ wr → b ≠ S → s.heap.get? b = some o → h'.get? b = some o) → R (.ok (.ret v)) { s with heap := h', toks := tk }) :
    codeAny (model prog w) A (.builtin "min.loop" ⟨[.ref I, .none, .ref S], [("default", .none)]⟩) R s := by
  have hSw : S ∉ wr := fun h => hSf (W.sub _ h)
  have hname : (toString "min" ++ toString ".loop" : String) = "min.loop" := by decide
  refine codeAny_builtin F.entry_min_loop ?_
  rw [Around.under_plainId F.plain_min_loop _]
  show wpAny _ A.in1 (seqItems? (.ref S) >>= _) _ _ s
  refine wpAny_bind (wpAny_seqItems hS rfl ?_)
  show wpAny _ A.in1 (tryCatch (pyNext (.ref I)) _ >>= _) _ _ s
  refine wpAny_bind (wpAny_tryCatch (W.item 0 s _ _ hn hst fun v h' tk hP hst' hk' => ?_))
  have hS' := hk' S _ hSw hS
  show wpAny _ A.in1 (updateSeq S (fun _ => #[v, v]) >>= _) _ _ _
  refine wpAny_bind ?_
  refine wpAny_updateSeq hS' rfl ?_
  rw [hname]
  refine wpAny_pure ⟨plainId_quiet F.plain_min_loop _, codeAny_min_loopD W bt hcmp S hSf _ 0 _ v _ rfl hn (W.frame _ _ _ hst' fun b hbf o e => ?_) hP (Heap.get?_update_self _ hS' rfl) fun v' h'' tk'' hP' hk'' => ?_⟩
  · exact (Heap.get?_update_other _ _ (fun h : S = b => hSf (by rw [h]; exact hbf))).trans e
  · exact hR v' h'' tk'' hP' fun b o hbw hbS e => hk'' b o hbw hbS ((Heap.get?_update_other _ _ (Ne.symm hbS)).trans (hk' b o hbw e))

end
section
variable {prog : Program} {w : World} {A : Around} {E : Value → Shared → Prop} {s : Shared}
theorem codeAny_max_emptyD {P : Nat → Value → Prop} {St : Nat → Heap → Prop} {I : Addr} {fp wr : List Addr} {R : Result → Shared → Prop} (W : Walks prog w A.in1 I fp wr 0 P St) (S : Addr) (hSf : S ∉ fp) {s : Shared} {c : Nat} (hst : St 0 s.heap)
    (hS : s.heap.get? S = some { cls := .type "list", dict := none, data := .seq #[] c, slots := #[] })
    (hR : ∀ h' tk, (∀ b o, b ∉ wr → b ≠ S → s.heap.get? b = some o → h'.get? b = some o) → R (.ok (.ret .none)) { s with heap := h', toks := tk }) :
    codeAny (model prog w) A (.builtin "max.loop" ⟨[.ref I, .none, .ref S], [("default", .none)]⟩) R s := by
  refine codeAny_builtin F.entry_max_loop ?_
  rw [Around.under_plainId F.plain_max_loop _]
  show wpAny _ A.in1 (seqItems? (.ref S) >>= _) _ _ s
  refine wpAny_bind (wpAny_seqItems hS rfl ?_)
  show wpAny _ A.in1 (tryCatch (pyNext (.ref I)) _ >>= _) _ _ s
  refine wpAny_bind (wpAny_tryCatch (W.done s _ _ hst fun h' tk hk' => ?_))
  refine wpAny_bind (wpAny_rule ?_)
  exact wpAny_pure (hR h' tk fun b o hw _ e => hk' b o hw e)
theorem codeAny_min_emptyD {P : Nat → Value → Prop} {St : Nat → Heap → Prop} {I : Addr} {fp wr : List Addr} {R : Result → Shared → Prop} (W : Walks prog w A.in1 I fp wr 0 P St) (S : Addr) (hSf : S ∉ fp) {s : Shared} {c : Nat} (hst : St 0 s.heap)
    (hS : s.heap.get? S = some { cls := .type "list", dict := none, data := .seq #[] c, slots := #[] })
    (hR : ∀ h' tk, (∀ b o, b ∉ wr → b ≠ S → s.heap.get? b = some o → h'.get? b = some o) → R (.ok (.ret .none)) { s with heap := h', toks := tk }) :
    codeAny (model prog w) A (.builtin "min.loop" ⟨[.ref I, .none, .ref S], [("default", .none)]⟩) R s := by
  refine codeAny_builtin F.entry_min_loop ?_
  rw [Around.under_plainId F.plain_min_loop _]
  show wpAny _ A.in1 (seqItems? (.ref S) >>= _) _ _ s
  refine wpAny_bind (wpAny_seqItems hS rfl ?_)
  show wpAny _ A.in1 (tryCatch (pyNext (.ref I)) _ >>= _) _ _ s
  refine wpAny_bind (wpAny_tryCatch (W.done s _ _ hst fun h' tk hk' => ?_))
  refine wpAny_bind (wpAny_rule ?_)
  exact wpAny_pure (hR h' tk fun b o hw _ e => hk' b o hw e)
theorem call_max_walkD {x : Value} {Q : Value → Shared → Prop}
    (h : wpAny (model prog w) A.in1 (pyIter x) (fun it s₂ => ∃ I fp wr n P St bt, it = .ref I ∧ Walks prog w A.in1 I fp wr n P St ∧ St 0 s₂.heap ∧ (∀ b ∈ fp, b < s₂.heap.objs.size) ∧ 0 < n ∧ CmpOf prog w A.in1 .Gt P bt ∧
      ∀ v h' tk, P (argBest bt (n - 1)) v → (∀ b o, b ∉ wr → s₂.heap.get? b = some o → h'.get? b = some o) → Q v { s₂ with heap := h', toks := tk }) E s) :
    wpAny (model prog w) A (call (.builtin "max") [x] [("default", .none)]) Q E s := by
  have hname : (toString "max" ++ toString ".loop" : String) = "max.loop" := by decide
  refine call_function_tree_kw F.kind_max F.plain_max F.entry_max (args_maxD _) ?_
  show wpAny _ A.in1 (Builtin.Builtins.bindParams "max" ["key", "default"] 0 ⟨[], [("default", .none)]⟩ >>= _) _ _ s
  refine wpAny_bind (wpAny_of_eq bp_max ?_)
  refine wpAny_bind (wpAny_pure ?_)
  refine wpAny_bind (wpAny_mono h (fun it s₂ h₂ => ?_) fun _ _ e => e)
  obtain ⟨I, fp, wr, n, P, St, bt, rfl, W, hst, hfp, hn, hcmp, hQ⟩ := h₂
  refine wpAny_bind (wpAny_newObj_type ?_)
  have hSf : s₂.heap.objs.size ∉ fp := fun hm => Nat.lt_irrefl _ (hfp _ hm)
  rw [hname]
  refine wpAny_pure ⟨plainId_quiet F.plain_max_loop _, codeAny_max_loopD_first W bt hcmp s₂.heap.objs.size hSf hn (W.frame _ _ _ hst fun b _ o e => Heap.get?_push_of_some _ e) (Heap.get?_push_size _ rfl) fun v h' tk hP hk => ?_⟩
  exact hQ v h' tk hP fun b o hbw e => hk b o hbw (Nat.ne_of_lt (Heap.lt_size e)) (Heap.get?_push_of_some _ e)
theorem call_min_walkD {x : Value} {Q : Value → Shared → Prop}
    (h : wpAny (model prog w) A.in1 (pyIter x) (fun it s₂ => ∃ I fp wr n P St bt, it = .ref I ∧ Walks prog w A.in1 I fp wr n P St ∧ St 0 s₂.heap ∧ (∀ b ∈ fp, b < s₂.heap.objs.size) ∧ 0 < n ∧ CmpOf prog w A.in1 .Lt P bt ∧
      ∀ v h' tk, P (argBest bt (n - 1)) v → (∀ b o, b ∉ wr → s₂.heap.get? b = some o → h'.get? b = some o) → Q v { s₂ with heap := h', toks := tk }) E s) :
    wpAny (model prog w) A (call (.builtin "min") [x] [("default", .none)]) Q E s := by
  have hname : (toString "min" ++ toString ".loop" : String) = "min.loop" := by decide
  refine call_function_tree_kw F.kind_min F.plain_min F.entry_min (args_minD _) ?_
  show wpAny _ A.in1 (Builtin.Builtins.bindParams "min" ["key", "default"] 0 ⟨[], [("default", .none)]⟩ >>= _) _ _ s
  refine wpAny_bind (wpAny_of_eq bp_min ?_)
  refine wpAny_bind (wpAny_pure ?_)
  refine wpAny_bind (wpAny_mono h (fun it s₂ h₂ => ?_) fun _ _ e => e)
  obtain ⟨I, fp, wr, n, P, St, bt, rfl, W, hst, hfp, hn, hcmp, hQ⟩ := h₂
  refine wpAny_bind (wpAny_newObj_type ?_)
  have hSf : s₂.heap.objs.size ∉ fp := fun hm => Nat.lt_irrefl _ (hfp _ hm)
  rw [hname]
  refine wpAny_pure ⟨plainId_quiet F.plain_min_loop _, codeAny_min_loopD_first W bt hcmp s₂.heap.objs.size hSf hn (W.frame _ _ _ hst fun b _ o e => Heap.get?_push_of_some _ e) (Heap.get?_push_size _ rfl) fun v h' tk hP hk => ?_⟩
  exact hQ v h' tk hP fun b o hbw e => hk b o hbw (Nat.ne_of_lt (Heap.lt_size e)) (Heap.get?_push_of_some _ e)
theorem call_max_none {x : Value} {Q : Value → Shared → Prop}
    (h : wpAny (model prog w) A.in1 (pyIter x) (fun it s₂ => ∃ I fp wr P St, it = .ref I ∧ Walks prog w A.in1 I fp wr 0 P St ∧ St 0 s₂.heap ∧ (∀ b ∈ fp, b < s₂.heap.objs.size) ∧
      ∀ h' tk, (∀ b o, b ∉ wr → s₂.heap.get? b = some o → h'.get? b = some o) → Q .none { s₂ with heap := h', toks := tk }) E s) :
    wpAny (model prog w) A (call (.builtin "max") [x] [("default", .none)]) Q E s := by
  have hname : (toString "max" ++ toString ".loop" : String) = "max.loop" := by decide
  refine call_function_tree_kw F.kind_max F.plain_max F.entry_max (args_maxD _) ?_
  show wpAny _ A.in1 (Builtin.Builtins.bindParams "max" ["key", "default"] 0 ⟨[], [("default", .none)]⟩ >>= _) _ _ s
  refine wpAny_bind (wpAny_of_eq bp_max ?_)
  refine wpAny_bind (wpAny_pure ?_)
  refine wpAny_bind (wpAny_mono h (fun it s₂ h₂ => ?_) fun _ _ e => e)
  obtain ⟨I, fp, wr, P, St, rfl, W, hst, hfp, hQ⟩ := h₂
  refine wpAny_bind (wpAny_newObj_type ?_)
  have hSf : s₂.heap.objs.size ∉ fp := fun hm => Nat.lt_irrefl _ (hfp _ hm)
  rw [hname]
  refine wpAny_pure ⟨plainId_quiet F.plain_max_loop _, codeAny_max_emptyD W s₂.heap.objs.size hSf (W.frame _ _ _ hst fun b _ o e => Heap.get?_push_of_some _ e) (Heap.get?_push_size _ rfl) fun h' tk hk => ?_⟩
  exact hQ h' tk fun b o hbw e => hk b o hbw (Nat.ne_of_lt (Heap.lt_size e)) (Heap.get?_push_of_some _ e)
theorem call_min_none {x : Value} {Q : Value → Shared → Prop}
    (h : wpAny (model prog w) A.in1 (pyIter x) (fun it s₂ => ∃ I fp wr P St, it = .ref I ∧ Walks prog w A.in1 I fp wr 0 P St ∧ St 0 s₂.heap ∧ (∀ b ∈ fp, b < s₂.heap.objs.size) ∧
      ∀ h' tk, (∀ b o, b ∉ wr → s₂.heap.get? b = some o → h'.get? b = some o) → Q .none { s₂ with heap := h', toks := tk }) E s) :
    wpAny (model prog w) A (call (.builtin "min") [x] [("default", .none)]) Q E s := by
  have hname : (toString "min" ++ toString ".loop" : String) = "min.loop" := by decide
  refine call_function_tree_kw F.kind_min F.plain_min F.entry_min (args_minD _) ?_
  show wpAny _ A.in1 (Builtin.Builtins.bindParams "min" ["key", "default"] 0 ⟨[], [("default", .none)]⟩ >>= _) _ _ s
  refine wpAny_bind (wpAny_of_eq bp_min ?_)
  refine wpAny_bind (wpAny_pure ?_)
  refine wpAny_bind (wpAny_mono h (fun it s₂ h₂ => ?_) fun _ _ e => e)
  obtain ⟨I, fp, wr, P, St, rfl, W, hst, hfp, hQ⟩ := h₂
  refine wpAny_bind (wpAny_newObj_type ?_)
  have hSf : s₂.heap.objs.size ∉ fp := fun hm => Nat.lt_irrefl _ (hfp _ hm)
  rw [hname]
  refine wpAny_pure ⟨plainId_quiet F.plain_min_loop _, codeAny_min_emptyD W s₂.heap.objs.size hSf (W.frame _ _ _ hst fun b _ o e => Heap.get?_push_of_some _ e) (Heap.get?_push_size _ rfl) fun h' tk hk => ?_⟩
  exact hQ h' tk fun b o hbw e => hk b o hbw (Nat.ne_of_lt (Heap.lt_size e)) (Heap.get?_push_of_some _ e)

theorem max_someD {l : Addr} {its : List Value} {ns : List Int} {Q : Value → Shared → Prop} (hh : A.handled = none) (hl : s.heap.IsList l its.toArray) (hi : IntsAre its ns) (hne : 0 < ns.length)
    (h : ∀ h' tk M t', (∀ b o, s.heap.get? b = some o → h'.get? b = some o) → M ∈ ns → (∀ a, a ∈ ns → a ≤ M) → Q (.int M t') { s with heap := h', toks := tk }) : wpAny (model prog w) A (call (.builtin "max") [.ref l] [("default", .none)]) Q E s := by
  obtain ⟨xs, e⟩ := hi.allInts.items
  have hn : numsOf (intItems xs).toList = ns := by rw [← e]; exact hi.numsOf
  rw [nums_intItems] at hn
  subst hn
  rw [e] at hl
  have hsz : 0 < xs.size := by simpa using hne
  refine call_max_walkD (iter_intList hl fun s₂ e st hfp hlI => ?_)
  subst e
  refine ⟨_, _, _, _, _, _, _, rfl, Walks.list (A := A.in1) hh _ l hlI (intItems xs), st, hfp, by simpa [intItems] using hsz, CmpOf.ints_gt (numAt xs) (fun _ _ => intItems_at), fun v h' tk hP hk => ?_⟩
  have hv : (intItems xs)[argBest (fun i j => decide (numAt xs i > numAt xs j)) (xs.size - 1)]? = some v := by simpa [intItems] using hP
  obtain ⟨t, rfl⟩ := intItems_at hv
  obtain ⟨h1, h2⟩ := argBest_gt (numAt xs) (xs.size - 1)
  refine h h' tk _ t (old_kept hk) ?_ fun a ha => ?_
  · rw [numAt_eq]; exact PySem.getD_mem (by rw [List.length_map, Array.length_toList]; omega)
  · obtain ⟨j, hj, rfl⟩ := mem_getD ha
    rw [List.length_map, Array.length_toList] at hj
    rw [← numAt_eq]; exact h2 j (by omega)
theorem min_someD {l : Addr} {its : List Value} {ns : List Int} {Q : Value → Shared → Prop} (hh : A.handled = none) (hl : s.heap.IsList l its.toArray) (hi : IntsAre its ns) (hne : 0 < ns.length)
    (h : ∀ h' tk M t', (∀ b o, s.heap.get? b = some o → h'.get? b = some o) → M ∈ ns → (∀ a, a ∈ ns → M ≤ a) → Q (.int M t') { s with heap := h', toks := tk }) : wpAny (model prog w) A (call (.builtin "min") [.ref l] [("default", .none)]) Q E s := by
  obtain ⟨xs, e⟩ := hi.allInts.items
  have hn : numsOf (intItems xs).toList = ns := by rw [← e]; exact hi.numsOf
  rw [nums_intItems] at hn
  subst hn
  rw [e] at hl
  have hsz : 0 < xs.size := by simpa using hne
  refine call_min_walkD (iter_intList hl fun s₂ e st hfp hlI => ?_)
  subst e
  refine ⟨_, _, _, _, _, _, _, rfl, Walks.list (A := A.in1) hh _ l hlI (intItems xs), st, hfp, by simpa [intItems] using hsz, CmpOf.ints_lt (numAt xs) (fun _ _ => intItems_at), fun v h' tk hP hk => ?_⟩
  have hv : (intItems xs)[argBest (fun i j => decide (numAt xs i < numAt xs j)) (xs.size - 1)]? = some v := by simpa [intItems] using hP
  obtain ⟨t, rfl⟩ := intItems_at hv
  obtain ⟨h1, h2⟩ := argBest_lt (numAt xs) (xs.size - 1)
  refine h h' tk _ t (old_kept hk) ?_ fun a ha => ?_
  · rw [numAt_eq]; exact PySem.getD_mem (by rw [List.length_map, Array.length_toList]; omega)
  · obtain ⟨j, hj, rfl⟩ := mem_getD ha
    rw [List.length_map, Array.length_toList] at hj
    rw [← numAt_eq]; exact h2 j (by omega)
theorem max_noneD {l : Addr} {Q : Value → Shared → Prop} (hh : A.handled = none) (hl : s.heap.IsList l #[])
    (h : ∀ h' tk, (∀ b o, s.heap.get? b = some o → h'.get? b = some o) → Q .none { s with heap := h', toks := tk }) : wpAny (model prog w) A (call (.builtin "max") [.ref l] [("default", .none)]) Q E s := by
  have hl' : s.heap.IsList l (intItems #[]) := by rw [show intItems #[] = #[] by simp [intItems]]; exact hl
  refine call_max_none (iter_intList hl' fun s₂ e st hfp hlI => ?_)
  subst e
  have W := Walks.list (prog := prog) (w := w) (A := A.in1) hh s.heap.objs.size l hlI (intItems #[])
  rw [show (intItems #[]).size = 0 by simp [intItems]] at W
  exact ⟨_, _, _, _, _, rfl, W, st, hfp, fun h' tk hk => h h' tk (old_kept hk)⟩
theorem min_noneD {l : Addr} {Q : Value → Shared → Prop} (hh : A.handled = none) (hl : s.heap.IsList l #[])
    (h : ∀ h' tk, (∀ b o, s.heap.get? b = some o → h'.get? b = some o) → Q .none { s with heap := h', toks := tk }) : wpAny (model prog w) A (call (.builtin "min") [.ref l] [("default", .none)]) Q E s := by
  have hl' : s.heap.IsList l (intItems #[]) := by rw [show intItems #[] = #[] by simp [intItems]]; exact hl
  refine call_min_none (iter_intList hl' fun s₂ e st hfp hlI => ?_)
  subst e
  have W := Walks.list (prog := prog) (w := w) (A := A.in1) hh s.heap.objs.size l hlI (intItems #[])
  rw [show (intItems #[]).size = 0 by simp [intItems]] at W
  exact ⟨_, _, _, _, _, rfl, W, st, hfp, fun h' tk hk => h h' tk (old_kept hk)⟩
end
section
variable {X : Cx}
/-- min(xs, default=None), whole numbers -/
def rMinD (K : PySem.W.Frag) : List V → List V → Hp → VK → Prop := fun vs zs H Q => ∃ (a : Addr) (ns : List Int), vs = [V.ref a] ∧ zs = [V.non] ∧ SqL K H a (ns.map V.int) ∧ (ns = [] → Q .non H) ∧ ∀ m, m ∈ ns → (∀ y, y ∈ ns → m ≤ y) → Q (.int m) H
def rMaxDf (K : PySem.W.Frag) : List V → List V → Hp → VK → Prop := fun vs zs H Q => ∃ (a : Addr) (ns : List Int), vs = [V.ref a] ∧ zs = [V.non] ∧ SqL K H a (ns.map V.int) ∧ (ns = [] → Q .non H) ∧ ∀ m, m ∈ ns → (∀ y, y ∈ ns → y ≤ m) → Q (.int m) H
theorem cr_minDf (hc : X.calm = true) : CallRK X (.builtin "min") ["default"] (rMinD X.K) := by
  intro pins s σ H xs zs us ws Q I r rz h
  obtain ⟨a, ns, rfl, rfl, hs, q0, q⟩ := h
  obtain ⟨its, rv, hl, _⟩ := I.list hs
  rw [Vals.ref1 r]
  obtain ⟨u, rfl, ru⟩ := rz.one
  cases ru
  cases ns with
  | nil =>
    have e : its = [] := by cases rv; rfl
    subst e
    exact min_noneD (I.ok.hd hc) hl.isList fun h' tk hk => ⟨.non, H, I.kept hk, rfl, q0 rfl⟩
  | cons n ns => exact min_someD (I.ok.hd hc) hl.isList rv.ints (by simp) fun h' tk m t' hk h1 h2 => ⟨.int _, H, I.kept hk, ⟨_, rfl⟩, q m h1 h2⟩
theorem cr_maxDf (hc : X.calm = true) : CallRK X (.builtin "max") ["default"] (rMaxDf X.K) := by
  intro pins s σ H xs zs us ws Q I r rz h
  obtain ⟨a, ns, rfl, rfl, hs, q0, q⟩ := h
  obtain ⟨its, rv, hl, _⟩ := I.list hs
  rw [Vals.ref1 r]
  obtain ⟨u, rfl, ru⟩ := rz.one
  cases ru
  cases ns with
  | nil =>
    have e : its = [] := by cases rv; rfl
    subst e
    exact max_noneD (I.ok.hd hc) hl.isList fun h' tk hk => ⟨.non, H, I.kept hk, rfl, q0 rfl⟩
  | cons n ns => exact max_someD (I.ok.hd hc) hl.isList rv.ints (by simp) fun h' tk m t' hk h1 h2 => ⟨.int _, H, I.kept hk, ⟨_, rfl⟩, q m h1 h2⟩
/-- a op b op' c op'' d -/
def tChain3 (r r' r'' : R2) (ta tb tc td : TE) : TE := fun σ H Q => ta σ H fun x H1 => tb σ H1 fun y H2 => r x y H2 fun z H3 => ∃ k, z = .bl k ∧
  (if k = true then tc σ H3 fun w' H4 => r' y w' H4 fun z' H5 => ∃ k', z' = .bl k' ∧ (if k' = true then td σ H5 fun u' H6 => r'' w' u' H6 Q else Q (.bl false) H5) else Q (.bl false) H3)
theorem pe_chain3 {a b c d : Expr} {pos : Pos} {ta tb tc td : TE} {op op' op'' : CmpOp} {r r' r'' : R2} (ho : OpR X (compareOp op) r) (ho' : OpR X (compareOp op') r') (ho'' : OpR X (compareOp op'') r'') (ha : PE X a ta) (hb : PE X b tb) (hc : PE X c tc) (hd : PE X d td)
    (hm : lastMarks [op, op', op''] [b, c, d] = false := by with_unfolding_all rfl) : PE X (.Compare a [op, op', op''] [b, c, d] pos) (tChain3 r r' r'' ta tb tc td) := by
  refine ⟨fun pins s σ H Q I h => ?_⟩
  refine Compare_chain (thn (ha.run pins s σ H _ I h) fun v s1 ⟨x, H1, I1, r1, q1⟩ => chain_link (thn (hb.run pins s1 σ H1 _ I1 q1) fun u s2 ⟨y, H2, I2, r2, q2⟩ =>
    thn (ho pins s2 σ H2 x y v u _ I2 r1 r2 q2) fun d s3 ⟨z, H3, I3, r3, k, e, q3⟩ => ?_)) hm
  subst e
  cases r3
  refine wpAny_truthy_bool ?_
  cases k with
  | false => exact ite_ff ⟨.bl false, H3, I3, rfl, q3⟩
  | true =>
    refine ite_tt (chain_link (thn (hc.run pins s3 σ H3 _ I3 q3) fun w' s4 ⟨z', H4, I4, r4, q4⟩ => thn (ho' pins s4 σ H4 y z' u w' _ I4 r2 r4 q4) fun d' s5 ⟨z2, H5, I5, r5, k2, e2, q5⟩ => ?_))
    subst e2
    cases r5
    refine wpAny_truthy_bool ?_
    cases k2 with
    | false => exact ite_ff ⟨.bl false, H5, I5, rfl, q5⟩
    | true => exact ite_tt (chain_last (thn (hd.run pins s5 σ H5 _ I5 q5) fun w'' s6 ⟨z3, H6, I6, r6, q6⟩ => ho'' pins s6 σ H6 z' z3 w' w'' Q I6 r4 r6 q6))
theorem pt_chain3 {a b c d : Expr} {pos : Pos} {ta tb tc td : TE} {op op' op'' : CmpOp} {r r' r'' : R2} (ho : OpR X (compareOp op) r) (ho' : OpR X (compareOp op') r') (ho'' : OpR X (compareOp op'') r'') (ha : PE X a ta) (hb : PE X b tb) (hc : PE X c tc) (hd : PE X d td)
    (hm : lastMarks [op, op', op''] [b, c, d] = false := by with_unfolding_all rfl) : PT X (.Compare a [op, op', op''] [b, c, d] pos) (tTest (tChain3 r r' r'' ta tb tc td)) := by
  refine ⟨fun pins s σ H Q I h => ?_⟩
  refine isTrue_chain (thn (ha.run pins s σ H _ I h) fun v s1 ⟨x, H1, I1, r1, q1⟩ => test_link (thn (hb.run pins s1 σ H1 _ I1 q1) fun u s2 ⟨y, H2, I2, r2, q2⟩ =>
    thn (ho pins s2 σ H2 x y v u _ I2 r1 r2 q2) fun d s3 ⟨z, H3, I3, r3, k, e, q3⟩ => ?_)) hm
  subst e
  cases r3
  refine wpAny_truthy_bool ?_
  cases k with
  | false =>
    obtain ⟨k', e', q'⟩ := q3
    cases e'
    exact ite_ff ⟨H3, I3, q'⟩
  | true =>
    refine ite_tt (test_link (thn (hc.run pins s3 σ H3 _ I3 q3) fun w' s4 ⟨z', H4, I4, r4, q4⟩ => thn (ho' pins s4 σ H4 y z' u w' _ I4 r2 r4 q4) fun d' s5 ⟨z2, H5, I5, r5, k2, e2, q5⟩ => ?_))
    subst e2
    cases r5
    refine wpAny_truthy_bool ?_
    cases k2 with
    | false =>
      obtain ⟨k', e', q'⟩ := q5
      cases e'
      exact ite_ff ⟨H5, I5, q'⟩
    | true =>
      refine ite_tt (test_last (thn (hd.run pins s5 σ H5 _ I5 q5) fun w'' s6 ⟨z3, H6, I6, r6, q6⟩ => thn (ho'' pins s6 σ H6 z' z3 w' w'' _ I6 r4 r6 q6) fun d'' s7 ⟨z4, H7, I7, r7, k3, e3, q7⟩ => ?_))
      subst e3
      cases r7
      exact wpAny_truthy_bool ⟨H7, I7, q7⟩
end
end Zn

/-! Zn, part T: enumerate over a tuple. -/
namespace PySem
open Sem (wp)
open AutoSeq1 (wpAny_loadPart')
theorem zn_enum_newT (l : Addr) (items : Array Value) (n : Nat) (dct : Option Addr) (sl : Array (Option Value)) :
    Meets (Builtin.«enumerate.__new__» ⟨[.type "enumerate", .ref l], []⟩) (fun _ R s => s.heap.get? l = some { cls := .type "tuple", dict := dct, data := .seq items n, slots := sl } ∧
      R (.ok (.ret (.ref (s.heap.push { cls := .type "tuple_iterator", data := .fields #[.ref l, .int 0 0] }).objs.size)))
        { s with heap := (s.heap.push { cls := .type "tuple_iterator", data := .fields #[.ref l, .int 0 0] }).push { cls := .type "enumerate", data := .fields #[.none, .bool false, .ref s.heap.objs.size, rawInt 0, .none, .none] } }) :=
  .of_wp fun prog w A R s h => by
    obtain ⟨hp, g, d, tk, os⟩ := s; obtain ⟨hl, h⟩ := h
    have hsub := sub_enumerate
    have hL : Heap.IsTuple (Shared.heap ⟨hp, g, d, tk, os⟩) l items := ⟨_, hl, rfl, n, rfl⟩
    wp_walk using wpAny_loadPart' hl
    refine wpAny_stack_any fun st => wpAny_pure ?_
    split
    · rename_i c _ _ _ _ _
      cases (c == Value.type "enumerate")
      · wp_walk using wpAny_loadPart' hl, wpAny_pyIter_tuple hL
        exact ⟨_, rfl, h⟩
      · wp_walk using wpAny_loadPart' hl, wpAny_pyIter_tuple hL
        exact ⟨_, rfl, h⟩
    · wp_walk using wpAny_loadPart' hl, wpAny_pyIter_tuple hL
      exact ⟨_, rfl, h⟩
theorem zn_call_enumT {prog : Program} {w : World} {A : Around} {E : Value → Shared → Prop} {s : Shared} {l : Addr} {items : Array Value} {Q : Value → Shared → Prop} (hL : s.heap.IsTuple l items)
    (h : ∀ h', IsEnum h' (s.heap.objs.size + 1) s.heap.objs.size 0 .none → h'.IsTupleIter s.heap.objs.size l 0 → h'.objs.size = s.heap.objs.size + 2 →
      (∀ b o, s.heap.get? b = some o → h'.get? b = some o) → Q (.ref (s.heap.objs.size + 1)) { s with heap := h' }) :
    wpAny (model prog w) A (call (.type "enumerate") [.ref l]) Q E s := by
  obtain ⟨⟨c, dct, dt, sl⟩, hl, hc, n, hd⟩ := hL
  replace hc : c = .type "tuple" := hc
  replace hd : dt = .seq items n := hd
  subst hc hd
  refine callType_new F.called_enumerate (by decide) (F.typeCall_enumerate_1 _) (F.newCall_enumerate_1 _) (fun obj => F.args_object_init_2 obj _) F.entry_enumerate_new
    (zn_enum_newT l items n dct sl) ⟨hl, ?_⟩
  have hz : (s.heap.push { cls := .type "tuple_iterator", data := .fields #[.ref l, .int 0 0] }).objs.size = s.heap.objs.size + 1 := Heap.size_push ..
  show _ ∧ _
  rw [hz]
  have he : IsEnum ((s.heap.push { cls := .type "tuple_iterator", data := .fields #[.ref l, .int 0 0] }).push
      { cls := .type "enumerate", data := .fields #[.none, .bool false, .ref s.heap.objs.size, rawInt 0, .none, .none] }) (s.heap.objs.size + 1) s.heap.objs.size 0 .none := by
    have := Heap.get?_push_size (s.heap.push { cls := .type "tuple_iterator", data := .fields #[.ref l, .int 0 0] })
      (o := { cls := .type "enumerate", data := .fields #[.none, .bool false, .ref s.heap.objs.size, rawInt 0, .none, .none] }) rfl
    rw [hz] at this; exact this
  refine ⟨⟨_, he, rfl⟩, h _ he ⟨_, Heap.get?_push_of_some _ (Heap.get?_push_size _ rfl), rfl, rfl⟩ (by rw [Heap.size_push, hz]) fun b o x => Heap.get?_push_of_some _ (Heap.get?_push_of_some _ x)⟩
end PySem
namespace Zn
open PySem PySem.Spec PyProof.Rows L2
/-- the tuple at a, each item with its number in a new pair -/
def Itet (K : PySem.W.Frag) (a : Addr) (N : Nat) : It :=
  ⟨fun i H => ∃ (xs : List V) (x : V), SqT K H a xs ∧ xs.length = N ∧ xs[i]? = some x, fun i H v H' => ∃ T x, v = .ref T ∧ H T = none ∧ H' = upd H T (.tup [.int (i : Nat), x]) ∧ ∀ xs, SqT K H a xs → xs[i]? = some x, fun i H => ∃ xs : List V, SqT K H a xs ∧ xs.length = N ∧ N ≤ i⟩
theorem turn_enumT {P : Program} {w : World} {K : PySem.W.Frag} {elts : List Expr} {kk : Nat} {tpos : Pos} (a e it : Addr) (N : Nat) (ha1 : a ≠ it) (ha2 : e ≠ a) :
    Turn P w K (.Tuple elts kk tpos) (Itet K a N) [e, it] e (fun i h => (∃ old, IsEnum h e it ((i : Nat) : Int) old) ∧ h.IsTupleIter it a i ∧ e ≠ it ∧ i ≤ N) where
  mem := by simp
  obj := fun i h st b hb => by
    obtain ⟨⟨old, he⟩, ⟨o, ho, hc, hd⟩, _⟩ := st
    have e' : b = e ∨ b = it := by simpa using hb
    rcases e' with z | z
    · rw [z]; exact ⟨_, he, fun v q => nomatch q⟩
    · rw [z]; exact ⟨o, ho, fun v q => by rw [hd] at q; cases q⟩
  keep := fun i h h' st k => let ⟨⟨old, he⟩, hi, hne, hN⟩ := st; ⟨⟨old, k e (by simp) _ he⟩, hi.at fun o q => k it (by simp) o q, hne, hN⟩
  item := by
    intro X hP hw hK hc i pins s σ H E I hf st hg
    subst hP hw hK
    obtain ⟨⟨old, he⟩, hit, hne, hN⟩ := st
    obtain ⟨xs, x, hq, hl, hx⟩ := hg
    obtain ⟨its, rv, p, hz⟩ := I.tuple hq
    obtain ⟨u, hu, ru⟩ := rv.get hx
    have hel : e < s.heap.objs.size := Heap.lt_size he
    have hil : it < s.heap.objs.size := by obtain ⟨_, q, _⟩ := hit; exact Heap.lt_size q
    have hlt : i < its.toArray.size := by rw [List.size_toArray]; exact (List.getElem?_eq_some_iff.mp hu).1
    have hiN : i < N := by rw [← hl]; exact (List.getElem?_eq_some_iff.mp hx).1
    refine wpAny_pyNext_enum_itemD (Draws.tuple (show X.A.in1.handled = none from I.ok.hd hc) it a ha1 its.toArray) he ⟨hit, p⟩ hlt hne (by simp [hne, ha2]) fun y h' tk hy ho hst' hT hsz hk => ?_
    have ey : y = u := by
      have : its[i]? = some y := by simpa using hy
      rw [hu] at this
      exact (Option.some.inj this).symm
    subst ey
    refine ⟨_, rfl, wpAny_letOwnedTupleGo_enum (s := { s with heap := h', toks := tk + 1 }) ho fun h'' he' sb => ?_⟩
    have hT2 : h''.get? s.heap.objs.size = some { cls := .type "tuple", data := .seq #[.int i tk, y] } := (sb.2 _ (Nat.ne_of_gt hel)).trans hT
    have new : ObjOk X.prog X.w (upd H s.heap.objs.size (.tup [.int (i : Nat), x])) h'' s.heap.objs.size (.tup [.int (i : Nat), x]) :=
      ⟨by show 2 ≤ sizeLine; decide, [.int i tk, y], .cons ⟨_, rfl⟩ (.cons ru .nil), ⟨_, hT2, rfl, _, rfl⟩⟩
    have I1 : Inv X pins σ (upd H s.heap.objs.size (.tup [.int (i : Nat), x])) { s with heap := h'', toks := tk + 1 } :=
      I.turnedNew (ch := [e, it]) (fun b ob hb q => (sb.2 b (fun z => hb (by simp [z]))).trans (hk b ob (fun z => hb (by simp [z])) (fun z => hb (by simp [z])) q)) hf (Nat.le_refl _) new
    refine ⟨.ref s.heap.objs.size, _, I1, rfl, ⟨_, x, rfl, I.hok.fresh (Nat.le_refl _), rfl, fun ys hy => by rw [I.tuple_inj hy hq]; exact hx⟩, ⟨⟨y, ?_⟩, hst'.1.at fun o q => (sb.2 it (Ne.symm hne)).trans q, hne, hiN⟩, fun b hb => ?_⟩
    · have e1 : ((i + 1 : Nat) : Int) = (i : Int) + 1 := by omega
      rw [e1]; exact he'
    · have hb' : b < s.heap.objs.size := by
        have e' : b = e ∨ b = it := by simpa using hb
        rcases e' with z | z
        · rw [z]; exact hel
        · rw [z]; exact hil
      rw [upd_ne (Nat.ne_of_lt hb')]
      exact (hf b hb).1
  done := by
    intro X hP hw hK hc i pins s σ H E I hf st hg
    subst hP hw hK
    obtain ⟨⟨old, he⟩, hit, hne, hN⟩ := st
    obtain ⟨xs, hq, hl, hx⟩ := hg
    obtain ⟨its, rv, p, hz⟩ := I.tuple hq
    obtain ⟨f0, f1, f2, f3, f4, f5⟩ := hf it (by simp)
    have hsz : i = its.toArray.size := by
      have := rv.length
      rw [List.size_toArray]
      omega
    exact wpAny_pyNext_enum_endD (Draws.tuple (show X.A.in1.handled = none from I.ok.hd hc) it a ha1 its.toArray) he ⟨by rw [← hsz]; exact hit, p⟩ fun h' eb => ⟨rfl, I.turned (t' := s.toks) (fun b o hb q => eb b o hb q) f0 f1 f3 f4 f5⟩
  self := fun A i s Q E st h => let ⟨⟨_, he⟩, _⟩ := st; wpAny_pyIter_enum he h
def iEnumA (K : PySem.W.Frag) (ta : TA) : TI := fun σ H R => ta σ H fun vs H1 => ∃ a, vs = [.ref a] ∧ ((∃ xs, SqL K H1 a xs ∧ R (Ite K a) H1) ∨ ∃ xs, SqT K H1 a xs ∧ R (Itet K a xs.length) H1)
theorem pi_enumA {X : Cx} {e : Expr} {ta : TA} {p pos tpos : Pos} {elts : List Expr} {kk : Nat} (hg : Gl X "enumerate") (hm : X.mg "enumerate" = none) (ha : PA X [e] ta) (hs : starEach [e] X.env = [(false, eval e X.env)] := by rfl) :
    PI X (.Tuple elts kk tpos) (.Call (.Name "enumerate" p) [e] [] pos) (iEnumA X.K ta) := by
  refine ⟨fun pins s σ H R I h => ?_⟩
  refine Call_ (ld_blt I hg hm boot_enumerate (PyProof.Rows.callWith_type1 (thn (ha.run pos pins s σ H _ I h) fun us s1 ⟨vs, H1, I1, r1, q1⟩ => ?_) hs rfl))
  obtain ⟨a, ex, q1⟩ := q1
  subst ex
  cases r1 with
  | cons r rr =>
    cases rr
    cases r
    rcases q1 with ⟨xs, hq, q⟩ | ⟨xs, hq, q⟩
    · obtain ⟨its, rv, p', hz⟩ := I1.list hq
      refine call_enumerate_list p'.isList fun h' he hit hsz hk => wpAny_pyIter_enum he ?_
      have I2 : Inv X pins σ H1 { s1 with heap := h' } := I1.kept (t' := s1.toks) hk
      refine ⟨s1.heap.objs.size + 1, [s1.heap.objs.size + 1, s1.heap.objs.size], _, _, H1, rfl, I2, turn_enum a (s1.heap.objs.size + 1) s1.heap.objs.size, ⟨⟨.none, he⟩, hit, Nat.succ_ne_self _⟩, fun b hb => ?_, q⟩
      have e' : b = s1.heap.objs.size + 1 ∨ b = s1.heap.objs.size := by simpa using hb
      have hle : s1.heap.objs.size ≤ b := by
        rcases e' with z | z
        · rw [z]; exact Nat.le_add_right _ _
        · rw [z]; exact Nat.le_refl _
      exact I1.fpOk hle (I1.hok.fresh hle)
    · obtain ⟨its, rv, p', hz⟩ := I1.tuple hq
      refine zn_call_enumT p' fun h' he hit hsz hk => wpAny_pyIter_enum he ?_
      have I2 : Inv X pins σ H1 { s1 with heap := h' } := I1.kept (t' := s1.toks) hk
      have hal : a < s1.heap.objs.size := by obtain ⟨_, q, _⟩ := p'; exact Heap.lt_size q
      refine ⟨s1.heap.objs.size + 1, [s1.heap.objs.size + 1, s1.heap.objs.size], _, _, H1, rfl, I2, turn_enumT a (s1.heap.objs.size + 1) s1.heap.objs.size xs.length (Nat.ne_of_lt hal) (Nat.ne_of_gt (Nat.lt_succ_of_lt hal)), ⟨⟨.none, he⟩, hit, Nat.succ_ne_self _, Nat.zero_le _⟩, fun b hb => ?_, q⟩
      have e' : b = s1.heap.objs.size + 1 ∨ b = s1.heap.objs.size := by simpa using hb
      have hle : s1.heap.objs.size ≤ b := by
        rcases e' with z | z
        · rw [z]; exact Nat.le_add_right _ _
        · rw [z]; exact Nat.le_refl _
      exact I1.fpOk hle (I1.hok.fresh hle)
end Zn

/-! Zn, part 6: what is walked; calls' ends; comprehensions. -/
namespace Zn
open PySem PySem.Spec PyProof.Rows L2
section
variable {K : PySem.W.Frag} {cA : Nat → Option Addr} {s s' s1 : Sit} {σ : L2.St} {W : WX} {env : Env}

/-! ### what is walked -/
def iSeq (K : PySem.W.Frag) (tl : TE) : TI := fun σ H R => tl σ H fun x H1 => ∃ a, x = .ref a ∧ (((∃ xs, SqL K H1 a xs) ∧ R (Itl K a) H1) ∨ ((∃ xs, SqT K H1 a xs) ∧ R (Itt K a) H1))
theorem pi_seq {X : Cx} {tg l : Expr} {tl : TE} (hl : PE X l tl) : PI X tg l (iSeq X.K tl) := by
  refine ⟨fun ps s0 st Hh Rr J0 hh => thn (hl.run ps s0 st Hh _ J0 hh) fun w t ⟨y, G, J1, ry, ad, ey, qq⟩ => ?_⟩
  subst ey
  cases ry
  have grow : ∀ {ob : Obj}, Inv X ps st G { t with heap := t.heap.push ob } := fun {ob} => J1.kept (t' := t.toks) fun b o e => Heap.get?_push_of_some _ e
  have fresh : ∀ b ∈ [t.heap.objs.size], FpOk X ps G b := fun b hb => by
    rw [List.mem_singleton.mp hb]
    exact J1.fpOk (Nat.le_refl _) (J1.hok.fresh (Nat.le_refl _))
  rcases qq with ⟨⟨zs, hz⟩, qq⟩ | ⟨⟨zs, hz⟩, qq⟩
  · obtain ⟨its, _, pl, _⟩ := J1.list hz
    exact wpAny_pyIter_list pl.isList ⟨_, [t.heap.objs.size], _, _, G, rfl, grow, turn_list ad _, ⟨_, Heap.get?_push_size _ rfl, rfl, rfl⟩, fresh, qq⟩
  · obtain ⟨its, _, pl, _⟩ := J1.tuple hz
    exact wpAny_pyIter_tuple (show t.heap.IsTuple ad its.toArray from pl) ⟨_, [t.heap.objs.size], _, _, G, rfl, grow, turn_tuple ad _, ⟨_, Heap.get?_push_size _ rfl, rfl, rfl⟩, fresh, qq⟩

def WkOk' (K : PySem.W.Frag) (J : It) (s0 : Sit) (xs : List D) (l : Nat) : Prop :=
  ∀ (i : Nat) (s : Sit) (ys : List D), s0.Le s → s.Ok K → lstOf s.st (.ref l) = some ys → xs.length = ys.length → (i < xs.length → J.go i s.H) ∧ (xs.length ≤ i → J.stop i s.H) ∧
      (∀ (x : V) (H' : Hp) (d e : D), xs[i]? = some d → ys[i]? = some e → J.yld i s.H x H' → ∃ s' : Sit, s'.H = H' ∧ s'.st = s.st ∧ s'.Ok K ∧ s.Le s' ∧ Rep K s' (.tup [d, e]) x)
def WkOk (K : PySem.W.Frag) (J : It) (s0 : Sit) : Wk → Prop
  | .fix xs => (∀ (i : Nat) (s : Sit), s0.Le s → s.Ok K → i < xs.length → J.go i s.H) ∧ (∀ (i : Nat) (s : Sit), s0.Le s → s.Ok K → xs.length ≤ i → J.stop i s.H) ∧
      (∀ (i : Nat) (s : Sit) (x : V) (H' : Hp) (d : D), s0.Le s → s.Ok K → xs[i]? = some d → J.yld i s.H x H' → ∃ s' : Sit, s'.H = H' ∧ s'.st = s.st ∧ s'.Ok K ∧ s.Le s' ∧ Rep K s' d x)
  | .live l => ∀ (i : Nat) (s : Sit) (xs : List D), s0.Le s → s.Ok K → lstOf s.st (.ref l) = some xs → (i < xs.length → J.go i s.H) ∧ (xs.length ≤ i → J.stop i s.H) ∧
      (∀ (x : V) (H' : Hp) (d : D), xs[i]? = some d → J.yld i s.H x H' → H' = s.H ∧ Rep K s d x)
  | .zp xs l => WkOk' K J s0 xs l
def tI (K : PySem.W.Frag) (cA : Nat → Option Addr) (F : CallF) (W : WX) (src : T) : TI := fun σ H R => ∃ s env, s.H = H ∧ s.Ok K ∧ RE K s env σ ∧ Post K cA s σ W (evw F src env s.st) fun w s1 => ∀ J, WkOk K J s1 w → R J s1.H

theorem wk_tup (ok : s.Ok K) {a : Addr} {vs : List V} {xs : List D} (h : SqT K s.H a vs) (r : RDs K s.H s.M xs vs) : WkOk K (Itt K a) s (.fix xs) := by
  refine ⟨fun i s1 l1 o1 hi => ?_, fun i s1 l1 o1 hi => ?_, fun i s1 x H' d l1 o1 hd y => ?_⟩
  · obtain ⟨v, hv, _⟩ := r.get (List.getElem?_eq_getElem hi)
    exact ⟨vs, v, l1.sqT ok h, hv⟩
  · exact ⟨vs, l1.sqT ok h, by rw [← r.length]; exact hi⟩
  · obtain ⟨e, y⟩ := y
    obtain ⟨v, hv, rv⟩ := r.get hd
    have ex : x = v := Option.some.inj ((y vs (l1.sqT ok h)).symm.trans hv)
    subst ex
    exact ⟨s1, e.symm, rfl, o1, Sit.Le.refl _, .dat (rv.le ok l1)⟩
theorem wk_lst (ok : s.Ok K) {a : Addr} {vs : List V} {xs : List D} (h : ∀ s1, s.Le s1 → SqL K s1.H a vs) (r : RDs K s.H s.M xs vs) : WkOk K (Itl K a) s (.fix xs) := by
  refine ⟨fun i s1 l1 o1 hi => ?_, fun i s1 l1 o1 hi => ?_, fun i s1 x H' d l1 o1 hd y => ?_⟩
  · obtain ⟨v, hv, _⟩ := r.get (List.getElem?_eq_getElem hi)
    exact ⟨vs, v, h s1 l1, hv⟩
  · exact ⟨vs, h s1 l1, by rw [← r.length]; exact hi⟩
  · obtain ⟨e, y⟩ := y
    obtain ⟨v, hv, rv⟩ := r.get hd
    have ex : x = v := Option.some.inj ((y vs (h s1 l1)).symm.trans hv)
    subst ex
    exact ⟨s1, e.symm, rfl, o1, Sit.Le.refl _, .dat (rv.le ok l1)⟩
theorem wk_of {d : D} {x : V} {R : It → Hp → Prop} (ok : s.Ok K) (rx : Rep K s d x) (h : Post K cA s σ W (wkOf d s.st) fun w s1 => ∀ J, WkOk K J s1 w → R J s1.H) :
    ∃ a, x = .ref a ∧ (((∃ xs, SqL K s.H a xs) ∧ R (Itl K a) s.H) ∨ ((∃ xs, SqT K s.H a xs) ∧ R (Itt K a) s.H)) := by
  unfold wkOf at h
  split at h
  · obtain ⟨a, vs, rfl, ha, ra⟩ := rep_tup rx
    exact ⟨a, rfl, .inr ⟨⟨_, ha⟩, post_ok ok h _ (wk_tup ok ha ra)⟩⟩
  · rename_i xs
    cases rx with
    | dat rx => cases rx with
      | lst ha n ra => exact ⟨_, rfl, .inl ⟨⟨_, SqL.of ha⟩, post_ok ok h _ (wk_lst ok (fun s1 l1 => SqL.of (l1.keep _ _ ha n).1) ra)⟩⟩
  · rename_i ns
    obtain ⟨a, rfl, ha⟩ := rep_scr rx
    refine ⟨a, rfl, .inl ⟨⟨_, ha⟩, post_ok ok h _ (wk_lst ok (fun s1 l1 => ?_) RDs.of_ints)⟩⟩
    obtain ⟨b, eb, hb⟩ := rep_scr (rx.le ok l1)
    cases eb
    exact hb
  · rename_i l
    cases rx with
    | ref ha =>
      rename_i a
      split at h
      · rename_i xs hx
        obtain ⟨b, vs, eb, hb, rb⟩ := lstOf_ok ok (.ref ha) hx
        cases eb
        refine ⟨a, rfl, .inl ⟨⟨_, SqL.of hb⟩, post_ok ok h _ fun i s1 ys l1 o1 hy => ?_⟩⟩
        obtain ⟨c, ws, ec, hc, rc⟩ := lstOf_ok o1 (.ref (l1.pre _ _ ha)) hy
        cases ec
        refine ⟨fun hi => ?_, fun hi => ⟨ws, SqL.of hc, by rw [← rc.length]; exact hi⟩, fun x H' d hd y => ?_⟩
        · obtain ⟨v, hv, _⟩ := rc.get (List.getElem?_eq_getElem hi)
          exact ⟨ws, v, SqL.of hc, hv⟩
        · obtain ⟨e, y⟩ := y
          obtain ⟨v, hv, rv⟩ := rc.get hd
          have ex : x = v := Option.some.inj ((y ws (SqL.of hc)).symm.trans hv)
          subst ex
          exact ⟨e, .dat rv⟩
      · exact h.elim
    | dat rx => cases rx
  · exact h.elim
theorem rngD_get {lo : Int} {n i : Nat} {d : D} (h : (rngD lo n)[i]? = some d) : i < n ∧ d = .int (lo + i) := by
  unfold rngD at h
  rw [List.getElem?_map] at h
  by_cases hi : i < n
  · rw [List.getElem?_range hi] at h
    cases h
    exact ⟨hi, rfl⟩
  · rw [List.getElem?_eq_none (by simpa using hi)] at h
    cases h
theorem wk_rng (lo : Int) (n : Nat) : WkOk K (Itr lo n) s (.fix (rngD lo n)) := by
  have hl : (rngD lo n).length = n := by unfold rngD; simp
  refine ⟨fun i s1 l1 o1 hi => by rw [hl] at hi; exact hi, fun i s1 l1 o1 hi => by rw [hl] at hi; exact hi, fun i s1 x H' d l1 o1 hd y => ?_⟩
  obtain ⟨e, ex⟩ := y
  obtain ⟨_, ed⟩ := rngD_get hd
  rw [ed, ex]
  exact ⟨s1, e.symm, rfl, o1, Sit.Le.refl _, .int _⟩
theorem rngC_get {lo : Int} {n i : Nat} {d : D} (h : ((List.range n).map fun (k : Nat) => D.int (lo - k))[i]? = some d) : i < n ∧ d = .int (lo - i) := by
  rw [List.getElem?_map] at h
  by_cases hi : i < n
  · rw [List.getElem?_range hi] at h
    cases h
    exact ⟨hi, rfl⟩
  · rw [List.getElem?_eq_none (by simpa using hi)] at h
    cases h
theorem wk_rngC (lo : Int) (n : Nat) : WkOk K (Itc lo (-1) n) s (.fix ((List.range n).map fun (k : Nat) => .int (lo - k))) := by
  have hl : ((List.range n).map fun (k : Nat) => D.int (lo - k)).length = n := by simp
  refine ⟨fun i s1 l1 o1 hi => by rw [hl] at hi; exact hi, fun i s1 l1 o1 hi => by rw [hl] at hi; exact hi, fun i s1 x H' d l1 o1 hd y => ?_⟩
  obtain ⟨e, ex⟩ := y
  obtain ⟨_, ed⟩ := rngC_get hd
  have e2 : lo + (i : Int) * -1 = lo - i := by omega
  rw [ed, ex, e2]
  exact ⟨s1, e.symm, rfl, o1, Sit.Le.refl _, .int _⟩
theorem wk_rev (ok : s.Ok K) {a : Addr} {vs : List V} {xs : List D} (h : ∀ s1, s.Le s1 → SqL K s1.H a vs) (r : RDs K s.H s.M xs vs) : WkOk K (Itv K a vs.length) s (.fix xs.reverse) := by
  have hl := r.length
  refine ⟨fun i s1 l1 o1 hi => ?_, fun i s1 l1 o1 hi => ?_, fun i s1 x H' d l1 o1 hd y => ?_⟩
  · rw [List.length_reverse] at hi
    obtain ⟨v, hv, _⟩ := r.get (List.getElem?_eq_getElem (show xs.length - 1 - i < xs.length by omega))
    exact ⟨by rw [← hl]; exact hi, vs, v, h s1 l1, by rw [← hl]; exact hv⟩
  · rw [List.length_reverse] at hi
    show vs.length ≤ i
    rw [← hl]
    exact hi
  · obtain ⟨e, y⟩ := y
    have hi : i < xs.reverse.length := (List.getElem?_eq_some_iff.mp hd).1
    rw [List.getElem?_reverse (by simpa using hi)] at hd
    obtain ⟨v, hv, rv⟩ := r.get hd
    rw [hl] at hv
    have ex : x = v := Option.some.inj ((y vs (h s1 l1)).symm.trans hv)
    subst ex
    exact ⟨s1, e.symm, rfl, o1, Sit.Le.refl _, .dat (rv.le ok l1)⟩

/-! ### a call's end -/
theorem take_over (ok : s.Ok K) {n l : Nat} {a : Addr} {xs : List D} {vs : List V} (hn : n ≤ l) (ha : s.r[l]? = some a) (hc : s.st[l]? = some (some (.lst xs))) (h : s.H a = some (.lst vs)) (r : RDs K s.H s.M xs vs) :
    Sit.Ok K ⟨s.r.take n ++ [a], s.st.take n ++ [some (.lst xs)], s.H⟩ ∧ (∀ b, Sit.M ⟨s.r.take n ++ [a], s.st.take n ++ [some (.lst xs)], s.H⟩ b → s.M b) := by
  have hlen : (s.r.take n).length = (s.st.take n).length := by rw [List.length_take, List.length_take, ok.len]
  have hM : ∀ b, Sit.M ⟨s.r.take n ++ [a], s.st.take n ++ [some (.lst xs)], s.H⟩ b → s.M b := by
    rintro b ⟨m, c, h1, h2⟩
    have h1 : (s.st.take n ++ [some (.lst xs)])[m]? = some (some (.lst c)) := h1
    have h2 : (s.r.take n ++ [a])[m]? = some b := h2
    rcases getE_append h1 with h1 | ⟨e1, _⟩
    · rcases getE_append h2 with h2 | ⟨e2, _⟩
      · exact ⟨m, c, (getE_take h1).1, (getE_take h2).1⟩
      · have := (List.getElem?_eq_some_iff.mp h1).1
        omega
    · rcases getE_append h2 with h2 | ⟨e2, q⟩
      · have := (List.getElem?_eq_some_iff.mp h2).1
        omega
      · subst q
        exact ⟨l, _, hc, ha⟩
  refine ⟨⟨?_, ?_, fun b hb => ?_, fun m c b h1 h2 => ?_⟩, hM⟩
  · show (s.r.take n ++ [a]).length = (s.st.take n ++ [_]).length
    rw [List.length_append, List.length_append, hlen]
    rfl
  · show (s.r.take n ++ [a]).Nodup
    rw [List.nodup_append]
    refine ⟨(List.take_sublist n s.r).nodup ok.nd, by simp, fun b hb c hc' e => ?_⟩
    have ec : c = a := by simpa using hc'
    obtain ⟨j, hj⟩ := List.getElem?_of_mem hb
    obtain ⟨hj, hjn⟩ := getE_take hj
    have := nodup_at ok.nd hj (by rw [e, ec]; exact ha)
    omega
  · have hb : b ∈ s.r.take n ++ [a] := hb
    rcases List.mem_append.mp hb with hb | hb
    · exact ok.there b (List.mem_of_mem_take hb)
    · have : b = a := by simpa using hb
      subst this
      exact ok.there b (List.mem_of_getElem? ha)
  · have h1 : (s.st.take n ++ [some (.lst xs)])[m]? = some (some c) := h1
    have h2 : (s.r.take n ++ [a])[m]? = some b := h2
    rcases getE_append h1 with h1 | ⟨e1, q1⟩
    · rcases getE_append h2 with h2 | ⟨e2, _⟩
      · obtain ⟨us, h, r'⟩ := cellOk_iff.mp (ok.cell m c b (getE_take h1).1 (getE_take h2).1)
        exact cellOk_iff.mpr ⟨us, h, (RD_weaken hM).2 r'⟩
      · have := (List.getElem?_eq_some_iff.mp h1).1
        omega
    · rcases getE_append h2 with h2 | ⟨e2, q⟩
      · have := (List.getElem?_eq_some_iff.mp h2).1
        omega
      · have ec : c = .lst xs := Option.some.inj q1
        subst ec q
        exact ⟨vs, h, (RD_weaken hM).2 r⟩
/-- s is where the caller stood; s' is behind: only the caller's lists are kept, and the new one's -/
theorem cut_post {m : Bool} {d : D} {v : V} {Q : VK} (ok : s.Ok K) (ok' : s'.Ok K) (le : s.Le s') (r : Rep K s' d v) (h : Post K cA s σ W (callEnd m s.st.length d s'.st) (PQ K Q)) : Q v s'.H := by
  have plain : ∀ {d : D}, Rep K (s'.cut s.st.length) d v → Post K cA s σ W (.ok d (s'.st.take s.st.length)) (PQ K Q) → Q v s'.H := fun rr hh =>
    hh (s'.cut s.st.length) rfl (Sit.cut_ok ok' _) (Sit.cut_le ok ok' le) v rr
  unfold callEnd at h
  split at h
  · rename_i l
    split at h
    · rename_i hl
      cases r with
      | ref ha =>
        refine plain (.ref ?_) h
        show (s'.r.take s.st.length)[l]? = _
        rw [List.getElem?_take_of_lt hl]
        exact ha
      | dat r => cases r
    · rename_i hl
      split at h
      · rename_i xs hc
        cases r with
        | ref ha =>
          rename_i a
          obtain ⟨vs, h1, r1⟩ := ok'.cell l _ a hc ha
          cases m with
          | false =>
            refine plain (d := .lst xs) (.dat (.lst h1 ?_ (Sit.cut_rds r1))) h
            rintro ⟨j, c, _, h3⟩
            obtain ⟨h3, hj⟩ := getE_take h3
            have := nodup_at ok'.nd h3 ha
            omega
          | true =>
            obtain ⟨o2, hM⟩ := take_over (n := s.st.length) ok' (by omega) ha hc h1 r1
            have l2 := Sit.cut_le ok ok' le
            refine h ⟨s'.r.take s.st.length ++ [a], s'.st.take s.st.length ++ [some (.lst xs)], s'.H⟩ rfl o2 ⟨fun j b hj => ?_, fun b o hb n => ⟨(le.keep b o hb n).1, fun mm => (le.keep b o hb n).2 (hM b mm)⟩, fun b hb => le.stay b hb⟩ (.ref a) (.ref ?_)
            · exact getE_left (l2.pre j b hj)
            · show (s'.r.take s.st.length ++ [a])[(s'.st.take s.st.length).length]? = some a
              have e : (s'.r.take s.st.length).length = (s'.st.take s.st.length).length := by rw [List.length_take, List.length_take, ok'.len]
              rw [← e]
              simp
        | dat r => cases r
      · rename_i xs hc
        split at h
        · exact h.elim
        · cases r with
          | ref ha =>
            rename_i a
            obtain ⟨vs, h1, r1⟩ := ok'.cell l _ a hc ha
            refine plain (d := .lst xs) (.dat (.lst h1 ?_ (Sit.cut_rds r1))) h
            rintro ⟨j, c, _, h3⟩
            obtain ⟨h3, hj⟩ := getE_take h3
            have := nodup_at ok'.nd h3 ha
            omega
          | dat r => cases r
      · exact h.elim
  · rename_i hn
    cases r with
    | ref ha => exact absurd rfl (hn _)
    | dat r => exact plain (.dat (Sit.cut_rd r)) h

/-! ### the names of a loop -/
theorem wipe_eq {σ σ' : L2.St} {vs : List Nat} (hl : σ'.length = σ.length) (h : ∀ j, j ∉ vs → σ'[j]? = (L2.wipe σ vs)[j]?) : L2.wipe σ' vs = L2.wipe σ vs := by
  have inn : ∀ (τ : L2.St) (vs : List Nat) (j : Nat), j ∈ vs → (L2.wipe τ vs)[j]? = if j < τ.length then some none else none := by
    intro τ vs
    induction vs with
    | nil => intro j hj; cases hj
    | cons v r ih =>
      intro j hj
      unfold L2.wipe
      by_cases e : v = j
      · subst e
        rw [List.getElem?_set_self']
        by_cases hv : v < τ.length
        · rw [if_pos hv, List.getElem?_eq_getElem (by rw [wipe_length]; exact hv)]
          rfl
        · rw [if_neg hv, List.getElem?_eq_none (by rw [wipe_length]; omega)]
          rfl
      · rw [List.getElem?_set_ne e]
        exact ih j ((List.mem_cons.mp hj).resolve_left fun z => e z.symm)
  apply List.ext_getElem?
  intro j
  by_cases hj : j ∈ vs
  · rw [inn _ _ _ hj, inn _ _ _ hj, hl]
  · rw [wipe_out hj]
    exact h j hj
/-- a loop's names set -/
def gN (K : PySem.W.Frag) (tg : T) : TG := fun v σ H Q => ∃ (s : Sit) (env : Env) (d : D) (env' : Env), s.H = H ∧ s.Ok K ∧ RE K s env σ ∧ Rep K s d v ∧ asgN tg d env = some env' ∧
  ∀ σ' : L2.St, RE K s env' σ' → σ'.length = σ.length → (∀ j, j ∉ slots tg → σ'[j]? = σ[j]?) → Q σ' H
theorem loc_blk {N : List Str} {sc : Scope} {x : Str} (h : wrB sc x = true) : sc.names.lookup x = some .local ∨ sc.names.lookup x = some .cell := wrB_ok h
theorem pg_name_blk {X : Cx} {s0 : Shared} {H0 : Hp} {scope : Scope} {C : Addr} {cl : List (Str × Addr)} {fp : List Addr} {i : Nat} {x : Str} {p : Pos} (nd : X.N.Nodup) (hi : X.N[i]? = some x) (hw : wrB scope x = true) :
    PG (X.blk s0 H0 scope (compEnvC scope cl C X.env) fp) (.Name x p) (gName i) := by
  have hsc : (compEnvC scope cl C X.env).scope = relS scope X.env.scope := rfl
  rcases wrB_ok hw with q | q
  · have e : (compEnvC scope cl C X.env).scope.names.lookup x = some .local := by
      rw [hsc]
      exact lookup_relS_keep (by intro z; cases z) q
    exact pg_name nd hi (.inl e) (.inr e)
  · have e : (compEnvC scope cl C X.env).scope.names.lookup x = some .cell := by
      rw [hsc]
      exact lookup_relS_keep (by intro z; cases z) q
    refine pg_name nd hi (.inr e) (.inl ?_)
    show (scope.names.lookup x == some .cell) = true
    rw [q]
    rfl
/-- several names, one after another -/
def gNs (K : PySem.W.Frag) (ts : T) : TGs := fun vs σ H Q => ∃ (s : Sit) (env : Env) (ds : List D) (env' : Env), s.H = H ∧ s.Ok K ∧ RE K s env σ ∧ Reps K s ds vs ∧ asgN.asgNs ts ds env = some env' ∧
  ∀ σ' : L2.St, RE K s env' σ' → σ'.length = σ.length → (∀ j, j ∉ slots ts → σ'[j]? = σ[j]?) → Q σ' H
theorem pgs_blk {X : Cx} {s0 : Shared} {H0 : Hp} {scope : Scope} {C : Addr} {cl : List (Str × Addr)} {fp : List Addr} (nd : X.N.Nodup) : ∀ (ts : T) (es : List Expr), chkN.chkNs X.N scope ts es = true →
    PGs (X.blk s0 H0 scope (compEnvC scope cl C X.env) fp) es (gNs X.K ts) ∧ (assignEach es (X.blk s0 H0 scope (compEnvC scope cl C X.env) fp).env).findIdx? (·.1) = none ∧ (assignEach es (X.blk s0 H0 scope (compEnvC scope cl C X.env) fp).env).length = es.length := by
  intro ts
  induction ts with
  | nil =>
    intro es h
    cases es with
    | nil =>
      refine ⟨PGs.imp pgs_nil fun vs σ H Q hw => ?_, rfl, rfl⟩
      obtain ⟨s, env, ds, env', rfl, ok, re, rp, ha, q⟩ := hw
      cases ds with
      | nil =>
        cases rp
        have e : env = env' := Option.some.inj ha
        subst e
        exact ⟨rfl, q σ re rfl fun _ _ => rfl⟩
      | cons d ds => cases ha
    | cons e es => cases h
  | cons t ts iht ih =>
    intro es h
    cases t with
    | tnm i =>
      cases es with
      | nil => cases h
      | cons e es =>
        cases e with
        | Name x p =>
          have h : (decide (X.N[i]? = some x) && wrB scope x && chkN.chkNs X.N scope ts es) = true := h
          rw [Bool.and_eq_true, Bool.and_eq_true, decide_eq_true_eq] at h
          obtain ⟨⟨h1, h2⟩, h3⟩ := h
          obtain ⟨p1, p2, p3⟩ := ih es h3
          refine ⟨PGs.imp (pgs_cons (pg_name_blk nd h1 h2) p1) fun vs σ H Q hw => ?_, ?_, ?_⟩
          · obtain ⟨s, env, ds, env', rfl, ok, re, rp, ha, q⟩ := hw
            cases ds with
            | nil => cases ha
            | cons d ds =>
              cases rp with
              | cons r1 r2 =>
                rename_i v vs
                have ha : (if i < env.length then asgN.asgNs ts ds (env.set i (some d)) else none) = some env' := ha
                split at ha
                · rename_i hi
                  refine ⟨v, vs, rfl, s, env.set i (some d), ds, env', rfl, ok, re.set r1, r2, ha, fun σ' r' l' k' => q σ' r' (by rw [l', List.length_set]) fun j hj => ?_⟩
                  have hj : j ∉ [i] ++ slots ts := hj
                  rw [List.mem_append] at hj
                  rw [k' j (fun z => hj (.inr z)), List.getElem?_set_ne (fun z => hj (.inl (by simp [z])))]
                · cases ha
          · show ((false, _) :: assignEach es _).findIdx? _ = none
            rw [List.findIdx?_cons]
            simp only [Bool.false_eq_true, if_false]
            rw [p2]
            rfl
          · show ((false, _) :: assignEach es _).length = _
            rw [List.length_cons, p3, List.length_cons]
        | _ => cases h
    | _ => cases es <;> cases h
  | _ => intro es h; cases es <;> cases h
theorem pg_blk {X : Cx} {s0 : Shared} {H0 : Hp} {scope : Scope} {C : Addr} {cl : List (Str × Addr)} {fp : List Addr} (nd : X.N.Nodup) (hc : X.calm = true) {tg : T} {e : Expr} (h : chkN X.N scope tg e = true) :
    PG (X.blk s0 H0 scope (compEnvC scope cl C X.env) fp) e (gN X.K tg) := by
  cases tg with
  | tnm i =>
    cases e with
    | Name x p =>
      have h : (decide (X.N[i]? = some x) && wrB scope x) = true := h
      rw [Bool.and_eq_true, decide_eq_true_eq] at h
      refine PG.imp (pg_name_blk nd h.1 h.2) fun v σ H Q hw => ?_
      obtain ⟨s, env, d, env', rfl, ok, re, rp, ha, q⟩ := hw
      have ha : (if i < env.length then some (env.set i (some d)) else none) = some env' := ha
      split at ha
      · have e : env.set i (some d) = env' := Option.some.inj ha
        subst e
        refine q _ (re.set rp) (by rw [List.length_set]) fun j hj => ?_
        rw [List.getElem?_set_ne]
        exact fun z => hj (by simp [slots, z])
      · cases ha
    | _ => cases h
  | ttp ts =>
    cases e with
    | Tuple es k p =>
      obtain ⟨p1, p2, p3⟩ := pgs_blk (s0 := s0) (H0 := H0) (C := C) (cl := cl) (fp := fp) nd ts es h
      refine PG.imp (pg_tup (k := k) (pos := p) (n := es.length) hc p1 p3 p2) fun v σ H Q hw => ?_
      obtain ⟨s, env, d, env', rfl, ok, re, rp, ha, q⟩ := hw
      cases d with
      | tup xs =>
        obtain ⟨a, vs, rfl, hq, rv⟩ := rep_tup rp
        have lens : ∀ (ts : T) (es : List Expr) (xs : List D) (env : Env), chkN.chkNs X.N scope ts es = true → asgN.asgNs ts xs env = some env' → xs.length = es.length := by
          intro ts
          induction ts with
          | nil =>
            intro es xs env h1 h2
            cases es with
            | nil => cases xs with
              | nil => rfl
              | cons _ _ => cases h2
            | cons _ _ => cases h1
          | cons t ts _ ih =>
            intro es xs env h1 h2
            cases t with
            | tnm i =>
              cases es with
              | nil => cases h1
              | cons e es =>
                cases xs with
                | nil => cases h2
                | cons x xs =>
                  cases e with
                  | Name y _ =>
                    have h1 : (decide (X.N[i]? = some y) && wrB scope y && chkN.chkNs X.N scope ts es) = true := h1
                    rw [Bool.and_eq_true] at h1
                    have h2 : (if i < env.length then asgN.asgNs ts xs (env.set i (some x)) else none) = some env' := h2
                    split at h2
                    · rw [List.length_cons, List.length_cons, ih es xs _ h1.2 h2]
                    · cases h2
                  | _ => cases h1
            | _ => cases es <;> cases h1
          | _ => intro es xs env h1; cases es <;> cases h1
        refine ⟨a, vs, rfl, hq, by rw [← rv.length]; exact lens ts es xs env h ha, s, env, xs, env', rfl, ok, re, rv.reps, ha, q⟩
      | _ => cases ha
    | _ => cases h
  | _ => cases e <;> cases h
end
end Zn

/-! Zn, part 7: expressions. -/
namespace Zn
open PySem PySem.Spec PyProof.Rows L2

/-- what a def promises: what our evaluator tells -/
def spF (K : PySem.W.Frag) (cA : Nat → Option Addr) (F : CallF) (f : Nat) : Sp := fun vs H Q E => ∃ s ds, s.H = H ∧ s.Ok K ∧ Reps K s ds vs ∧ Post K cA s [] (fun cls dd _ H => E cls dd H) (F f ds s.st) (PQ K Q)
/-- what the written part says of a class of refusals (without an __init__ of its own) that is raised -/
structure ExR (K : PySem.W.Frag) (G : Str → Option Value) (C : Addr) (r : Nat) : Prop where
  mg : G (cn r) = some (.ref C)
  xP : PySem.W.excIn K C [.type "ValueError", .type "Exception", .type "BaseException", .type "object"] "ValueError.__new__" = true
  kP : PySem.W.keepIn K (.ref C) = true
  bP : PySem.W.subIn K (.ref C) (.type "BaseException") = some true
  tP : PySem.W.typeIn K (.ref C) = some (.type "type")
  eC : ExcC K C
  kV : PySem.W.kitOne K (.ref C) (.type "ValueError") = some true
  at_ : ∀ c, c < 7 → ∃ C', G (cn c) = some (.ref C') ∧ PySem.W.kitOne K (.ref C) (.ref C') = some (subC r c) ∧ PySem.W.exmOne K (.ref C) (.ref C') = some (subC r c)
/-- where an expression stands -/
structure Cg (Fs : List Fn) (cA : Nat → Option Addr) (n : Nat) (X : Cx) (W : WX) : Prop where
  calm : X.calm = true
  nd : X.N.Nodup
  room : Room n X.A
  bl : ∀ x ∈ bltNames, X.mg x = none
  takes : Takes X W
  gi : ∀ (f : Nat) (fn : Fn) (x : Str) (i : Int), Fs[f]? = some fn → fn.isI x i = true → ∃ t, X.mg x = some (.int i t)
  ex : ∀ (r : Nat) (C : Addr), cA r = some C → ExR X.K X.mg C r
  rz : ∀ r, rzB Fs r = true → ∃ C, cA r = some C
  fn : ∀ (f : Nat) (fn : Fn), Fs[f]? = some fn → fn.isC = false → ∃ fa fd, X.mg fn.name = some (.ref fa) ∧ PySem.W.keepIn X.K (.ref fa) = true ∧ Binds X.K fd fn.ps [] ∧
    FnOk X.prog X.w X.K X.mg X.base (L2.CX X.prog X.w) n fa fd fn.ps (spF X.K cA (cf Fs n) f)
abbrev W0 : WX := fun _ _ _ _ => False
section
variable {Fs : List Fn} {cA : Nat → Option Addr} {n : Nat} {X : Cx} {W : WX}
theorem Cg.hu (g : Cg Fs cA n X W) : X.A.units + 65 < cLine := by have := g.room.un; omega
theorem Cg.blk (g : Cg Fs cA n X W) (s : Shared) (H : Hp) (scope : Scope) (env : PySem.Env) (fp : List Addr) : Cg Fs cA n (X.blk s H scope env fp) W0 :=
  ⟨g.calm, g.nd, g.room, g.bl, takes0, g.gi, g.ex, g.rz, g.fn⟩
theorem bl_of (g : Cg Fs cA n X W) {x : Str} (h : (bltNames.any fun y => decide (y = x)) = true) : X.mg x = none := by
  obtain ⟨y, h1, h2⟩ := List.any_eq_true.mp h
  rw [← of_decide_eq_true h2]
  exact g.bl y h1

/-- an expression that is a test by its value -/
def plT : Expr → Bool
  | .UnaryOp _ _ _ => false
  | .BoolOp _ _ _ => false
  | .IfExp _ _ _ _ => false
  | .Compare _ _ _ _ => false
  | _ => true
theorem isT_plain {e : Expr} {env : PySem.Env} (h : plT e = true) : ∀ whole, isTrue e env whole = (do let v ← whole; standAt e.pos; holding [v] (truthy v)) := by
  intro whole
  cases e <;> first | rfl | cases h
/-- a tree of an expression -/
def isX : T → Bool
  | .nil => false
  | .cons _ _ => false
  | .no => false
  | .so _ => false
  | .sit _ => false
  | .srng _ _ => false
  | .senum _ => false
  | .srev _ => false
  | .szip _ _ => false
  | _ => true

structure Pe (Fs : List Fn) (cA : Nat → Option Addr) (tr : T) (n : Nat) (X : Cx) (W : WX) : Prop where
  e : ∀ ex, chkE X.N Fs X.env.scope tr ex = true → PE X ex (tE X.K cA (cf Fs n) W tr)
  t : ∀ ex, chkE X.N Fs X.env.scope tr ex = true → tst tr = true → PT X ex (tT X.K cA (cf Fs n) W tr)
  a : ∀ vs, chkEs X.N Fs X.env.scope tr vs = true → PA X vs (tA X.K cA (cf Fs n) W tr) ∧ ∀ v ∈ vs, pl v = true
  b : ∀ o pos v vs, chkEs X.N Fs X.env.scope tr (v :: vs) = true → PE X (.BoolOp o (v :: vs) pos) (tB' X.K cA (cf Fs n) W o tr)
  w : ∀ o pos v vs, chkEs X.N Fs X.env.scope tr (v :: vs) = true → tst tr = true → PW X (.BoolOp o (v :: vs) pos) (tBT X.K cA (cf Fs n) W o tr)
  o : ∀ v, chkO X.N Fs X.env.scope tr v = true → PO X v (tO X.K cA (cf Fs n) W tr)
  c : ∀ vs, chkC X.N Fs X.env.scope tr vs = true → PTs X vs (tC' X.K cA (cf Fs n) W tr)
  i : ∀ tg iter, chkW X.N Fs X.env.scope tr iter = true → tgOk tr tg = true → PI X tg iter (tI X.K cA (cf Fs n) W tr) ∧ pl iter = true

theorem dead_Es {N : List Str} {sc : Scope} {t : T} {vs : List Expr} (h : chkEs N Fs sc t vs = true) (z : isX t = true) : False := by
  cases t <;> first | (cases z; done) | (cases vs <;> cases h)
theorem dead_O {N : List Str} {sc : Scope} {t : T} {vs : Option Expr} (h : chkO N Fs sc t vs = true) (z : isX t = true) : False := by
  cases t <;> first | (cases z; done) | (cases vs <;> cases h)
theorem dead_C {N : List Str} {sc : Scope} {t : T} {vs : List Expr} (h : chkC N Fs sc t vs = true) (z : isX t = true) : False := by
  cases t <;> first | (cases z; done) | (cases vs <;> cases h)
theorem dead_W {N : List Str} {sc : Scope} {t : T} {vs : Expr} (h : chkW N Fs sc t vs = true) (z : isX t = true) : False := by
  cases t <;> first | (cases z; done) | (cases vs <;> cases h)
theorem Pe.of {t : T} (z : isX t = true) (he : ∀ ex, chkE X.N Fs X.env.scope t ex = true → PE X ex (tE X.K cA (cf Fs n) W t))
    (ht : ∀ ex, chkE X.N Fs X.env.scope t ex = true → tst t = true → PT X ex (tT X.K cA (cf Fs n) W t)) : Pe Fs cA t n X W :=
  ⟨he, ht, fun _ h => (dead_Es h z).elim, fun _ _ _ _ h => (dead_Es h z).elim, fun _ _ _ _ h => (dead_Es h z).elim, fun _ h => (dead_O h z).elim, fun _ h => (dead_C h z).elim, fun _ _ h _ => (dead_W h z).elim⟩

/-- an expression's value, a bool, as a test -/
theorem pt_of {t : T} {ex : Expr} (h : PE X ex (tE X.K cA (cf Fs n) W t)) (hp : plT ex = true) : PT X ex (tT X.K cA (cf Fs n) W t) :=
  PT.imp (pt_val h (isT_plain hp)) fun σ H Q ⟨s, env, e, ok, re, q⟩ => ⟨s, env, e, ok, re, q.mono fun d s1 o1 l1 ⟨b, eb, qb⟩ v hv => by
    subst eb
    cases rep_bl hv
    exact ⟨b, rfl, qb⟩⟩
/-- .. of a form that is one by its value -/
theorem Pe.ofV {t : T} (z : isX t = true) (he : ∀ ex, chkE X.N Fs X.env.scope t ex = true → PE X ex (tE X.K cA (cf Fs n) W t) ∧ plT ex = true) : Pe Fs cA t n X W :=
  .of z (fun ex h => (he ex h).1) fun ex h _ => pt_of (he ex h).1 (he ex h).2

theorem p_var (i : Nat) : Pe Fs cA (.var i) n X W := .ofV rfl fun ex h => by
  cases ex with
  | Name x p =>
    have h : (decide (X.N[i]? = some x) && visB X.env.scope x && nmOk x) = true := h
    rw [Bool.and_eq_true, Bool.and_eq_true, decide_eq_true_eq] at h
    obtain ⟨⟨h1, h2⟩, h3⟩ := h
    refine ⟨PE.imp (pe_var h1 (visB_ok h2) (nmOk_ok h3).1 (nmOk_ok h3).2.1) fun σ H Q ⟨s, env, e, ok, re, q⟩ => ?_, rfl⟩
    subst e
    have q : Post X.K cA s σ W (match env[i]? with
      | some (some d) => .ok d s.st
      | _ => .err) (PQ X.K Q) := q
    split at q
    · rename_i d hd
      obtain ⟨v, h4, h5⟩ := re.at_ i d hd
      exact ⟨v, h4, post_val ok q h5⟩
    · exact q.elim
  | _ => cases h
theorem p_gi (g : Cg Fs cA n X W) (f : Nat) (i : Int) : Pe Fs cA (.gi f i) n X W := .ofV rfl fun ex h => by
  cases ex with
  | Name x p =>
    refine ⟨?_, rfl⟩
    have h : ((match Fs[f]? with
      | some fn => fn.isI x i
      | none => false) && glB X.env.scope x && nmOk x) = true := h
    rw [Bool.and_eq_true, Bool.and_eq_true] at h
    obtain ⟨⟨h1, h2⟩, h3⟩ := h
    split at h1
    · rename_i fn hf
      obtain ⟨t, hm⟩ := g.gi f fn x i hf h1
      refine PE.imp (pe_glob (v := .int i) (glB_ok h2) hm ⟨t, rfl⟩ (nmOk_ok h3).1) fun σ H Q ⟨s, env, e, ok, re, q⟩ => ?_
      subst e
      exact post_val ok q (.dat (.int _))
    · cases h1
  | _ => cases h
theorem p_con (d : D) : Pe Fs cA (.con d) n X W := .ofV rfl fun ex h => by
  cases ex with
  | Constant c k p =>
    refine ⟨?_, rfl⟩
    have h : conB d c = true := h
    have fin : ∀ {v : V}, (∀ s : Sit, Rep X.K s d v) → ∀ σ H Q, tE X.K cA (cf Fs n) W (.con d) σ H Q → tC v σ H Q := fun hv σ H Q ⟨s, env, e, ok, re, q⟩ => by
      subst e
      exact post_val ok q (hv s)
    cases d with
    | non => cases c with
      | none => exact PE.imp pe_non (fin fun _ => .non)
      | _ => cases h
    | bl b => cases c with
      | bool b' =>
        have e : b = b' := beq_iff_eq.mp h
        subst e
        exact PE.imp pe_bl (fin fun _ => .bl _)
      | _ => cases h
    | int i => cases c with
      | int j =>
        have e : i = j := of_decide_eq_true h
        subst e
        exact PE.imp pe_int (fin fun _ => .int _)
      | _ => cases h
    | str i => cases c with
      | str j =>
        have e : i = j := of_decide_eq_true h
        subst e
        exact PE.imp pe_str (fin fun _ => .str _)
      | _ => cases h
    | _ => cases c <;> cases h
  | _ => cases h
theorem p_bin (m : Bool) (op : Operator) {a b : T} (pa : Pe Fs cA a n X W) (pb : Pe Fs cA b n X W) : Pe Fs cA (.bin m op a b) n X W := .ofV rfl fun ex h => by
  cases ex with
  | BinOp l o r p =>
    have h : (decide (op = o) && chkE X.N Fs X.env.scope a l && chkE X.N Fs X.env.scope b r) = true := h
    rw [Bool.and_eq_true, Bool.and_eq_true, decide_eq_true_eq] at h
    obtain ⟨⟨h1, h2⟩, h3⟩ := h
    subst h1
    obtain ⟨rr, ho, hs⟩ := opk_bin (X := X) (cA := cA) (m := m) (op := op)
    refine ⟨PE.imp (pe_op ho (pa.e l h2) (pb.e r h3)) fun σ H Q ⟨s, env, e, ok, re, q⟩ => ?_, rfl⟩
    subst e
    exact tE_then ok re q fun s1 d x o1 l1 re1 rx q1 => tE_then o1 re1 q1 fun s2 e y o2 l2 re2 ry q2 => hs s2 σ W d e x y Q o2 (rx.le o1 l2) ry q2
  | _ => cases h
theorem p_neg {a : T} (pa : Pe Fs cA a n X W) : Pe Fs cA (.neg a) n X W := .of rfl (fun ex h => by
  cases ex with
  | UnaryOp o x p =>
    cases o with
    | USub =>
      have h : chkE X.N Fs X.env.scope a x = true := h
      refine PE.imp (pe_un un_neg (pa.e x h)) fun σ H Q ⟨s, env, e, ok, re, q⟩ => ?_
      subst e
      refine tE_then ok re q fun s1 d x o1 l1 re1 rx q1 => ?_
      cases d with
      | int i =>
        cases rep_int rx
        exact ⟨i, rfl, post_val o1 q1 (.int _)⟩
      | _ => exact q1.elim
    | _ => cases h
  | _ => cases h) fun ex h z => by
  cases ex with
  | UnaryOp o x p => cases o with
    | USub =>
      have h1 : chkE X.N Fs X.env.scope a x = true := h
      have pe : PE X (.UnaryOp .USub x p) (tE X.K cA (cf Fs n) W (.neg a)) := by
        refine PE.imp (pe_un un_neg (pa.e x h1)) fun σ H Q ⟨s, env, e, ok, re, q⟩ => ?_
        subst e
        refine tE_then ok re q fun s1 d x o1 l1 re1 rx q1 => ?_
        cases d with
        | int i =>
          cases rep_int rx
          exact ⟨i, rfl, post_val o1 q1 (.int _)⟩
        | _ => exact q1.elim
      exact PT.imp (pt_val pe (by intro _; rfl)) fun σ H Q ⟨s, env, e, ok, re, q⟩ => ⟨s, env, e, ok, re, q.mono fun d s1 o1 l1 ⟨b, eb, qb⟩ v hv => by
        subst eb
        cases rep_bl hv
        exact ⟨b, rfl, qb⟩⟩
    | _ => cases h
  | _ => cases h
theorem p_cmp (g : Cg Fs cA n X W) (op : CmpOp) {a b : T} (pa : Pe Fs cA a n X W) (pb : Pe Fs cA b n X W) : Pe Fs cA (.cmp op a b) n X W := by
  obtain ⟨rr, ho, hs⟩ := opk_cmp (X := X) (cA := cA) (op := op) g.hu
  have split : ∀ {ex}, chkE X.N Fs X.env.scope (.cmp op a b) ex = true → ∃ l r p, ex = .Compare l [op] [r] p ∧ chkE X.N Fs X.env.scope a l = true ∧ chkE X.N Fs X.env.scope b r = true ∧ pl r = true := by
    intro ex h
    cases ex with
    | Compare l os rs p =>
      match os, rs, h with
      | [o], [r], h =>
        have h : (decide (op = o) && chkE X.N Fs X.env.scope a l && chkE X.N Fs X.env.scope b r && pl r) = true := h
        rw [Bool.and_eq_true, Bool.and_eq_true, Bool.and_eq_true, decide_eq_true_eq] at h
        obtain ⟨⟨⟨h1, h2⟩, h3⟩, h4⟩ := h
        subst h1
        exact ⟨l, r, p, rfl, h2, h3, h4⟩
    | _ => cases h
  refine .of rfl (fun ex h => ?_) fun ex h _ => ?_
  · obtain ⟨l, r, p, rfl, h2, h3, h4⟩ := split h
    refine PE.imp (pe_cmpR ho (pa.e l h2) (pb.e r h3) (mark_pl h4)) fun σ H Q ⟨s, env, e, ok, re, q⟩ => ?_
    subst e
    exact tE_then ok re q fun s1 d x o1 l1 re1 rx q1 => tE_then o1 re1 q1 fun s2 e y o2 l2 re2 ry q2 => hs s2 σ W d e x y Q o2 (rx.le o1 l2) ry q2
  · obtain ⟨l, r, p, rfl, h2, h3, h4⟩ := split h
    refine PT.imp (pt_cmpR ho (pa.e l h2) (pb.e r h3) (mark_pl h4)) fun σ H Q ⟨s, env, e, ok, re, q⟩ => ?_
    subst e
    refine tE_then ok re q fun s1 d x o1 l1 re1 rx q1 => tE_then o1 re1 q1 fun s2 e y o2 l2 re2 ry q2 => hs s2 σ W d e x y _ o2 (rx.le o1 l2) ry (q2.mono fun d s3 o3 l3 ⟨b, eb, qb⟩ v hv => ?_)
    subst eb
    cases rep_bl hv
    exact ⟨b, rfl, qb⟩
theorem lastM_pl {o o' : CmpOp} {r r' : Expr} (h : pl r' = true) : lastMarks [o, o'] [r, r'] = false := mark_pl h
theorem p_cmp2 (g : Cg Fs cA n X W) (op op' : CmpOp) {a b c : T} (pa : Pe Fs cA a n X W) (pb : Pe Fs cA b n X W) (pc : Pe Fs cA c n X W) : Pe Fs cA (.cmp2 op op' a b c) n X W := by
  obtain ⟨rr, ho, hs⟩ := opk_cmp (X := X) (cA := cA) (op := op) g.hu
  obtain ⟨rr', ho', hs'⟩ := opk_cmp (X := X) (cA := cA) (op := op') g.hu
  have split : ∀ {ex}, chkE X.N Fs X.env.scope (.cmp2 op op' a b c) ex = true → ∃ l r r' p, ex = .Compare l [op, op'] [r, r'] p ∧ chkE X.N Fs X.env.scope a l = true ∧ chkE X.N Fs X.env.scope b r = true ∧ chkE X.N Fs X.env.scope c r' = true ∧ pl r' = true := by
    intro ex h
    cases ex with
    | Compare l os rs p =>
      match os, rs, h with
      | [o, o'], [r, r'], h =>
        have h : (decide (op = o) && decide (op' = o') && chkE X.N Fs X.env.scope a l && chkE X.N Fs X.env.scope b r && chkE X.N Fs X.env.scope c r' && pl r') = true := h
        rw [Bool.and_eq_true, Bool.and_eq_true, Bool.and_eq_true, Bool.and_eq_true, Bool.and_eq_true, decide_eq_true_eq, decide_eq_true_eq] at h
        obtain ⟨⟨⟨⟨⟨h1, h1'⟩, h2⟩, h3⟩, h4⟩, h5⟩ := h
        subst h1 h1'
        exact ⟨l, r, r', p, rfl, h2, h3, h4, h5⟩
    | _ => cases h
  have run : ∀ {l r r' : Expr} {σ : L2.St} {H : Hp} {Q : VK}, tE X.K cA (cf Fs n) W (.cmp2 op op' a b c) σ H Q → tChain rr rr' (tE X.K cA (cf Fs n) W a) (tE X.K cA (cf Fs n) W b) (tE X.K cA (cf Fs n) W c) σ H Q := by
    intro l r r' σ H Q ⟨s, env, e, ok, re, q⟩
    subst e
    refine tE_then ok re q fun s1 d x o1 l1 re1 rx q1 => tE_then o1 re1 q1 fun s2 e y o2 l2 re2 ry q2 => ?_
    cases hc : cmpF op d e s2.st with
    | none => rw [hc] at q2; exact q2.elim
    | some k =>
      rw [hc] at q2
      refine hs s2 σ W d e x y _ o2 (rx.le o1 l2) ry ?_
      show Post X.K cA s2 σ W (optB (cmpF op d e s2.st) s2.st) _
      rw [hc]
      intro s3 e3 o3 l3 v hv
      cases rep_bl hv
      refine ⟨k, rfl, ?_⟩
      cases k with
      | true =>
        rw [if_pos rfl]
        have q3 : Post X.K cA s2 σ W ((ev (cf Fs n) c env s2.st).bind fun z st3 => optB (cmpF op' e z st3) st3) (PQ X.K Q) := q2
        have q4 := q3.le l3
        rw [← e3] at q4
        exact tE_then o3 (re2.le o2 l3) q4 fun s4 f z o4 l4 re4 rz q5 => hs' s4 σ W e f y z Q o4 ((ry.le o2 l3).le o3 l4) rz q5
      | false =>
        rw [if_neg Bool.false_ne_true]
        have q3 : Post X.K cA s2 σ W (.ok (.bl false) s2.st) (PQ X.K Q) := q2
        exact q3 s3 e3 o3 l3 _ (.bl _)
  refine .of rfl (fun ex h => ?_) fun ex h _ => ?_
  · obtain ⟨l, r, r', p, rfl, h2, h3, h4, h5⟩ := split h
    exact PE.imp (pe_chain ho ho' (pa.e l h2) (pb.e r h3) (pc.e r' h4) (lastM_pl h5)) fun σ H Q q => run (l := l) (r := r) (r' := r') q
  · obtain ⟨l, r, r', p, rfl, h2, h3, h4, h5⟩ := split h
    refine PT.imp (pt_chain ho ho' (pa.e l h2) (pb.e r h3) (pc.e r' h4) (lastM_pl h5)) fun σ H Q q => ?_
    obtain ⟨s, env, e, ok, re, q⟩ := q
    refine run (l := l) (r := r) (r' := r') ⟨s, env, e, ok, re, q.mono fun d s3 o3 l3 ⟨b, eb, qb⟩ v hv => ?_⟩
    subst eb
    cases rep_bl hv
    exact ⟨b, rfl, qb⟩
theorem lastM3_pl {o o' o'' : CmpOp} {r r' r'' : Expr} (h : pl r'' = true) : lastMarks [o, o', o''] [r, r', r''] = false := mark_pl h
theorem p_cmp4 (g : Cg Fs cA n X W) (op op' op'' : CmpOp) {a b c d : T} (pa : Pe Fs cA a n X W) (pb : Pe Fs cA b n X W) (pc : Pe Fs cA c n X W) (pd : Pe Fs cA d n X W) : Pe Fs cA (.cmp4 op op' op'' a b c d) n X W := by
  obtain ⟨rr, ho, hs⟩ := opk_cmp (X := X) (cA := cA) (op := op) g.hu
  obtain ⟨rr', ho', hs'⟩ := opk_cmp (X := X) (cA := cA) (op := op') g.hu
  obtain ⟨rr'', ho'', hs''⟩ := opk_cmp (X := X) (cA := cA) (op := op'') g.hu
  have split : ∀ {ex}, chkE X.N Fs X.env.scope (.cmp4 op op' op'' a b c d) ex = true → ∃ l r r' r'' p, ex = .Compare l [op, op', op''] [r, r', r''] p ∧ chkE X.N Fs X.env.scope a l = true ∧ chkE X.N Fs X.env.scope b r = true ∧ chkE X.N Fs X.env.scope c r' = true ∧ chkE X.N Fs X.env.scope d r'' = true ∧ pl r'' = true := by
    intro ex h
    cases ex with
    | Compare l os rs p =>
      match os, rs, h with
      | [o, o', o''], [r, r', r''], h =>
        have h : (decide (op = o) && decide (op' = o') && decide (op'' = o'') && chkE X.N Fs X.env.scope a l && chkE X.N Fs X.env.scope b r && chkE X.N Fs X.env.scope c r' && chkE X.N Fs X.env.scope d r'' && pl r'') = true := h
        rw [Bool.and_eq_true, Bool.and_eq_true, Bool.and_eq_true, Bool.and_eq_true, Bool.and_eq_true, Bool.and_eq_true, Bool.and_eq_true, decide_eq_true_eq, decide_eq_true_eq, decide_eq_true_eq] at h
        obtain ⟨⟨⟨⟨⟨⟨⟨h1, h1'⟩, h1''⟩, h2⟩, h3⟩, h4⟩, h5⟩, h6⟩ := h
        subst h1 h1' h1''
        exact ⟨l, r, r', r'', p, rfl, h2, h3, h4, h5, h6⟩
    | _ => cases h
  have run : ∀ {σ : L2.St} {H : Hp} {Q : VK}, tE X.K cA (cf Fs n) W (.cmp4 op op' op'' a b c d) σ H Q → tChain3 rr rr' rr'' (tE X.K cA (cf Fs n) W a) (tE X.K cA (cf Fs n) W b) (tE X.K cA (cf Fs n) W c) (tE X.K cA (cf Fs n) W d) σ H Q := by
    intro σ H Q ⟨s, env, e, ok, re, q⟩
    subst e
    refine tE_then ok re q fun s1 x1 x o1 l1 re1 rx q1 => tE_then o1 re1 q1 fun s2 y1 y o2 l2 re2 ry q2 => ?_
    cases hc : cmpF op x1 y1 s2.st with
    | none => rw [hc] at q2; exact q2.elim
    | some k =>
      rw [hc] at q2
      refine hs s2 σ W x1 y1 x y _ o2 (rx.le o1 l2) ry ?_
      show Post X.K cA s2 σ W (optB (cmpF op x1 y1 s2.st) s2.st) _
      rw [hc]
      intro s3 e3 o3 l3 v hv
      cases rep_bl hv
      refine ⟨k, rfl, ?_⟩
      cases k with
      | true =>
        rw [if_pos rfl]
        have q3 : Post X.K cA s2 σ W ((ev (cf Fs n) c env s2.st).bind fun z st3 => match cmpF op' y1 z st3 with
          | some true => (ev (cf Fs n) d env st3).bind fun u st4 => optB (cmpF op'' z u st4) st4
          | some false => .ok (.bl false) st3
          | none => .err) (PQ X.K Q) := q2
        have q4 := q3.le l3
        rw [← e3] at q4
        refine tE_then o3 (re2.le o2 l3) q4 fun s4 z1 z o4 l4 re4 rz q5 => ?_
        cases hc' : cmpF op' y1 z1 s4.st with
        | none => rw [hc'] at q5; exact q5.elim
        | some k' =>
          rw [hc'] at q5
          refine hs' s4 σ W y1 z1 y z _ o4 ((ry.le o2 l3).le o3 l4) rz ?_
          show Post X.K cA s4 σ W (optB (cmpF op' y1 z1 s4.st) s4.st) _
          rw [hc']
          intro s5 e5 o5 l5 v' hv'
          cases rep_bl hv'
          refine ⟨k', rfl, ?_⟩
          cases k' with
          | true =>
            rw [if_pos rfl]
            have q6 : Post X.K cA s4 σ W ((ev (cf Fs n) d env s4.st).bind fun u st4 => optB (cmpF op'' z1 u st4) st4) (PQ X.K Q) := q5
            have q7 := q6.le l5
            rw [← e5] at q7
            exact tE_then o5 (re4.le o4 l5) q7 fun s6 u1 u o6 l6 re6 ru q8 => hs'' s6 σ W z1 u1 z u Q o6 ((rz.le o4 l5).le o5 l6) ru q8
          | false =>
            rw [if_neg Bool.false_ne_true]
            have q6 : Post X.K cA s4 σ W (.ok (.bl false) s4.st) (PQ X.K Q) := q5
            exact q6 s5 e5 o5 l5 _ (.bl _)
      | false =>
        rw [if_neg Bool.false_ne_true]
        have q3 : Post X.K cA s2 σ W (.ok (.bl false) s2.st) (PQ X.K Q) := q2
        exact q3 s3 e3 o3 l3 _ (.bl _)
  refine .of rfl (fun ex h => ?_) fun ex h _ => ?_
  · obtain ⟨l, r, r', r'', p, rfl, h2, h3, h4, h5, h6⟩ := split h
    exact PE.imp (pe_chain3 ho ho' ho'' (pa.e l h2) (pb.e r h3) (pc.e r' h4) (pd.e r'' h5) (lastM3_pl h6)) fun σ H Q q => run q
  · obtain ⟨l, r, r', r'', p, rfl, h2, h3, h4, h5, h6⟩ := split h
    refine PT.imp (pt_chain3 ho ho' ho'' (pa.e l h2) (pb.e r h3) (pc.e r' h4) (pd.e r'' h5) (lastM3_pl h6)) fun σ H Q q => ?_
    obtain ⟨s, env, e, ok, re, q⟩ := q
    refine run ⟨s, env, e, ok, re, q.mono fun d s3 o3 l3 ⟨b, eb, qb⟩ v hv => ?_⟩
    subst eb
    cases rep_bl hv
    exact ⟨b, rfl, qb⟩
theorem p_nt {a : T} (pa : Pe Fs cA a n X W) : Pe Fs cA (.nt a) n X W := by
  have split : ∀ {ex}, chkE X.N Fs X.env.scope (.nt a) ex = true → ∃ x p, ex = .UnaryOp .Not x p ∧ chkE X.N Fs X.env.scope a x = true := by
    intro ex h
    cases ex with
    | UnaryOp o x p => cases o with
      | Not => exact ⟨x, p, rfl, h⟩
      | _ => cases h
    | _ => cases h
  refine .of rfl (fun ex h => ?_) fun ex h z => ?_
  · obtain ⟨x, p, rfl, h⟩ := split h
    refine PE.imp (pe_not (pa.e x h)) fun σ H Q ⟨s, env, e, ok, re, q⟩ => ?_
    subst e
    refine tE_then ok re q fun s1 d x o1 l1 re1 rx q1 => ?_
    cases d with
    | bl b =>
      cases rep_bl rx
      exact ⟨b, rfl, post_val o1 q1 (.bl _)⟩
    | _ => exact q1.elim
  · obtain ⟨x, p, rfl, h⟩ := split h
    refine PT.imp (pt_not (pa.t x h z)) fun σ H Q ⟨s, env, e, ok, re, q⟩ => ?_
    subst e
    refine tT_then ok re q fun s1 b o1 l1 re1 q1 => ?_
    obtain ⟨c, ec, qc⟩ := post_ok o1 q1
    cases ec
    exact qc
theorem p_ite {c a b : T} (pc : Pe Fs cA c n X W) (pa : Pe Fs cA a n X W) (pb : Pe Fs cA b n X W) : Pe Fs cA (.ite c a b) n X W := by
  refine .of rfl (fun ex h => ?_) fun ex h z => by cases z
  cases ex with
  | IfExp t l r p =>
    have h : (chkE X.N Fs X.env.scope c t && tst c && chkE X.N Fs X.env.scope a l && chkE X.N Fs X.env.scope b r) = true := h
    rw [Bool.and_eq_true, Bool.and_eq_true, Bool.and_eq_true] at h
    obtain ⟨⟨⟨h1, h2⟩, h3⟩, h4⟩ := h
    refine PE.imp (pe_ifExp (pc.t t h1 h2) (pa.e l h3) (pb.e r h4)) fun σ H Q ⟨s, env, e, ok, re, q⟩ => ?_
    subst e
    refine tT_then ok re q fun s1 k o1 l1 re1 q1 => ?_
    cases k with
    | true =>
      rw [if_pos rfl] at q1 ⊢
      exact ⟨s1, env, rfl, o1, re1, q1⟩
    | false =>
      rw [if_neg Bool.false_ne_true] at q1 ⊢
      exact ⟨s1, env, rfl, o1, re1, q1⟩
  | _ => cases h
theorem p_bop (o : BoolOp) {es : T} (pe : Pe Fs cA es n X W) : Pe Fs cA (.bop o es) n X W := by
  have split : ∀ {ex}, chkE X.N Fs X.env.scope (.bop o es) ex = true → ∃ v vs p, ex = .BoolOp o (v :: vs) p ∧ chkEs X.N Fs X.env.scope es (v :: vs) = true := by
    intro ex h
    cases ex with
    | BoolOp o' vs p =>
      have h : (decide (o = o') && chkEs X.N Fs X.env.scope es vs && !vs.isEmpty) = true := h
      rw [Bool.and_eq_true, Bool.and_eq_true, decide_eq_true_eq] at h
      obtain ⟨⟨h1, h2⟩, h3⟩ := h
      subst h1
      cases vs with
      | nil => cases h3
      | cons v vs => exact ⟨v, vs, p, rfl, h2⟩
    | _ => cases h
  refine .of rfl (fun ex h => ?_) fun ex h z => ?_
  · obtain ⟨v, vs, p, rfl, h5⟩ := split h
    exact PE.imp (pe.b o p v vs h5) fun σ H Q q => q
  · obtain ⟨v, vs, p, rfl, h5⟩ := split h
    exact PT.imp (pe.w o p v vs h5 z).pt fun σ H Q q => q

/-! ### several -/
theorem Pe.ofL {t : T} (z : ∀ ex, chkE X.N Fs X.env.scope t ex = true → False) (ha : ∀ vs, chkEs X.N Fs X.env.scope t vs = true → PA X vs (tA X.K cA (cf Fs n) W t) ∧ ∀ v ∈ vs, pl v = true)
    (hb : ∀ o pos v vs, chkEs X.N Fs X.env.scope t (v :: vs) = true → PE X (.BoolOp o (v :: vs) pos) (tB' X.K cA (cf Fs n) W o t))
    (hw : ∀ o pos v vs, chkEs X.N Fs X.env.scope t (v :: vs) = true → tst t = true → PW X (.BoolOp o (v :: vs) pos) (tBT X.K cA (cf Fs n) W o t))
    (ho : ∀ v, chkO X.N Fs X.env.scope t v = true → False) (hc : ∀ v, chkC X.N Fs X.env.scope t v = true → False) (hi : ∀ v, chkW X.N Fs X.env.scope t v = true → False) : Pe Fs cA t n X W :=
  ⟨fun _ h => (z _ h).elim, fun _ h _ => (z _ h).elim, ha, hb, hw, fun _ h => (ho _ h).elim, fun _ h => (hc _ h).elim, fun _ _ h _ => (hi _ h).elim⟩
theorem p_nil : Pe Fs cA .nil n X W := .ofL (fun ex h => by cases ex <;> cases h) (fun vs h => by
    cases vs with
    | nil => exact ⟨PA.imp pa_nil fun σ H Q ⟨s, env, e, ok, re, q⟩ => by subst e; exact post_ok ok q _ .nil, fun v hv => by cases hv⟩
    | cons v vs => cases h) (fun o pos v vs h => by cases h) (fun o pos v vs h => by cases h) (fun v h => by cases v <;> cases h) (fun v h => by cases v <;> cases h) fun v h => by cases v <;> cases h
theorem evB_one {F : CallF} {o : BoolOp} {e : T} {env : Env} {st : Store} : evB F o (.cons e .nil) env st = ev F e env st := rfl
theorem evB_more {F : CallF} {o : BoolOp} {e e2 es : T} {env : Env} {st : Store} : evB F o (.cons e (.cons e2 es)) env st = (ev F e env st).bind fun x st1 => tstB x st1 fun b st2 => match o, b with
    | .And, true => evB F o (.cons e2 es) env st2
    | .And, false => .ok (.bl false) st2
    | .Or, true => .ok (.bl true) st2
    | .Or, false => evB F o (.cons e2 es) env st2 := rfl
theorem p_cons {t ts : T} (pe : Pe Fs cA t n X W) (ps : Pe Fs cA ts n X W) : Pe Fs cA (.cons t ts) n X W := by
  refine .ofL (fun ex h => by cases ex <;> cases h) (fun vs h => ?_) (fun o pos v vs h => ?_) (fun o pos v vs h z => ?_) (fun v h => by cases v <;> cases h) (fun v h => by cases v <;> cases h) fun v h => by cases v <;> cases h
  · cases vs with
    | nil => cases h
    | cons v vs =>
      have h : (pl v && chkE X.N Fs X.env.scope t v && chkEs X.N Fs X.env.scope ts vs) = true := h
      rw [Bool.and_eq_true, Bool.and_eq_true] at h
      obtain ⟨⟨h1, h2⟩, h3⟩ := h
      obtain ⟨q1, q2⟩ := ps.a vs h3
      refine ⟨PA.imp (pa_cons (pe.e v h2) q1 (star_pl h1)) fun σ H Q ⟨s, env, e, ok, re, q⟩ => ?_, fun u hu => (List.mem_cons.mp hu).elim (fun z => by rw [z]; exact h1) (q2 u)⟩
      subst e
      exact tE_then ok re q fun s1 d x o1 l1 re1 rx q1 => tA_then o1 re1 q1 fun s2 ds xs o2 l2 re2 rxs q2 => post_ok o2 q2 _ (.cons (rx.le o1 l2) rxs)
  · have h0 := h
    have h : (pl v && chkE X.N Fs X.env.scope t v && chkEs X.N Fs X.env.scope ts vs) = true := h
    rw [Bool.and_eq_true, Bool.and_eq_true] at h
    obtain ⟨⟨h1, h2⟩, h3⟩ := h
    cases vs with
    | nil =>
      cases ts with
      | nil => exact PE.imp (pe_one (pe.e v h2)) fun σ H Q q => q
      | _ => cases h3
    | cons v2 vs =>
      cases ts with
      | cons e2 es =>
        cases o with
        | And =>
          refine PE.imp (pe_and (pe.e v h2) (ps.b .And pos v2 vs h3)) fun σ H Q ⟨s, env, e, ok, re, q⟩ => ?_
          subst e
          rw [evB_more] at q
          refine tE_then ok re q fun s1 d x o1 l1 re1 rx q1 => ?_
          cases d with
          | bl b =>
            cases rep_bl rx
            refine ⟨b, rfl, ?_⟩
            cases b with
            | true => rw [if_pos rfl]; exact ⟨s1, env, rfl, o1, re1, q1⟩
            | false => rw [if_neg Bool.false_ne_true]; exact post_val o1 q1 (.bl _)
          | _ => exact q1.elim
        | Or =>
          refine PE.imp (pe_or (pe.e v h2) (ps.b .Or pos v2 vs h3)) fun σ H Q ⟨s, env, e, ok, re, q⟩ => ?_
          subst e
          rw [evB_more] at q
          refine tE_then ok re q fun s1 d x o1 l1 re1 rx q1 => ?_
          cases d with
          | bl b =>
            cases rep_bl rx
            refine ⟨b, rfl, ?_⟩
            cases b with
            | true => rw [if_pos rfl]; exact post_val o1 q1 (.bl _)
            | false => rw [if_neg Bool.false_ne_true]; exact ⟨s1, env, rfl, o1, re1, q1⟩
          | _ => exact q1.elim
      | _ => cases h3
  · have h : (pl v && chkE X.N Fs X.env.scope t v && chkEs X.N Fs X.env.scope ts vs) = true := h
    rw [Bool.and_eq_true, Bool.and_eq_true] at h
    obtain ⟨⟨h1, h2⟩, h3⟩ := h
    have z : (tst t && tst ts) = true := z
    rw [Bool.and_eq_true] at z
    cases vs with
    | nil =>
      cases ts with
      | nil =>
        cases o with
        | And => exact PW.imp (pw_and1 (pe.t v h2 z.1)) fun σ H Q q => q
        | Or => exact PW.imp (pw_or1 (pe.t v h2 z.1)) fun σ H Q q => q
      | _ => cases h3
    | cons v2 vs =>
      cases ts with
      | cons e2 es =>
        cases o with
        | And =>
          refine PW.imp (pw_and (pe.t v h2 z.1) (ps.w .And pos v2 vs h3 z.2)) fun σ H Q ⟨s, env, e, ok, re, q⟩ => ?_
          subst e
          rw [evB_more] at q
          refine tT_then ok re q fun s1 b o1 l1 re1 q1 => ?_
          cases b with
          | true => rw [if_pos rfl]; exact ⟨s1, env, rfl, o1, re1, q1⟩
          | false =>
            rw [if_neg Bool.false_ne_true]
            obtain ⟨c, ec, qc⟩ := post_ok o1 q1
            cases ec
            exact qc
        | Or =>
          refine PW.imp (pw_or (pe.t v h2 z.1) (ps.w .Or pos v2 vs h3 z.2)) fun σ H Q ⟨s, env, e, ok, re, q⟩ => ?_
          subst e
          rw [evB_more] at q
          refine tT_then ok re q fun s1 b o1 l1 re1 q1 => ?_
          cases b with
          | true =>
            rw [if_pos rfl]
            obtain ⟨c, ec, qc⟩ := post_ok o1 q1
            cases ec
            exact qc
          | false => rw [if_neg Bool.false_ne_true]; exact ⟨s1, env, rfl, o1, re1, q1⟩
      | _ => cases h3
theorem Pe.ofO {t : T} (z : ∀ ex, chkE X.N Fs X.env.scope t ex = true → False) (ha : ∀ vs, chkEs X.N Fs X.env.scope t vs = true → False)
    (ho : ∀ v, chkO X.N Fs X.env.scope t v = true → PO X v (tO X.K cA (cf Fs n) W t)) (hc : ∀ vs, chkC X.N Fs X.env.scope t vs = true → PTs X vs (tC' X.K cA (cf Fs n) W t)) (hi : ∀ v, chkW X.N Fs X.env.scope t v = true → False) : Pe Fs cA t n X W :=
  ⟨fun _ h => (z _ h).elim, fun _ h _ => (z _ h).elim, fun _ h => (ha _ h).elim, fun _ _ _ _ h => (ha _ h).elim, fun _ _ _ _ h => (ha _ h).elim, ho, hc, fun _ _ h _ => (hi _ h).elim⟩
theorem PTs.imp {X : Cx} {e : List Expr} {t t' : TT} (h : PTs X e t) (i : ∀ σ H Q, t' σ H Q → t σ H Q) : PTs X e t' := ⟨fun pins s σ H Q I hw => h.run pins s σ H Q I (i σ H Q hw)⟩
theorem p_no : Pe Fs cA .no n X W := .ofO (fun ex h => by cases ex <;> cases h) (fun vs h => by cases vs <;> cases h) (fun v h => by
    cases v with
    | none => exact PO.imp po_none fun σ H Q ⟨s, env, e, ok, re, q⟩ => by subst e; exact post_ok ok q
    | some v => cases h) (fun vs h => by
    cases vs with
    | nil => exact PTs.imp pts_nil fun σ H Q ⟨s, env, e, ok, re, q⟩ => by subst e; exact post_ok ok q
    | cons v vs => cases h) fun v h => by cases v <;> cases h
theorem p_so {t : T} (pe : Pe Fs cA t n X W) : Pe Fs cA (.so t) n X W := by
  refine .ofO (fun ex h => by cases ex <;> cases h) (fun vs h => by cases vs <;> cases h) (fun v h => ?_) (fun vs h => ?_) fun v h => by cases v <;> cases h
  · cases v with
    | none => cases h
    | some v =>
      refine PO.imp (po_some (pe.e v h)) fun σ H Q ⟨s, env, e, ok, re, q⟩ => ?_
      subst e
      refine tE_then ok re q fun s1 d x o1 l1 re1 rx q1 => ?_
      cases d with
      | int i =>
        cases rep_int rx
        exact ⟨i, rfl, post_ok o1 q1⟩
      | _ => exact q1.elim
  · match vs, h with
    | [v], h =>
      have h : (chkE X.N Fs X.env.scope t v && tst t) = true := h
      rw [Bool.and_eq_true] at h
      refine PTs.imp (pts_one (pe.t v h.1 h.2)) fun σ H Q ⟨s, env, e, ok, re, q⟩ => ?_
      subst e
      exact tT_then ok re q fun s1 b o1 l1 re1 q1 => post_ok o1 q1

/-! ### what is walked -/
theorem Pe.ofI {t : T} (z : ∀ ex, chkE X.N Fs X.env.scope t ex = true → False) (ha : ∀ vs, chkEs X.N Fs X.env.scope t vs = true → False)
    (ho : ∀ v, chkO X.N Fs X.env.scope t v = true → False) (hc : ∀ v, chkC X.N Fs X.env.scope t v = true → False) (hi : ∀ tg iter, chkW X.N Fs X.env.scope t iter = true → tgOk t tg = true → PI X tg iter (tI X.K cA (cf Fs n) W t) ∧ pl iter = true) : Pe Fs cA t n X W :=
  ⟨fun _ h => (z _ h).elim, fun _ h _ => (z _ h).elim, fun _ h => (ha _ h).elim, fun _ _ _ _ h => (ha _ h).elim, fun _ _ _ _ h => (ha _ h).elim, fun _ h => (ho _ h).elim, fun _ h => (hc _ h).elim, hi⟩
theorem p_sit {t : T} (pe : Pe Fs cA t n X W) : Pe Fs cA (.sit t) n X W := by
  refine .ofI (fun ex h => by cases ex <;> cases h) (fun vs h => by cases vs <;> cases h) (fun v h => by cases v <;> cases h) (fun v h => by cases v <;> cases h) fun tg iter h ht => ?_
  have h : (chkE X.N Fs X.env.scope t iter && pl iter) = true := h
  rw [Bool.and_eq_true] at h
  refine ⟨PI.imp (pi_seq (pe.e iter h.1)) fun σ H Q ⟨s, env, e, ok, re, q⟩ => ?_, h.2⟩
  subst e
  exact tE_then ok re q fun s1 d x o1 l1 re1 rx q1 => wk_of o1 rx q1
theorem p_srng (g : Cg Fs cA n X W) (k : Nat) {t : T} (pe : Pe Fs cA t n X W) : Pe Fs cA (.srng k t) n X W := by
  refine .ofI (fun ex h => by cases ex <;> cases h) (fun vs h => by cases vs <;> cases h) (fun v h => by cases v <;> cases h) (fun v h => by cases v <;> cases h) fun tg iter h ht => ?_
  cases iter with
  | Call f vs ks p =>
    cases f with
    | Name x p2 =>
      cases ks with
      | nil =>
        have h : (decide (x = ("range" : Str)) && glB X.env.scope x && chkEs X.N Fs X.env.scope t vs && decide (vs.length = k) && decide (k = 1 ∨ k = 2 ∨ k = 3)) = true := h
        rw [Bool.and_eq_true, Bool.and_eq_true, Bool.and_eq_true, Bool.and_eq_true, decide_eq_true_eq, decide_eq_true_eq, decide_eq_true_eq] at h
        obtain ⟨⟨⟨⟨h1, h2⟩, h3⟩, h4⟩, h5⟩ := h
        subst h1
        obtain ⟨pa, hp⟩ := pe.a vs h3
        have gl : Gl X "range" := glB_ok h2
        have mn : X.mg "range" = none := bl_of g (by decide +kernel)
        refine ⟨?_, rfl⟩
        match vs, h4, pa, hp with
        | [], h4, _, _ =>
          subst h4
          rcases h5 with h5 | h5 | h5 <;> cases h5
        | [a], h4, pa, hp =>
          subst h4
          refine PI.imp (pi_range1 gl mn pa (star_pl (hp a (by simp)))) fun σ H Q ⟨s, env, e, ok, re, q⟩ => ?_
          subst e
          refine tA_then ok re q fun s1 ds xs o1 l1 re1 rxs q0 => ?_
          have q1 : Post X.K cA s1 σ W (rng1F ds s1.st) fun w s1 => ∀ J, WkOk X.K J s1 w → Q J s1.H := q0
          clear q0
          unfold rng1F at q1
          split at q1
          · obtain ⟨v, rfl, rx⟩ := one_of rxs
            cases rep_int rx
            split at q1
            · rename_i hz
              unfold rngOk at hz
              rw [Bool.and_eq_true, decide_eq_true_eq, decide_eq_true_eq] at hz
              exact ⟨_, rfl, hz.1, hz.2, post_ok o1 q1 _ (wk_rng 0 _)⟩
            · exact q1.elim
          · exact q1.elim
        | [a, b], h4, pa, hp =>
          subst h4
          refine PI.imp (pi_range2 gl mn pa ((star_pl (hp a (by simp))).trans (by rw [star_pl (hp b (by simp))]; rfl)) (star_pl (hp b (by simp)))) fun σ H Q ⟨s, env, e, ok, re, q⟩ => ?_
          subst e
          refine tA_then ok re q fun s1 ds xs o1 l1 re1 rxs q0 => ?_
          have q1 : Post X.K cA s1 σ W (rng2F ds s1.st) fun w s1 => ∀ J, WkOk X.K J s1 w → Q J s1.H := q0
          clear q0
          unfold rng2F at q1
          split at q1
          · cases rxs with
            | cons r1 r2 =>
              obtain ⟨v, rfl, rx⟩ := one_of r2
              cases rep_int rx
              cases rep_int r1
              split at q1
              · rename_i hz
                unfold rngOk at hz
                rw [Bool.and_eq_true, Bool.and_eq_true, Bool.and_eq_true, decide_eq_true_eq, decide_eq_true_eq, decide_eq_true_eq, decide_eq_true_eq] at hz
                exact ⟨_, _, rfl, ⟨hz.1.1, hz.1.2, hz.2.1, hz.2.2⟩, post_ok o1 q1 _ (wk_rng _ _)⟩
              · exact q1.elim
          · exact q1.elim
        | [a, b, c], h4, pa, hp =>
          subst h4
          refine PI.imp (pi_range3 gl mn pa (star_pl (hp a (by simp))) (backTo_any fun e he => hp e (List.mem_cons_of_mem _ he))) fun σ H Q ⟨s, env, e, ok, re, q⟩ => ?_
          subst e
          refine tA_then ok re q fun s1 ds xs o1 l1 re1 rxs q0 => ?_
          have q1 : Post X.K cA s1 σ W (rng3F ds s1.st) fun w s1 => ∀ J, WkOk X.K J s1 w → Q J s1.H := q0
          clear q0
          unfold rng3F at q1
          split at q1
          · cases rxs with
            | cons r1 r2 => cases r2 with
              | cons r2 r3 =>
                obtain ⟨v, rfl, rx⟩ := one_of r3
                cases rep_int rx
                cases rep_int r1
                cases rep_int r2
                split at q1
                · rename_i hz
                  unfold rngOk at hz
                  rw [Bool.and_eq_true, Bool.and_eq_true, Bool.and_eq_true, Bool.and_eq_true, decide_eq_true_eq, decide_eq_true_eq, decide_eq_true_eq, decide_eq_true_eq, decide_eq_true_eq] at hz
                  obtain ⟨⟨⟨z1, z2⟩, z3, z4⟩, z5⟩ := hz
                  subst z5
                  exact ⟨_, _, _, _, rfl, RgC.neg z1 z2 z3 z4, post_ok o1 q1 _ (wk_rngC _ _)⟩
                · exact q1.elim
          · exact q1.elim
        | a :: b :: c :: d :: r, h4, _, _ =>
          rw [List.length_cons, List.length_cons, List.length_cons, List.length_cons] at h4
          omega
      | cons _ _ => cases h
    | _ => cases h
  | _ => cases h
theorem enumD_get {xs : List D} {i : Nat} {d : D} (h : (enumD xs)[i]? = some d) : ∃ y, xs[i]? = some y ∧ d = .tup [.int (i : Nat), y] := by
  unfold enumD at h
  rw [List.getElem?_zipWith] at h
  by_cases hi : i < xs.length
  · rw [List.getElem?_range hi, List.getElem?_eq_getElem hi] at h
    exact ⟨xs[i], List.getElem?_eq_getElem hi, (Option.some.inj h).symm⟩
  · rw [List.getElem?_eq_none (by simpa using hi)] at h
    cases h
theorem enumD_len (xs : List D) : (enumD xs).length = xs.length := by simp [enumD]
theorem wk_enumT {K : PySem.W.Frag} {s : Sit} (ok : s.Ok K) {a : Addr} {vs : List V} {xs : List D} (h : SqT K s.H a vs) (r : RDs K s.H s.M xs vs) : WkOk K (Itet K a vs.length) s (.fix (enumD xs)) := by
  refine ⟨fun i s1 l1 o1 hi => ?_, fun i s1 l1 o1 hi => ?_, fun i s1 x H' d l1 o1 hd y => ?_⟩
  · rw [enumD_len] at hi
    obtain ⟨v, hv, _⟩ := r.get (List.getElem?_eq_getElem hi)
    exact ⟨vs, v, l1.sqT ok h, rfl, hv⟩
  · rw [enumD_len, r.length] at hi
    exact ⟨vs, l1.sqT ok h, rfl, hi⟩
  · obtain ⟨e, he, rfl⟩ := enumD_get hd
    obtain ⟨T, z, rfl, hT, rfl, hz⟩ := y
    obtain ⟨v, hv, rv⟩ := r.get he
    obtain rfl : z = v := Option.some.inj ((hz vs (l1.sqT ok h)).symm.trans hv)
    refine ⟨s1.put T (.tup [.int (i : Nat), z]), rfl, rfl, Sit.put_ok o1 hT, Sit.put_le hT, .dat (.tup (SqT.of upd_same) (.cons (.int _) (.cons ((rv.le ok l1).le o1 (Sit.put_le hT)) .nil)))⟩
theorem wk_enumL {K : PySem.W.Frag} {s : Sit} (ok : s.Ok K) {a : Addr} {vs : List V} {xs : List D} (h : ∀ s1, s.Le s1 → SqL K s1.H a vs) (r : RDs K s.H s.M xs vs) : WkOk K (Ite K a) s (.fix (enumD xs)) := by
  refine ⟨fun i s1 l1 o1 hi => ?_, fun i s1 l1 o1 hi => ?_, fun i s1 x H' d l1 o1 hd y => ?_⟩
  · rw [enumD_len] at hi
    obtain ⟨v, hv, _⟩ := r.get (List.getElem?_eq_getElem hi)
    exact ⟨vs, v, h s1 l1, hv⟩
  · rw [enumD_len, r.length] at hi
    exact ⟨vs, h s1 l1, hi⟩
  · obtain ⟨e, he, rfl⟩ := enumD_get hd
    obtain ⟨T, z, rfl, hT, rfl, hz⟩ := y
    obtain ⟨v, hv, rv⟩ := r.get he
    obtain rfl : z = v := Option.some.inj ((hz vs (h s1 l1)).symm.trans hv)
    refine ⟨s1.put T (.tup [.int (i : Nat), z]), rfl, rfl, Sit.put_ok o1 hT, Sit.put_le hT, .dat (.tup (SqT.of upd_same) (.cons (.int _) (.cons ((rv.le ok l1).le o1 (Sit.put_le hT)) .nil)))⟩
theorem p_senum (g : Cg Fs cA n X W) {t : T} (pe : Pe Fs cA t n X W) : Pe Fs cA (.senum t) n X W := by
  refine .ofI (fun ex h => by cases ex <;> cases h) (fun vs h => by cases vs <;> cases h) (fun v h => by cases v <;> cases h) (fun v h => by cases v <;> cases h) fun tg iter h ht => ?_
  cases tg with
  | Tuple elts kk tpos =>
    cases iter with
    | Call f vs ks p =>
      cases f with
      | Name x p2 =>
        match vs, ks, h with
        | [v], [], h =>
          have h : (decide (x = ("enumerate" : Str)) && glB X.env.scope x && chkE X.N Fs X.env.scope t v && pl v) = true := h
          rw [Bool.and_eq_true, Bool.and_eq_true, Bool.and_eq_true, decide_eq_true_eq] at h
          obtain ⟨⟨⟨h1, h2⟩, h3⟩, h4⟩ := h
          subst h1
          have gl : Gl X "enumerate" := glB_ok h2
          have mn : X.mg "enumerate" = none := bl_of g (by decide +kernel)
          refine ⟨PI.imp (pi_enumA gl mn (pa_cons (pe.e v h3) pa_nil (star_pl h4)) (star_pl h4)) fun σ H Q ⟨s, env, e, ok, re, q⟩ => ?_, rfl⟩
          subst e
          refine tE_then ok re q fun s1 d x o1 l1 re1 rx q1 => ?_
          cases d with
          | lst xs =>
            cases rx with
            | dat rx => cases rx with
              | lst ha nm ra => exact ⟨_, rfl, .inl ⟨_, SqL.of ha, post_ok o1 q1 _ (wk_enumL o1 (fun s2 l2 => SqL.of (l2.keep _ _ ha nm).1) ra)⟩⟩
          | tup xs =>
            obtain ⟨a, us, rfl, ha, ra⟩ := rep_tup rx
            exact ⟨_, rfl, .inr ⟨_, ha, post_ok o1 q1 _ (wk_enumT o1 ha ra)⟩⟩
          | _ => exact q1.elim
      | _ => cases h
    | _ => cases h
  | _ => cases ht
theorem p_srev (g : Cg Fs cA n X W) {t : T} (pe : Pe Fs cA t n X W) : Pe Fs cA (.srev t) n X W := by
  refine .ofI (fun ex h => by cases ex <;> cases h) (fun vs h => by cases vs <;> cases h) (fun v h => by cases v <;> cases h) (fun v h => by cases v <;> cases h) fun tg iter h ht => ?_
  cases iter with
  | Call f vs ks p =>
    cases f with
    | Name x p2 =>
      match vs, ks, h with
      | [v], [], h =>
        have h : (decide (x = ("reversed" : Str)) && glB X.env.scope x && chkE X.N Fs X.env.scope t v && pl v) = true := h
        rw [Bool.and_eq_true, Bool.and_eq_true, Bool.and_eq_true, decide_eq_true_eq] at h
        obtain ⟨⟨⟨h1, h2⟩, h3⟩, h4⟩ := h
        subst h1
        have gl : Gl X "reversed" := glB_ok h2
        have mn : X.mg "reversed" = none := bl_of g (by decide +kernel)
        refine ⟨PI.imp (pi_reversed gl mn (pa_cons (pe.e v h3) pa_nil (star_pl h4)) (star_pl h4)) fun σ H Q ⟨s, env, e, ok, re, q⟩ => ?_, rfl⟩
        subst e
        refine tE_then ok re q fun s1 d x o1 l1 re1 rx q1 => ?_
        cases d with
        | lst xs =>
          cases rx with
          | dat rx => cases rx with
            | lst ha nm ra => exact ⟨_, _, rfl, SqL.of ha, post_ok o1 q1 _ (wk_rev o1 (fun s2 l2 => SqL.of (l2.keep _ _ ha nm).1) ra)⟩
        | _ => exact q1.elim
    | _ => cases h
  | _ => cases h
theorem lst_len {K : PySem.W.Frag} {H : Hp} {M : Addr → Prop} {xs : List D} {vs : List V} (r : RDs K H M xs vs) {i : Nat} (h : i < xs.length) : ∃ v, vs[i]? = some v ∧ RD K H M xs[i] v := r.get (List.getElem?_eq_getElem h)
theorem wk_zip {K : PySem.W.Frag} {s : Sit} (ok : s.Ok K) {a b : Addr} {vs : List V} {xs : List D} {l : Nat} (h : ∀ s1, s.Le s1 → SqL K s1.H a vs) (r : RDs K s.H s.M xs vs) (hb : s.r[l]? = some b) : WkOk' K (Itz K a b) s xs l := by
  intro i s1 ys l1 o1 hy he
  obtain ⟨c, ws, ec, hc, rc⟩ := lstOf_ok o1 (.ref (l1.pre _ _ hb)) hy
  cases ec
  have r1 := r.le ok l1
  refine ⟨fun hi => ?_, fun hi => ?_, fun x H' d e hd hde y => ?_⟩
  · obtain ⟨v, hv, _⟩ := lst_len r1 hi
    obtain ⟨w, hw, _⟩ := lst_len rc (show i < ys.length by omega)
    exact ⟨vs, ws, v, w, h s1 l1, SqL.of hc, hv, hw⟩
  · exact ⟨vs, ws, h s1 l1, SqL.of hc, .inl (by rw [← r.length]; exact hi)⟩
  · obtain ⟨T, u, w, rfl, hT, rfl, hx, hw⟩ := y
    obtain ⟨v, hv, rv⟩ := r1.get hd
    obtain ⟨w', hw', rw'⟩ := rc.get hde
    obtain rfl : u = v := Option.some.inj ((hx vs (h s1 l1)).symm.trans hv)
    obtain rfl : w = w' := Option.some.inj ((hw ws (SqL.of hc)).symm.trans hw')
    have lt := Sit.put_le (s := s1) (p := T) (o := .tup [u, w]) hT
    exact ⟨s1.put T (.tup [u, w]), rfl, rfl, Sit.put_ok o1 hT, lt, .dat (.tup (SqT.of upd_same) (.cons (rv.le o1 lt) (.cons (rw'.le o1 lt) .nil)))⟩
theorem p_szip (g : Cg Fs cA n X W) {a b : T} (pa : Pe Fs cA a n X W) (pb : Pe Fs cA b n X W) : Pe Fs cA (.szip a b) n X W := by
  refine .ofI (fun ex h => by cases ex <;> cases h) (fun vs h => by cases vs <;> cases h) (fun v h => by cases v <;> cases h) (fun v h => by cases v <;> cases h) fun tg iter h ht => ?_
  cases tg with
  | Tuple elts kk tpos =>
    cases iter with
    | Call f vs ks p =>
      cases f with
      | Name x p2 =>
        match vs, ks, h with
        | [v, w], [], h =>
          have h : (decide (x = ("zip" : Str)) && glB X.env.scope x && chkE X.N Fs X.env.scope a v && pl v && chkE X.N Fs X.env.scope b w && pl w) = true := h
          rw [Bool.and_eq_true, Bool.and_eq_true, Bool.and_eq_true, Bool.and_eq_true, Bool.and_eq_true, decide_eq_true_eq] at h
          obtain ⟨⟨⟨⟨⟨h1, h2⟩, h3⟩, h4⟩, h5⟩, h6⟩ := h
          subst h1
          have gl : Gl X "zip" := glB_ok h2
          have mn : X.mg "zip" = none := bl_of g (by decide +kernel)
          refine ⟨PI.imp (pi_zip gl mn (pa_cons (pa.e v h3) (pa_cons (pb.e w h5) pa_nil (star_pl h6)) (star_pl h4)) (star_pl h4) (backTo_any fun e he => by
            have : e = w := by simpa using he
            rw [this]; exact h6)) fun σ H Q ⟨s, env, e, ok, re, q⟩ => ?_, rfl⟩
          subst e
          refine tE_then ok re q fun s1 d x o1 l1 re1 rx q1 => tE_then o1 re1 q1 fun s2 e y o2 l2 re2 ry q2 => ?_
          unfold zipF at q2
          split at q2
          · rename_i xs l
            split at q2
            · rename_i ys hy
              split at q2
              · cases rx with
                | dat rx => cases rx with
                  | lst ha nm ra => cases ry with
                    | ref hb =>
                      obtain ⟨b', ws, eb, hb', rb⟩ := lstOf_ok o2 (.ref hb) hy
                      cases eb
                      have k := l2.keep _ _ ha nm
                      exact ⟨_, _, _, _, rfl, SqL.of k.1, SqL.of hb', post_ok o2 q2 _ (wk_zip o2 (fun s3 l3 => SqL.of (l3.keep _ _ k.1 k.2).1) (ra.le o1 l2) hb)⟩
                    | dat ry => cases ry
              · exact q2.elim
            · exact q2.elim
          · exact q2.elim
      | _ => cases h
    | _ => cases h
  | _ => cases ht
end
end Zn

/-! Zn, part 8: displays, calls, comprehensions; every expression. -/
namespace Zn
open PySem PySem.Spec PyProof.Rows L2
section
variable {Fs : List Fn} {cA : Nat → Option Addr} {n : Nat} {X : Cx} {W : WX}

theorem p_tup {t : T} (pe : Pe Fs cA t n X W) : Pe Fs cA (.tup t) n X W := .ofV rfl fun ex h => by
  cases ex with
  | Tuple vs k p =>
    have h : chkEs X.N Fs X.env.scope t vs = true := h
    refine ⟨PE.imp (pe_tup (pe.a vs h).1) fun σ H Q ⟨s, env, e, ok, re, q⟩ => ?_, rfl⟩
    subst e
    refine tA_then ok re q fun s1 ds xs o1 l1 re1 rxs q1 => ?_
    unfold tupF at q1
    split at q1
    · rename_i hz
      have rd := rxs.rds hz.1
      exact ⟨by rw [← rd.length]; exact hz.2, post_tup o1 rd q1⟩
    · exact q1.elim
  | _ => cases h
theorem p_lst (m : Bool) {t : T} (pe : Pe Fs cA t n X W) : Pe Fs cA (.lst m t) n X W := .ofV rfl fun ex h => by
  cases ex with
  | List vs p =>
    have h : chkEs X.N Fs X.env.scope t vs = true := h
    refine ⟨PE.imp (pe_lst (pe.a vs h).1) fun σ H Q ⟨s, env, e, ok, re, q⟩ => ?_, rfl⟩
    subst e
    refine tA_then ok re q fun s1 ds xs o1 l1 re1 rxs q1 => ?_
    unfold lstF at q1
    split at q1
    · rename_i hz
      have rd := rxs.rds hz.1
      exact ⟨by rw [← rd.length]; exact hz.2, post_mk o1 rd q1⟩
    · exact q1.elim
  | _ => cases h
/-- a dict of ours written over -/
theorem dct_le {K : PySem.W.Frag} {s : Sit} (ok : s.Ok K) {p : Addr} {k1 k2 : List (Key × V)} (h : s.H p = some (.dK k1)) :
    (∀ {d : D} {v : V}, RD K s.H s.M d v → RD K (upd s.H p (.dK k2)) s.M d v) ∧ (∀ {d : List D} {v : List V}, RDs K s.H s.M d v → RDs K (upd s.H p (.dK k2)) s.M d v) := by
  have hT : ∀ {a : Addr} {vs : List V}, SqT K s.H a vs → SqT K (upd s.H p (.dK k2)) a vs := by
    rintro a vs ((q | ⟨o, q⟩) | q)
    · exact .inl (.inl (by rw [upd_ne (fun z => by rw [z, h] at q; cases q)]; exact q))
    · exact .inl (.inr ⟨o, by rw [upd_ne (fun z => by rw [z, h] at q; cases q)]; exact q⟩)
    · exact .inr q
  constructor
  · intro d v r
    induction r using RD.rec (motive_2 := fun ds vs _ => RDs K (upd s.H p (.dK k2)) s.M ds vs) with
    | non => exact .non
    | bl b => exact .bl b
    | int i => exact .int i
    | str x => exact .str x
    | tup q _ ih => exact .tup (hT q) ih
    | lst q n _ ih => exact .lst (by rw [upd_ne (fun z => by rw [z, h] at q; cases q)]; exact q) n ih
    | scr q =>
      rcases q with ⟨o, q⟩ | q
      · exact .scr (.inl ⟨o, by rw [upd_ne (fun z => by rw [z, h] at q; cases q)]; exact q⟩)
      · exact .scr (.inr q)
    | @dct a kvs q n =>
      by_cases e : a = p
      · subst e
        exact .dct upd_same n
      · exact .dct (kvs := kvs) (by rw [upd_ne e]; exact q) n
    | nil => exact .nil
    | cons _ _ a b => exact .cons a b
  · intro d v r
    induction r using RDs.rec (motive_1 := fun ds vs _ => RD K (upd s.H p (.dK k2)) s.M ds vs) with
    | non => exact .non
    | bl b => exact .bl b
    | int i => exact .int i
    | str x => exact .str x
    | tup q _ ih => exact .tup (hT q) ih
    | lst q n _ ih => exact .lst (by rw [upd_ne (fun z => by rw [z, h] at q; cases q)]; exact q) n ih
    | scr q =>
      rcases q with ⟨o, q⟩ | q
      · exact .scr (.inl ⟨o, by rw [upd_ne (fun z => by rw [z, h] at q; cases q)]; exact q⟩)
      · exact .scr (.inr q)
    | @dct a kvs q n =>
      by_cases e : a = p
      · subst e
        exact .dct upd_same n
      · exact .dct (kvs := kvs) (by rw [upd_ne e]; exact q) n
    | nil => exact .nil
    | cons _ _ a b => exact .cons a b
theorem tE_thenB {K : PySem.W.Frag} {b s : Sit} {σ : L2.St} {env : Env} {F : CallF} {e : T} {β : Type} {k : D → Store → Res β} {Q' : β → Sit → Prop} {Q : VK} (lb : b.Le s) (ok : s.Ok K) (re : RE K s env σ) (h : Post K cA b σ W ((ev F e env s.st).bind k) Q')
    (n : ∀ s1 d x, s1.Ok K → s.Le s1 → RE K s1 env σ → Rep K s1 d x → Post K cA b σ W (k d s1.st) Q' → Q x s1.H) : tE K cA F W e σ s.H Q := by
  refine ⟨s, env, rfl, ok, re, ?_⟩
  cases r : ev F e env s.st with
  | ok a st =>
    rw [r] at h
    intro t h1 h2 h3 v hv
    refine n t a v h2 h3 (re.le ok h3) hv ?_
    rw [h1]
    exact h
  | exc x st =>
    rw [r] at h
    exact fun t c d h1 h2 h3 h4 => h t c d h1 h2 (lb.trans h3) h4
  | err =>
    rw [r] at h
    exact h
theorem p_dct1 {a b : T} (pa : Pe Fs cA a n X W) (pb : Pe Fs cA b n X W) : Pe Fs cA (.dct1 a b) n X W := .ofV rfl fun ex h => by
  cases ex with
  | Dict ks vs p =>
    match ks, vs, h with
    | [some k'], [v'], h =>
      have h : (chkE X.N Fs X.env.scope a k' && chkE X.N Fs X.env.scope b v') = true := h
      rw [Bool.and_eq_true] at h
      refine ⟨PE.imp (pe_disp (pps_cons (pa.e k' h.1) (pb.e v' h.2) pps_nil) rfl rfl (fun z => by cases z) (by show 1 ≤ 15; decide)) fun σ H Q ⟨s, env, e, ok, re, q⟩ => ?_, rfl⟩
      subst e
      intro p hp
      have o0 := Sit.put_ok (o := .dK []) ok hp
      have l0 := Sit.put_le (o := HO.dK []) hp
      have q0 : Post X.K cA s σ W ((ev (cf Fs n) a env (s.put p (.dK [])).st).bind fun x st1 => (ev (cf Fs n) b env st1).bind fun y st2 => dctF x y st2) (PQ X.K Q) := q
      refine tE_thenB l0 o0 (re.le ok l0) q0 fun s1 d x o1 l1 re1 rx q1 => tE_thenB (l0.trans l1) o1 re1 q1 fun s2 e y o2 l2 re2 ry q2 => ?_
      have hp2 : s2.H p = some (.dK []) ∧ ¬ s2.M p := by
        obtain ⟨h1, n1⟩ := l1.keep p (.dK []) upd_same (fun m => Sit.notM ok hp m)
        exact l2.keep p _ h1 n1
      refine ⟨hp2.1, ?_⟩
      unfold dctF at q2
      split at q2
      · cases rep_int rx
        split at q2
        · rename_i i hr
          refine ⟨[(.inl i, y)], rfl, by show 1 ≤ 15; decide, ?_⟩
          have k2 : mergeK [] [((.inl i : Key), y)] = [(.inl i, y)] := rfl
          rw [k2]
          have st := dct_le o2 (k2 := [(.inl i, y)]) hp2.1
          have l02 := (l0.trans l1).trans l2
          refine q2 (s2.put p (.dK [(.inl i, y)])) rfl ⟨o2.len, o2.nd, fun b hb => ?_, fun l c b h1 h2 => ?_⟩ ⟨l02.pre, fun b o hb nb => ?_, fun b hb => ?_⟩ _ (.dat (.dct upd_same hp2.2))
          · show upd s2.H p _ b ≠ none
            by_cases e : b = p
            · subst e; rw [upd_same]; exact fun z => by cases z
            · rw [upd_ne e]; exact o2.there b hb
          · obtain ⟨us, h, r'⟩ := cellOk_iff.mp (o2.cell l c b h1 h2)
            refine cellOk_iff.mpr ⟨us, ?_, st.2 r'⟩
            show upd s2.H p _ b = _
            rw [upd_ne (fun z => by rw [z, hp2.1] at h; cases h)]
            exact h
          · refine ⟨?_, (l02.keep b o hb nb).2⟩
            show upd s2.H p _ b = _
            rw [upd_ne (ne_of_none hb hp)]
            exact (l02.keep b o hb nb).1
          · show upd s2.H p _ b ≠ none
            by_cases e : b = p
            · subst e; rw [upd_same]; exact fun z => by cases z
            · rw [upd_ne e]; exact l02.stay b hb
        · exact q2.elim
      · exact q2.elim
  | _ => cases h
theorem p_sub {a b : T} (pa : Pe Fs cA a n X W) (pb : Pe Fs cA b n X W) : Pe Fs cA (.sub a b) n X W := .ofV rfl fun ex h => by
  cases ex with
  | Subscript l r p =>
    have h : (chkE X.N Fs X.env.scope a l && chkE X.N Fs X.env.scope b r && pl r) = true := h
    rw [Bool.and_eq_true, Bool.and_eq_true] at h
    obtain ⟨⟨h1, h2⟩, h3⟩ := h
    refine ⟨PE.imp (pe_ix ix_seq (pa.e l h1) (pb.e r h2) (ix_pl h3)) fun σ H Q ⟨s, env, e, ok, re, q⟩ => ?_, rfl⟩
    subst e
    exact tE_then ok re q fun s1 d x o1 l1 re1 rx q1 => tE_then o1 re1 q1 fun s2 e y o2 l2 re2 ry q2 => ops_ix s2 σ W d e x y Q o2 (rx.le o1 l2) ry q2
  | _ => cases h
theorem p_slc (m : Bool) {a lo hi : T} (pa : Pe Fs cA a n X W) (pl : Pe Fs cA lo n X W) (ph : Pe Fs cA hi n X W) : Pe Fs cA (.slc m a lo hi) n X W := .ofV rfl fun ex h => by
  cases ex with
  | Subscript l r p =>
    cases r with
    | Slice u w st p2 =>
      cases st with
      | none =>
        have h : (chkE X.N Fs X.env.scope a l && chkO X.N Fs X.env.scope lo u && chkO X.N Fs X.env.scope hi w) = true := h
        rw [Bool.and_eq_true, Bool.and_eq_true] at h
        obtain ⟨⟨h1, h2⟩, h3⟩ := h
        refine ⟨PE.imp (pe_slice (sl_list.or (sl_tupA.or sl_str)) (pa.e l h1) (pl.o u h2) (ph.o w h3)) fun σ H Q ⟨s, env, e, ok, re, q⟩ => ?_, rfl⟩
        subst e
        exact tE_then ok re q fun s1 d x o1 l1 re1 rx q1 => tO_then o1 re1 q1 fun s2 lo o2 l2 re2 q2 => tO_then o2 re2 q2 fun s3 hi o3 l3 re3 q3 => slc_ok o3 ((rx.le o1 l2).le o2 l3) q3
      | some _ => cases h
    | _ => cases h
  | _ => cases h
theorem RDs.reverse {K : PySem.W.Frag} {H : Hp} {M : Addr → Prop} : ∀ {xs : List D} {vs : List V}, RDs K H M xs vs → RDs K H M xs.reverse vs.reverse
  | _, _, .nil => .nil
  | _, _, .cons h r => by
    rw [List.reverse_cons, List.reverse_cons]
    exact (RDs.reverse r).append (.cons h .nil)
/-- l[::-1] -/
def rRev (K : PySem.W.Frag) : V → Hp → VK → Prop := fun x H Q => ∃ a vs, x = .ref a ∧ ((SqL K H a vs ∧ ∀ p, H p = none → Q (.ref p) (upd H p (.lst vs.reverse))) ∨ (SqT K H a vs ∧ ∀ p, H p = none → Q (.ref p) (upd H p (.tup vs.reverse))))
theorem vals_rev : ∀ {vs : List V} {us : List Value}, Vals vs us → Vals vs.reverse us.reverse
  | _, _, .nil => .nil
  | _, _, .cons h r => by
    rw [List.reverse_cons, List.reverse_cons]
    exact (vals_rev r).append (.cons h .nil)
theorem pe_rev {te : TE} {e : Expr} {pos p1 p2 p3 : Pos} {k : Nat} (he : PE X e te) : PE X (.Subscript e (.Slice none none (some (.UnaryOp .USub (.Constant (.int 1) k p1) p2)) p3) pos) (fun σ H Q => te σ H fun x H1 => rRev X.K x H1 Q) := by
  refine ⟨fun pins s σ H Q I h => ?_⟩
  refine Subscript_ (thn (he.run pins s σ H _ I h) fun v s1 ⟨x, H1, I1, r1, q1⟩ => ?_)
  obtain ⟨a, xs, rfl, hq⟩ := q1
  cases r1
  refine wpAny_Slice ?_
  rw [evalPart_none]
  refine wpAny_pure (wpAny_pure ?_)
  have hst : PO X (some (.UnaryOp .USub (.Constant (.int 1) k p1) p2)) (tPart (tC (.int (-1)))) := po_some (PE.imp (pe_un un_neg pe_int) fun σ H Q q => ⟨1, rfl, q⟩)
  refine thn (hst.run pins s1 σ H1 (fun o H2 => o = some (-1) ∧ H2 = H1) I1 ⟨_, rfl, rfl, rfl⟩) fun vk s2 ⟨o, H2, I2, pk, eo, eH⟩ => ?_
  subst eo eH
  have I4 : Inv X pins σ H2 { s2 with heap := s2.heap.push { cls := .type "slice", data := .fields #[.none, .none, vk] } } := I2.kept (t' := s2.toks) fun b ob q => Heap.get?_push_of_some _ q
  show wpAny (model X.prog X.w) X.A (subscriptTail e (.Slice none none (some (.UnaryOp .USub (.Constant (.int 1) k p1) p2)) p3) (.ref a) (.ref s2.heap.objs.size)) (EP X pins σ Q) X.xe { s2 with heap := s2.heap.push { cls := .type "slice", data := .fields #[.none, .none, vk] } }
  rcases hq with ⟨hx, q⟩ | ⟨hx, q⟩
  · obtain ⟨its, r, ht, hz⟩ := I2.list hx
    have ht4 : ({ s2 with heap := s2.heap.push { cls := .type "slice", data := .fields #[.none, .none, vk] } } : Shared).TypeIs (.ref a) "list" := by
      obtain ⟨its4, r4, ht4, hz4⟩ := I4.list hx
      exact ht4.isList.typeIs
    have hg : wpAny (model X.prog X.w) X.A (getItem (.ref a) (.ref s2.heap.objs.size)) (EP X pins σ Q) X.xe { s2 with heap := s2.heap.push { cls := .type "slice", data := .fields #[.none, .none, vk] } } := by
      obtain ⟨its4, r4, ht4, hz4⟩ := I4.list hx
      refine wpAny_getItem_list_slice ht4.isList (Heap.IsSliceOf.new ..) .none .none pk (by decide) ?_ (by rw [List.size_toArray, ← r4.length]; exact hz4)
      rw [PySem.W.krv_pick]
      refine ⟨.ref (s2.heap.push { cls := .type "slice", data := .fields #[.none, .none, vk] }).objs.size, _, I4.laid (t' := s2.toks) (o := .lst xs.reverse) (fun b ob q => Heap.get?_push_of_some _ q) (Nat.le_refl _) ?_, rfl, q _ (I4.hok.fresh (Nat.le_refl _))⟩
      refine ⟨by rw [List.length_reverse]; exact hz4, _, 0, vals_rev r4, Heap.get?_push_size _ rfl⟩
    exact tail_any (ops := [.ref a, .ref s2.heap.objs.size]) ht4 slot_list_getitem.lookup hg (by with_unfolding_all rfl)
  · obtain ⟨its4, r4, ht4, hz4⟩ := I4.tuple hx
    have hg : wpAny (model X.prog X.w) X.A (getItem (.ref a) (.ref s2.heap.objs.size)) (EP X pins σ Q) X.xe { s2 with heap := s2.heap.push { cls := .type "slice", data := .fields #[.none, .none, vk] } } := by
      refine getItem_tuple_rev ht4 (Heap.IsSliceOf.new ..) pk ?_ (by rw [List.size_toArray, ← r4.length]; exact hz4)
      refine ⟨.ref (s2.heap.push { cls := .type "slice", data := .fields #[.none, .none, vk] }).objs.size, _, I4.laid (t' := s2.toks) (o := .tup xs.reverse) (fun b ob q => Heap.get?_push_of_some _ q) (Nat.le_refl _) ?_, rfl, q _ (I4.hok.fresh (Nat.le_refl _))⟩
      exact ⟨by rw [List.length_reverse]; exact hz4, _, vals_rev r4, IsTup.new _ _⟩
    exact tail_any (ops := [.ref a, .ref s2.heap.objs.size]) ht4.typeIs PyProof.Rows.slot_tuple_getitem.lookup hg (by with_unfolding_all rfl)
theorem p_rev (m : Bool) {a : T} (pa : Pe Fs cA a n X W) : Pe Fs cA (.rev m a) n X W := .ofV rfl fun ex h => by
  cases ex with
  | Subscript l r p =>
    match r, h with
    | .Slice none none (some (.UnaryOp .USub (.Constant (.int 1) k p1) p2)) p3, h =>
      have h : chkE X.N Fs X.env.scope a l = true := h
      refine ⟨PE.imp (pe_rev (pa.e l h)) fun σ H Q ⟨s, env, e, ok, re, q⟩ => ?_, rfl⟩
      subst e
      refine tE_then ok re q fun s1 d x o1 l1 re1 rx q1 => ?_
      unfold revF at q1
      split at q1
      · obtain ⟨a, us, rfl, ha, ra⟩ := rep_tup rx
        exact ⟨a, us, rfl, .inr ⟨ha, post_tup o1 ra.reverse q1⟩⟩
      · split at q1
        · rename_i xs hx
          obtain ⟨a, us, rfl, ha, ra⟩ := lstOf_ok o1 rx hx
          exact ⟨a, us, rfl, .inl ⟨SqL.of ha, post_mk o1 ra.reverse q1⟩⟩
        · exact q1.elim
  | _ => cases h
theorem p_suq (g : Cg Fs cA n X W) (m : Bool) {a : T} (pa : Pe Fs cA a n X W) : Pe Fs cA (.suq m a) n X W := .ofV rfl fun ex h => by
  cases ex with
  | Call fe vs ks p =>
    match fe, vs, ks, h with
    | .Name x p2, [.Call (.Name y p3) [v] [] p4], [], h =>
      have h : (decide (x = ("sorted" : Str)) && decide (y = ("set" : Str)) && glB X.env.scope x && glB X.env.scope y && chkE X.N Fs X.env.scope a v && pl v) = true := h
      rw [Bool.and_eq_true, Bool.and_eq_true, Bool.and_eq_true, Bool.and_eq_true, Bool.and_eq_true, decide_eq_true_eq, decide_eq_true_eq] at h
      obtain ⟨⟨⟨⟨⟨h1, h2⟩, h3⟩, h4⟩, h5⟩, h6⟩ := h
      subst h1 h2
      have pin := pe_callTy (p := p3) (pos := p4) (cr_setL g.calm) (glB_ok h4) (bl_of g (by decide +kernel)) (by decide +kernel) (pa_cons (pa.e v h5) pa_nil (star_pl h6)) (by decide +kernel) (by decide +kernel) (star_pl h6) (by rfl)
      refine ⟨PE.imp (pe_callB (cr_sortedSI g.calm) (glB_ok h3) (bl_of g (by decide +kernel)) (by decide +kernel) (pa_cons pin pa_nil (by rfl)) (by decide +kernel) (by decide +kernel) (by rfl) (by rfl)) fun σ H Q ⟨s, env, e, ok, re, q⟩ => ?_, rfl⟩
      subst e
      refine tE_then ok re q fun s1 d x o1 l1 re1 rx q1 => ?_
      obtain ⟨l, ns, e1, h7, h8, h9⟩ := suq_ok m o1 rx q1
      refine ⟨l, ns, e1, h7, h8, fun p c hp => ?_⟩
      refine ⟨p, _, c, rfl, upd_same, fun ns' q hlt hmem hq => ?_⟩
      have en : ns' = uqI ns := lt_same hlt (unq_lt _ (srtI_le ns)) fun z => by
        rw [hmem z, decide_eq_true_eq, uqI, unq_mem]
        exact (srtI_perm ns).mem_iff.symm
      rw [en]
      exact h9 p q _ hp hq
  | _ => cases h
theorem p_mmd (g : Cg Fs cA n X W) (b : Bool) {a : T} (pa : Pe Fs cA a n X W) : Pe Fs cA (.mmd b a) n X W := .ofV rfl fun ex h => by
  cases ex with
  | Call fe vs ks p =>
    match fe, vs, ks, h with
    | .Name x p2, [v], [⟨some y, .Constant .none k p3, p4⟩], h =>
      have h : (decide (x = (if b = true then ("max" : Str) else ("min" : Str))) && decide (y = ("default" : Str)) && glB X.env.scope x && chkE X.N Fs X.env.scope a v && pl v) = true := h
      rw [Bool.and_eq_true, Bool.and_eq_true, Bool.and_eq_true, Bool.and_eq_true, decide_eq_true_eq, decide_eq_true_eq] at h
      obtain ⟨⟨⟨⟨h1, h2⟩, h3⟩, h5⟩, h6⟩ := h
      have hp : backTo p (starEach [v] X.env) = (false, eval v X.env) :: backTo p (starEach [] X.env) := by rw [star_pl h6]; rfl
      have hq : (backTo p (starEach [v] X.env)).any (·.1) = false := by rw [star_pl h6]; rfl
      have go : ∀ {σ : L2.St} {H : Hp} {Q : VK}, tE X.K cA (cf Fs n) W (.mmd b a) σ H Q → tE X.K cA (cf Fs n) W a σ H fun x1 H1 => ∃ (l : Addr) (ns : List Int), x1 = V.ref l ∧ SqL X.K H1 l (ns.map V.int) ∧ (ns = [] → Q .non H1) ∧
          ∀ m, (b = false → m ∈ ns → (∀ y, y ∈ ns → m ≤ y) → Q (.int m) H1) ∧ (b = true → m ∈ ns → (∀ y, y ∈ ns → y ≤ m) → Q (.int m) H1) := by
        intro σ H Q ⟨s, env, e, ok, re, q⟩
        subst e
        refine tE_then ok re q fun s1 d x o1 l1 re1 rx q1 => ?_
        unfold mmdF at q1
        split at q1
        · rename_i xs hx
          obtain ⟨l, us, rfl, ha, ra⟩ := lstOf_ok o1 rx hx
          split at q1
          · rename_i ns hi
            rw [intsOf_ok hi] at ra
            rw [ra.ints] at ha
            refine ⟨l, ns, rfl, SqL.of ha, fun e => ?_, fun m => ⟨fun e h1 h2 => ?_, fun e h1 h2 => ?_⟩⟩
            · subst e
              exact post_val o1 q1 .non
            · subst e
              cases ns with
              | nil => cases h1
              | cons z r =>
                obtain ⟨⟨k1, k2⟩, _⟩ := mm_fold r z
                have em : m = r.foldl min z := by have := k2 m h1; have := h2 _ k1; omega
                rw [em]
                exact post_val o1 q1 (.int _)
            · subst e
              cases ns with
              | nil => cases h1
              | cons z r =>
                obtain ⟨_, k1, k2⟩ := mm_fold r z
                have em : m = r.foldl max z := by have := k2 m h1; have := h2 _ k1; omega
                rw [em]
                exact post_val o1 q1 (.int _)
          · exact q1.elim
        · exact q1.elim
      subst h2
      cases b with
      | false =>
        have h1 : x = ("min" : Str) := h1
        subst h1
        refine ⟨PE.imp (pe_callBK (cr_minDf g.calm) (glB_ok h3) (bl_of g (by decide +kernel)) (by decide +kernel) (pa_cons (pa.e v h5) pa_nil (star_pl h6)) (pk_cons pe_non pk_nil) (by decide +kernel) (by decide +kernel) hp hq) fun σ H Q hh => ?_, rfl⟩
        obtain ⟨s, env, e, ok, re, q⟩ := go hh
        refine ⟨s, env, e, ok, re, q.mono fun d s3 o3 l3 hx x1 hv => ?_⟩
        obtain ⟨l, ns, e1, e2, e3, e4⟩ := hx x1 hv
        exact ⟨l, ns, by rw [e1], rfl, e2, e3, fun m h1 h2 => (e4 m).1 rfl h1 h2⟩
      | true =>
        have h1 : x = ("max" : Str) := h1
        subst h1
        refine ⟨PE.imp (pe_callBK (cr_maxDf g.calm) (glB_ok h3) (bl_of g (by decide +kernel)) (by decide +kernel) (pa_cons (pa.e v h5) pa_nil (star_pl h6)) (pk_cons pe_non pk_nil) (by decide +kernel) (by decide +kernel) hp hq) fun σ H Q hh => ?_, rfl⟩
        obtain ⟨s, env, e, ok, re, q⟩ := go hh
        refine ⟨s, env, e, ok, re, q.mono fun d s3 o3 l3 hx x1 hv => ?_⟩
        obtain ⟨l, ns, e1, e2, e3, e4⟩ := hx x1 hv
        exact ⟨l, ns, by rw [e1], rfl, e2, e3, fun m h1 h2 => (e4 m).2 rfl h1 h2⟩
  | _ => cases h
theorem p_lrng (g : Cg Fs cA n X W) (m : Bool) {a : T} (pa : Pe Fs cA a n X W) : Pe Fs cA (.lrng m a) n X W := .ofV rfl fun ex h => by
  cases ex with
  | Call fe vs ks p =>
    match fe, vs, ks, h with
    | .Name x p2, [.Call (.Name y p3) [v] [] p4], [], h =>
      have h : (decide (x = ("list" : Str)) && decide (y = ("range" : Str)) && glB X.env.scope x && glB X.env.scope y && chkE X.N Fs X.env.scope a v && pl v) = true := h
      rw [Bool.and_eq_true, Bool.and_eq_true, Bool.and_eq_true, Bool.and_eq_true, Bool.and_eq_true, decide_eq_true_eq, decide_eq_true_eq] at h
      obtain ⟨⟨⟨⟨⟨h1, h2⟩, h3⟩, h4⟩, h5⟩, h6⟩ := h
      subst h1 h2
      refine ⟨PE.imp (pe_listRg g.calm (glB_ok h3) (bl_of g (by decide +kernel)) (prg_1 (glB_ok h4) (bl_of g (by decide +kernel)) (pa.e v h5) (star_pl h6))) fun σ H Q ⟨s, env, e, ok, re, q⟩ => ?_, rfl⟩
      subst e
      refine tE_then ok re q fun s1 d x o1 l1 re1 rx q1 => ?_
      unfold lrngF at q1
      split at q1
      · rename_i j
        split at q1
        · rename_i hj
          cases rx.rd rfl
          rw [Bool.and_eq_true, decide_eq_true_eq] at hj
          have hr := hj.1
          simp only [rngOk, Bool.and_eq_true, decide_eq_true_eq] at hr
          refine ⟨j, rfl, ⟨by omega, by omega, by omega, by omega, by omega⟩, fun q hq => ?_⟩
          have er : rgV 0 j = (List.range j.toNat).map fun (k : Nat) => V.int (0 + k) := by rw [rgV, Int.sub_zero]
          have ed : RDs X.K s1.H s1.M (rngD 0 j.toNat) (rgV 0 j) := by
            rw [er, rngD]
            have : ∀ l : List Nat, RDs X.K s1.H s1.M (l.map fun (k : Nat) => D.int (0 + k)) (l.map fun (k : Nat) => V.int (0 + k)) := by
              intro l
              induction l with
              | nil => exact .nil
              | cons k l ih => exact .cons (.int _) ih
            exact this _
          exact post_mk o1 ed q1 q hq
        · exact q1.elim
      · exact q1.elim
  | _ => cases h
theorem p_call (g : Cg Fs cA n X W) (f : Nat) (m : Bool) {t : T} (pe : Pe Fs cA t n X W) : Pe Fs cA (.call f m t) n X W := .ofV rfl fun ex h => by
  cases ex with
  | Call fe vs ks p =>
    cases fe with
    | Name x p2 =>
      match vs, ks, h with
      | v :: vs, [], h =>
        have h : ((match Fs[f]? with
          | some fn => decide (fn.name = x) && !fn.isC
          | none => false) && glB X.env.scope x && nmOk x && chkEs X.N Fs X.env.scope t (v :: vs)) = true := h
        rw [Bool.and_eq_true, Bool.and_eq_true, Bool.and_eq_true] at h
        obtain ⟨⟨⟨h1, h2⟩, h3⟩, h4⟩ := h
        split at h1
        · rename_i fn hf
          rw [Bool.and_eq_true, decide_eq_true_eq, Bool.not_eq_true'] at h1
          obtain ⟨h1, hC⟩ := h1
          subst h1
          obtain ⟨fa, fd, hm, hk, hb, F⟩ := g.fn f fn hf hC
          obtain ⟨pa, hp⟩ := pe.a _ h4
          refine ⟨PE.imp (pe_callS (E := WE W) F g.room (glB_ok h2) hm hk hb (fun σ => passAt g.takes σ) pa (nmOk_ok h3).1 (star_pl (hp v (by simp))) (backTo_any fun e he => hp e (List.mem_cons_of_mem _ he))) fun σ H Q ⟨s, env, e, ok, re, q⟩ => ?_, rfl⟩
          subst e
          refine tA_then ok re q fun s1 ds xs o1 l1 re1 rxs q1 => ⟨s1, ds, rfl, o1, rxs, ?_⟩
          cases r : cf Fs n f ds s1.st with
          | ok a st =>
            rw [r] at q1
            intro t h1 h2 h3 v hv
            have q2 : Post X.K cA s1 σ W (callEnd m s1.st.length a st) (PQ X.K Q) := q1
            rw [← h1] at q2
            exact cut_post o1 h2 h3 hv q2
          | exc x st =>
            rw [r] at q1
            exact q1
          | err =>
            rw [r] at q1
            exact q1
        · cases h1
    | _ => cases h
  | _ => cases h
theorem p_blt (g : Cg Fs cA n X W) (b : Blt) (m : Bool) {t : T} (pe : Pe Fs cA t n X W) : Pe Fs cA (.blt b m t) n X W := .ofV rfl fun ex h => by
  cases ex with
  | Call fe vs ks p =>
    cases fe with
    | Name x p2 =>
      match vs, ks, h with
      | v :: vs, [], h =>
        have h : (decide (bName b = x) && glB X.env.scope x && chkEs X.N Fs X.env.scope t (v :: vs)) = true := h
        rw [Bool.and_eq_true, Bool.and_eq_true, decide_eq_true_eq] at h
        obtain ⟨⟨h1, h2⟩, h4⟩ := h
        subst h1
        obtain ⟨pa, hp⟩ := pe.a _ h4
        refine ⟨?_, rfl⟩
        have hs : starEach (v :: vs) X.env = (false, eval v X.env) :: starEach vs X.env := star_pl (hp v (by simp))
        have hpl : (backTo p (starEach vs X.env)).any (·.1) = false := backTo_any fun e he => hp e (List.mem_cons_of_mem _ he)
        have fin : ∀ {r : List V → Hp → VK → Prop}, CallS X.K cA (bltF b m) r → ∀ σ H Q, tE X.K cA (cf Fs n) W (.blt b m t) σ H Q → tCB r (tA X.K cA (cf Fs n) W t) σ H Q := fun hr σ H Q ⟨s, env, e, ok, re, q⟩ => by
          subst e
          exact tA_then ok re q fun s1 ds xs o1 l1 re1 rxs q1 => hr s1 σ W ds xs Q o1 rxs q1
        cases b with
        | len => exact PE.imp (pe_callB (call_len_seq.or call_len_str) (glB_ok h2) (bl_of g (by decide +kernel)) (by decide +kernel) pa (by decide +kernel) (by decide +kernel) hs hpl) (fin calls_len)
        | sum => exact PE.imp (pe_callB ((cr_sum g.calm).or (cr_sumT g.calm)) (glB_ok h2) (bl_of g (by decide +kernel)) (by decide +kernel) pa (by decide +kernel) (by decide +kernel) hs hpl) (fin calls_sum)
        | min => exact PE.imp (pe_callB ((call_min2 g.calm).or (cr_min g.calm)) (glB_ok h2) (bl_of g (by decide +kernel)) (by decide +kernel) pa (by decide +kernel) (by decide +kernel) hs hpl) (fin calls_min)
        | max => exact PE.imp (pe_callB ((call_max2 g.calm).or (cr_max g.calm)) (glB_ok h2) (bl_of g (by decide +kernel)) (by decide +kernel) pa (by decide +kernel) (by decide +kernel) hs hpl) (fin calls_max)
        | sorted => exact PE.imp (pe_callB (cr_sortedI.or cr_sortedX) (glB_ok h2) (bl_of g (by decide +kernel)) (by decide +kernel) pa (by decide +kernel) (by decide +kernel) hs hpl) (fin (calls_sorted m))
        | all => exact PE.imp (pe_callB (cr_all g.calm) (glB_ok h2) (bl_of g (by decide +kernel)) (by decide +kernel) pa (by decide +kernel) (by decide +kernel) hs hpl) (fin calls_all)
        | tuple => exact PE.imp (pe_callTy call_tuple_of (glB_ok h2) (bl_of g (by decide +kernel)) (by decide +kernel) pa (by decide +kernel) (by decide +kernel) hs hpl) (fin calls_tuple)
        | list => exact PE.imp (pe_callTy call_list_of (glB_ok h2) (bl_of g (by decide +kernel)) (by decide +kernel) pa (by decide +kernel) (by decide +kernel) hs hpl) (fin calls_list)
        | str => exact PE.imp (pe_callTy (call_str_int.or SkE.call_str_str) (glB_ok h2) (bl_of g (by decide +kernel)) (by decide +kernel) pa (by decide +kernel) (by decide +kernel) hs hpl) (fin calls_str)
        | int => exact PE.imp (pe_callTy call_int1 (glB_ok h2) (bl_of g (by decide +kernel)) (by decide +kernel) pa (by decide +kernel) (by decide +kernel) hs hpl) (fin calls_int)
    | _ => cases h
  | _ => cases h
theorem ty_boot {ty : String} (h : isiK ty = true) : bootBuiltins (Str.ofString ty) = some (.type ty) ∧ (Str.ofString ty == ("__debug__" : Str)) = false ∧ Str.ofString ty ≠ ("__name__" : Str) ∧ (bltNames.any fun y => decide (y = Str.ofString ty)) = true := by
  rcases isiK_cases h with rfl | rfl | rfl | rfl | rfl <;> exact ⟨by decide +kernel, by decide +kernel, by decide +kernel, by decide +kernel⟩
theorem p_isi (g : Cg Fs cA n X W) (ty : String) {a : T} (pa : Pe Fs cA a n X W) : Pe Fs cA (.isi a ty) n X W := .ofV rfl fun ex h => by
  cases ex with
  | Call fe vs ks p =>
    cases fe with
    | Name x p2 =>
      match vs, ks, h with
      | [v, .Name y p3], [], h =>
        have h : (decide (x = ("isinstance" : Str)) && decide (y = Str.ofString ty) && isiK ty && glB X.env.scope x && glB X.env.scope y && chkE X.N Fs X.env.scope a v && pl v) = true := h
        rw [Bool.and_eq_true, Bool.and_eq_true, Bool.and_eq_true, Bool.and_eq_true, Bool.and_eq_true, Bool.and_eq_true, decide_eq_true_eq, decide_eq_true_eq] at h
        obtain ⟨⟨⟨⟨⟨⟨h1, h2⟩, h3⟩, h4⟩, h5⟩, h6⟩, h7⟩ := h
        subst h1 h2
        obtain ⟨b1, b2, b3, b4⟩ := ty_boot h3
        have pn : PE X (.Name (Str.ofString ty) p3) (tC (.ty ty)) := pe_bltn (glB_ok h5) (bl_of g b4) b1 rfl b3 b2
        have pA := pa_cons (pa.e v h6) (pa_cons pn pa_nil (star_pl rfl)) (star_pl h7)
        refine ⟨PE.imp (pe_callB call_isi (glB_ok h4) (bl_of g (by decide +kernel)) (by decide +kernel) pA (by decide +kernel) (by decide +kernel) (star_pl h7) (backTo_any fun e he => by
          have : e = .Name (Str.ofString ty) p3 := by simpa using he
          subst this
          rfl)) fun σ H Q ⟨s, env, e, ok, re, q⟩ => ?_, rfl⟩
        subst e
        refine tE_then ok re q fun s1 d x o1 l1 re1 rx q1 => ?_
        obtain ⟨t, b, z1, z2, z3⟩ := isi_ok o1 rx q1
        exact ⟨x, .ty ty, t, .type ty, b, rfl, .ty ty, z1, z2, z3⟩
    | _ => cases h
  | _ => cases h
theorem isi_typ {K : PySem.W.Frag} {s : Sit} {d : D} {v : V} {ty : String} {b : Bool} {st st' : Store} (ok : s.Ok K) (r : Rep K s d v) (hk : isiK ty = true) (h : isiF d ty st = .ok (.bl b) st') (hs : st = s.st := by rfl) : TyX K s.H v (.type (tyN d)) ∧ b = isiN (tyN d) ty := by
  subst hs
  unfold isiF at h
  rw [if_pos hk] at h
  split at h
  · rename_i l
    split at h
    · rename_i xs hx
      obtain ⟨a, vs, rfl, h1, _⟩ := lstOf_ok ok r hx
      cases h
      exact ⟨.base (.lst h1), rfl⟩
    · cases h
  · rename_i hn
    cases r with
    | ref z => exact absurd rfl (hn _)
    | dat r => cases h; exact ⟨tyX_ok r, rfl⟩
theorem p_isi2 (g : Cg Fs cA n X W) (ty ty' : String) {a : T} (pa : Pe Fs cA a n X W) : Pe Fs cA (.isi2 a ty ty') n X W := .ofV rfl fun ex h => by
  cases ex with
  | Call fe vs ks p =>
    cases fe with
    | Name x p2 =>
      match vs, ks, h with
      | [v, .Tuple [.Name y p3, .Name z p5] k p4], [], h =>
        have h : (decide (x = ("isinstance" : Str)) && decide (y = Str.ofString ty) && isiK ty && decide (z = Str.ofString ty') && isiK ty' && glB X.env.scope x && glB X.env.scope y && glB X.env.scope z && chkE X.N Fs X.env.scope a v && pl v) = true := h
        rw [Bool.and_eq_true, Bool.and_eq_true, Bool.and_eq_true, Bool.and_eq_true, Bool.and_eq_true, Bool.and_eq_true, Bool.and_eq_true, Bool.and_eq_true, Bool.and_eq_true, decide_eq_true_eq, decide_eq_true_eq, decide_eq_true_eq] at h
        obtain ⟨⟨⟨⟨⟨⟨⟨⟨⟨h1, h2⟩, h3⟩, k2⟩, k3⟩, h4⟩, h5⟩, k5⟩, h6⟩, h7⟩ := h
        subst h1 h2 k2
        obtain ⟨b1, b2, b3, b4⟩ := ty_boot h3
        obtain ⟨c1, c2, c3, c4⟩ := ty_boot k3
        have pn : PE X (.Name (Str.ofString ty) p3) (tC (.ty ty)) := pe_bltn (glB_ok h5) (bl_of g b4) b1 rfl b3 b2
        have pn' : PE X (.Name (Str.ofString ty') p5) (tC (.ty ty')) := pe_bltn (glB_ok k5) (bl_of g c4) c1 rfl c3 c2
        have pT := pe_tup (X := X) (x1 := k) (pos := p4) (pa_cons pn (pa_cons pn' pa_nil (star_pl rfl)) (star_pl rfl))
        have pA := pa_cons (pa.e v h6) (pa_cons pT pa_nil (star_pl rfl)) (star_pl h7)
        refine ⟨PE.imp (pe_callB call_isiT (glB_ok h4) (bl_of g (by decide +kernel)) (by decide +kernel) pA (by decide +kernel) (by decide +kernel) (star_pl h7) (backTo_any fun e he => by
          have : e = .Tuple [.Name (Str.ofString ty) p3, .Name (Str.ofString ty') p5] k p4 := by simpa using he
          subst this
          rfl)) fun σ H Q ⟨s, env, e, ok, re, q⟩ => ?_, rfl⟩
        subst e
        refine tE_then ok re q fun s1 d x o1 l1 re1 rx q1 => ?_
        refine ⟨by simp [sizeLine], fun p hp => ?_⟩
        unfold isi2F at q1
        split at q1
        · rename_i b st1 c st2 e1 e2
          have o2 : (s1.put p (.tup [.ty ty, .ty ty'])).Ok X.K := Sit.put_ok o1 hp
          have l2 : s1.Le (s1.put p (.tup [.ty ty, .ty ty'])) := Sit.put_le hp
          have rx2 := rx.le o1 l2
          obtain ⟨hx, hb⟩ := isi_typ (s := s1.put p (.tup [.ty ty, .ty ty'])) o2 rx2 h3 e1
          obtain ⟨_, hc⟩ := isi_typ (s := s1.put p (.tup [.ty ty, .ty ty'])) o2 rx2 k3 e2
          refine ⟨x, p, [.ty ty, .ty ty'], _, [.type ty, .type ty'], b || c, rfl, upd_same, .cons (.ty _) (.cons (.ty _) .nil), hx, ?_, q1 (s1.put p (.tup [.ty ty, .ty ty'])) rfl o2 l2 _ (.dat (.bl _))⟩
          refine kitAny_cons (b := b) (kit_ty (by rw [isiN_ok h3, hb])) (fun e => kitAny_cons (b := c) (kit_ty (by rw [isiN_ok k3, hc])) (fun e' => ?_) fun e' => ?_) fun e => ?_
          · rw [e, e']; exact kitAny_nil
          · rw [e']; cases b <;> rfl
          · rw [e]; rfl
        · exact q1.elim
    | _ => cases h
  | _ => cases h
theorem frz_ok {K : PySem.W.Frag} {s : Sit} {σ : L2.St} {d : D} {v : V} {Q : VK} (ok : s.Ok K) (r : Rep K s d v) (h : Post K cA s σ W (frzF d s.st) (PQ K Q)) : Q v s.H := by
  unfold frzF at h
  split at h
  · rename_i l
    split at h
    · rename_i xs hc
      cases r with
      | ref ha =>
        rename_i a
        obtain ⟨vs, h1, r1⟩ := ok.cell l _ a hc ha
        exact h (s.kill l xs) rfl (Sit.kill_ok ok hc) Sit.kill_le (.ref a) (.dat (.lst h1 (Sit.kill_no ok ha) (r1.le ok Sit.kill_le)))
      | dat r => cases r
    · rename_i xs hc
      cases r with
      | ref ha =>
        rename_i a
        obtain ⟨vs, h1, r1⟩ := ok.cell l _ a hc ha
        refine h s rfl ok (Sit.Le.refl s) (.ref a) (.dat (.lst h1 ?_ r1))
        rintro ⟨j, c, h2, h3⟩
        have e := nodup_at ok.nd h3 ha
        subst e
        rw [h2] at hc
        cases hc
      | dat r => cases r
    · exact h.elim
  · exact post_val ok h r
theorem p_frz {a : T} (pa : Pe Fs cA a n X W) : Pe Fs cA (.frz a) n X W := by
  refine .of rfl (fun ex h => ?_) fun ex h z => by cases z
  have h : (chkE X.N Fs X.env.scope a ex && !isComp ex) = true := h
  rw [Bool.and_eq_true] at h
  refine PE.imp (pa.e ex h.1) fun σ H Q ⟨s, env, e, ok, re, q⟩ => ?_
  subst e
  exact tE_then ok re q fun s1 d x o1 l1 re1 rx q1 => frz_ok o1 rx q1
end
end Zn

/-! Zn, part 9: methods, comprehensions; every expression. -/
namespace Zn
open PySem PySem.Spec PyProof.Rows L2
section
variable {Fs : List Fn} {cA : Nat → Option Addr} {n : Nat} {X : Cx} {W : WX}

/-- a list of ours changed: what follows -/
theorem chg_post {K : PySem.W.Frag} {s : Sit} {σ : L2.St} {d : D} {v : V} {Q : VK} {l : Nat} {a : Addr} {c : List D} {xs : List D} {vs : List V} (ok : s.Ok K) (hc : s.st[l]? = some (some (.lst c))) (ha : s.r[l]? = some a) (r : RDs K s.H s.M xs vs) (rd : RD K s.H s.M d v)
    (h : Post K cA s σ W (.ok d (s.st.set l (some (.lst xs)))) (PQ K Q)) : Q v (upd s.H a (.lst vs)) :=
  h (s.chg l a xs vs) rfl (Sit.chg_ok ok hc ha r) (Sit.chg_le ok hc ha) v (.dat (rd.le ok (Sit.chg_le ok hc ha)))
theorem RDs.snoc {K : PySem.W.Frag} {H : Hp} {M : Addr → Prop} {xs : List D} {vs : List V} {d : D} {v : V} (r : RDs K H M xs vs) (h : RD K H M d v) : RDs K H M (xs ++ [d]) (vs ++ [v]) := r.append (.cons h .nil)
theorem RDs.dropLast {K : PySem.W.Frag} {H : Hp} {M : Addr → Prop} {xs : List D} {vs : List V} (r : RDs K H M xs vs) : RDs K H M xs.dropLast vs.dropLast := by
  rw [List.dropLast_eq_take, List.dropLast_eq_take, ← r.length]
  exact r.take _
theorem idxI_ok {k : Int} : ∀ {ns : List Int} {j : Nat}, idxI k ns = some j → ns[j]? = some k ∧ ∀ (m : Nat) (z : Int), m < j → ns[m]? = some z → z ≠ k
  | [], _, h => by cases h
  | x :: xs, j, h => by
    unfold idxI at h
    split at h
    · rename_i e
      cases h
      exact ⟨by simp [e], fun m z hm => absurd hm (by omega)⟩
    · rename_i e
      obtain ⟨i, hi, rfl⟩ := Option.map_eq_some_iff.mp h
      obtain ⟨h1, h2⟩ := idxI_ok hi
      refine ⟨by simpa using h1, fun m z hm hz => ?_⟩
      cases m with
      | zero => simp at hz; rw [← hz]; exact e
      | succ m => exact h2 m z (by omega) (by simpa using hz)
theorem p_mth (k : Mth) {a t : T} (pa : Pe Fs cA a n X W) (pe : Pe Fs cA t n X W) : Pe Fs cA (.mth k a t) n X W := .ofV rfl fun ex h => by
  cases ex with
  | Call fe vs ks p =>
    cases fe with
    | Attribute o x apos =>
      cases ks with
      | nil =>
        have h : (decide (mName k = x) && (apos.endLine == p.line) && chkE X.N Fs X.env.scope a o && atB o && chkEs X.N Fs X.env.scope t vs && decide (vs.length = mAr k)) = true := h
        rw [Bool.and_eq_true, Bool.and_eq_true, Bool.and_eq_true, Bool.and_eq_true, Bool.and_eq_true, decide_eq_true_eq, decide_eq_true_eq] at h
        obtain ⟨⟨⟨⟨⟨h1, h2⟩, h3⟩, h4⟩, h5⟩, h6⟩ := h
        subst h1
        obtain ⟨pA, hp⟩ := pe.a vs h5
        refine ⟨?_, rfl⟩
        -- up to the method itself
        have go : ∀ {r : V → List V → Hp → VK → Prop}, (∀ (s : Sit) (σ : L2.St) (d : D) (ds : List D) (x : V) (xs : List V) (Q : VK), s.Ok X.K → Rep X.K s d x → Reps X.K s ds xs → Post X.K cA s σ W (mthF k d ds s.st) (PQ X.K Q) → r x xs s.H Q) →
            ∀ σ H Q, tE X.K cA (cf Fs n) W (.mth k a t) σ H Q → tE X.K cA (cf Fs n) W a σ H fun x H1 => tyV X.K "list" x H1 ∧ tA X.K cA (cf Fs n) W t σ H1 fun xs H2 => r x xs H2 Q := fun hr σ H Q ⟨s, env, e, ok, re, q⟩ => by
          subst e
          have q0 : Post X.K cA s σ W ((ev (cf Fs n) a env s.st).bind fun x st1 => match lstOf st1 x with
            | none => .err
            | some _ => (evs (cf Fs n) t env st1).bind fun ds st2 => mthF k x ds st2) (PQ X.K Q) := q
          refine tE_then ok re q0 fun s1 d x o1 l1 re1 rx q1 => ?_
          cases hl : lstOf s1.st d with
          | none => rw [hl] at q1; exact q1.elim
          | some ys =>
            rw [hl] at q1
            obtain ⟨b, vs, rfl, hb, _⟩ := lstOf_ok o1 rx hl
            exact ⟨.inl ⟨rfl, _, SqL.of hb⟩, tA_then o1 re1 q1 fun s2 ds xs o2 l2 re2 rxs q2 => hr s2 σ d ds _ xs Q o2 (rx.le o1 l2) rxs q2⟩
        cases k with
        | append =>
          match vs, h6, pA, hp with
          | [v], _, pA, hp =>
            refine PE.imp (pe_bm PySem.F.plainAttrs_list PySem.F.slot_list_append PySem.F.type_list_append mt_append (pa.e o h3) pA (at_pl h4) (by rw [star_pl (hp v (by simp))]; rfl) h2 (star_pl (hp v (by simp)))) (go fun s σ d ds x xs Q ok rx rxs q => ?_)
            unfold mthF at q
            split at q <;> first | exact q.elim | skip
            all_goals rename_i z
            all_goals cases z
            split at q
            · rename_i ys hc
              split at q
              · rename_i hz
                cases rx with
                | ref ha =>
                  obtain ⟨u, rfl, ru⟩ := one_of rxs
                  obtain ⟨vs, h1, r1⟩ := ok.cell _ _ _ hc ha
                  exact ⟨_, vs, u, rfl, rfl, h1, by rw [← r1.length]; exact hz.2, chg_post ok hc ha (r1.snoc (ru.rd hz.1)) .non q⟩
                | dat rx => cases rx
              · exact q.elim
            · exact q.elim
          | [], h6, _, _ => cases h6
          | _ :: _ :: _, h6, _, _ => cases h6
        | extend =>
          match vs, h6, pA, hp with
          | [v], _, pA, hp =>
            refine PE.imp (pe_bm PySem.F.plainAttrs_list PySem.F.slot_list_extend PySem.F.type_list_extend mt_extend (pa.e o h3) pA (at_pl h4) (by rw [star_pl (hp v (by simp))]; rfl) h2 (star_pl (hp v (by simp)))) (go fun s σ d ds x xs Q ok rx rxs q => ?_)
            unfold mthF at q
            split at q <;> first | exact q.elim | skip
            all_goals rename_i z
            all_goals cases z
            split at q
            · rename_i ys zs hc hy
              split at q
              · rename_i hz
                cases rx with
                | ref ha =>
                  obtain ⟨u, rfl, ru⟩ := one_of rxs
                  obtain ⟨vs, h1, r1⟩ := ok.cell _ _ _ hc ha
                  obtain ⟨b, ws, rfl, h2, r2⟩ := lstOf_ok ok ru hy
                  exact ⟨_, b, vs, ws, rfl, rfl, h1, h2, by rw [← r1.length, ← r2.length]; exact hz, chg_post ok hc ha (r1.append r2) .non q⟩
                | dat rx => cases rx
              · exact q.elim
            · exact q.elim
          | [], h6, _, _ => cases h6
          | _ :: _ :: _, h6, _, _ => cases h6
        | count =>
          match vs, h6, pA, hp with
          | [v], _, pA, hp =>
            refine PE.imp (pe_bm PySem.F.plainAttrs_list PySem.F.slot_list_count PySem.F.type_list_count mt_lcount (pa.e o h3) pA (at_pl h4) (by rw [star_pl (hp v (by simp))]; rfl) h2 (star_pl (hp v (by simp)))) (go fun s σ d ds x xs Q ok rx rxs q => ?_)
            unfold mthF at q
            split at q <;> first | exact q.elim | skip
            all_goals rename_i z
            all_goals cases z
            split at q
            · rename_i ns hn
              obtain ⟨ys, hy, hns⟩ := Option.bind_eq_some_iff.mp hn
              obtain ⟨u, rfl, ru⟩ := one_of rxs
              cases rep_int ru
              obtain ⟨b, ws, rfl, h2, r2⟩ := lstOf_ok ok rx hy
              rw [intsOf_ok hns] at r2
              rw [r2.ints] at h2
              exact ⟨b, ns, _, rfl, rfl, SqL.of h2, post_val ok q (.int _)⟩
            · exact q.elim
          | [], h6, _, _ => cases h6
          | _ :: _ :: _, h6, _, _ => cases h6
        | index =>
          match vs, h6, pA, hp with
          | [v], _, pA, hp =>
            refine PE.imp (pe_bm PySem.F.plainAttrs_list PySem.F.slot_list_index PySem.F.type_list_index mt_index (pa.e o h3) pA (at_pl h4) (by rw [star_pl (hp v (by simp))]; rfl) h2 (star_pl (hp v (by simp)))) (go fun s σ d ds x xs Q ok rx rxs q => ?_)
            unfold mthF at q
            split at q <;> first | exact q.elim | skip
            all_goals rename_i z
            all_goals cases z
            split at q
            · rename_i ns hn
              split at q
              · rename_i j hj
                obtain ⟨ys, hy, hns⟩ := Option.bind_eq_some_iff.mp hn
                obtain ⟨u, rfl, ru⟩ := one_of rxs
                cases rep_int ru
                obtain ⟨b, ws, rfl, h2, r2⟩ := lstOf_ok ok rx hy
                rw [intsOf_ok hns] at r2
                rw [r2.ints] at h2
                obtain ⟨h3, h4⟩ := idxI_ok hj
                refine ⟨b, ns.map V.int, _, j, _, rfl, rfl, SqL.of h2, rfl, ?_, by rw [List.getElem?_map, h3]; rfl, ?_, fun m z' hm hz => ?_, post_val ok q (.int _)⟩
                · rw [List.all_eq_true]
                  intro x hx
                  obtain ⟨i, _, rfl⟩ := List.mem_map.mp hx
                  rfl
                · exact beq_self_eq_true _
                · rw [List.getElem?_map] at hz
                  obtain ⟨i, hi, rfl⟩ := Option.map_eq_some_iff.mp hz
                  have := h4 m i hm hi
                  simpa [eqV] using this
              · exact q.elim
            · exact q.elim
          | [], h6, _, _ => cases h6
          | _ :: _ :: _, h6, _, _ => cases h6
        | insert =>
          match vs, h6, pA, hp with
          | [v, w], _, pA, hp =>
            refine PE.imp (pe_bm PySem.F.plainAttrs_list PySem.F.slot_list_insert PySem.F.type_list_insert mt_insert (pa.e o h3) pA (at_pl h4) (by rw [star_pl (hp v (by simp)), star_pl (hp w (by simp))]; rfl) h2 (star_pl (hp v (by simp))) (backTo_any fun e he => hp e (List.mem_cons_of_mem _ he))) (go fun s σ d ds x xs Q ok rx rxs q => ?_)
            unfold mthF at q
            split at q <;> first | exact q.elim | skip
            all_goals rename_i z
            all_goals cases z
            split at q
            · rename_i ys hc
              split at q
              · rename_i hz
                cases rx with
                | ref ha =>
                  cases rxs with
                  | cons r1 rxs =>
                    obtain ⟨u, rfl, ru⟩ := one_of rxs
                    cases rep_int r1
                    obtain ⟨vs, h1, r1⟩ := ok.cell _ _ _ hc ha
                    refine ⟨_, vs, _, u, rfl, rfl, h1, by rw [← r1.length]; exact hz.2.1, hz.2.2.1, by have := hz.2.2.2; omega, chg_post ok hc ha (((r1.take _).append (.cons (ru.rd hz.1) .nil)).append (r1.drop _)) .non q⟩
                | dat rx => cases rx
              · exact q.elim
            · exact q.elim
          | [], h6, _, _ => cases h6
          | [_], h6, _, _ => cases h6
          | _ :: _ :: _ :: _, h6, _, _ => cases h6
        | reverse =>
          match vs, h6, pA with
          | [], _, pA =>
            refine PE.imp (pe_bm0 PySem.F.plainAttrs_list PySem.F.slot_list_reverse PySem.F.type_list_reverse mt_reverse (pa.e o h3) (at_pl h4) h2) fun σ H Q q0 => ?_
            obtain ⟨s, env, e, ok, re, q⟩ := q0
            subst e
            have q0 : Post X.K cA s σ W ((ev (cf Fs n) a env s.st).bind fun x st1 => match lstOf st1 x with
              | none => .err
              | some _ => (evs (cf Fs n) t env st1).bind fun ds st2 => mthF .reverse x ds st2) (PQ X.K Q) := q
            refine tE_then ok re q0 fun s1 d x o1 l1 re1 rx q1 => ?_
            cases hl : lstOf s1.st d with
            | none => rw [hl] at q1; exact q1.elim
            | some ys =>
              rw [hl] at q1
              obtain ⟨b, vs, rfl, hb, _⟩ := lstOf_ok o1 rx hl
              refine ⟨.inl ⟨rfl, _, SqL.of hb⟩, ?_⟩
              cases t with
              | nil =>
                have q2 : Post X.K cA s1 σ W (mthF .reverse d [] s1.st) (PQ X.K Q) := q1
                cases rx with
                | ref ha =>
                  simp only [mthF] at q2
                  split at q2
                  · rename_i zs hc
                    obtain ⟨vs, h1, r1⟩ := o1.cell _ _ _ hc ha
                    exact ⟨_, vs, rfl, rfl, h1, chg_post o1 hc ha r1.reverse .non q2⟩
                  · exact q2.elim
                | dat rx => cases rx <;> exact q2.elim
              | _ => cases h5
          | _ :: _, h6, _ => cases h6
        | clear =>
          match vs, h6, pA with
          | [], _, pA =>
            refine PE.imp (pe_bm0 PySem.F.plainAttrs_list PySem.F.slot_list_clear PySem.F.type_list_clear mt_clear (pa.e o h3) (at_pl h4) h2) fun σ H Q q0 => ?_
            obtain ⟨s, env, e, ok, re, q⟩ := q0
            subst e
            have q0 : Post X.K cA s σ W ((ev (cf Fs n) a env s.st).bind fun x st1 => match lstOf st1 x with
              | none => .err
              | some _ => (evs (cf Fs n) t env st1).bind fun ds st2 => mthF .clear x ds st2) (PQ X.K Q) := q
            refine tE_then ok re q0 fun s1 d x o1 l1 re1 rx q1 => ?_
            cases hl : lstOf s1.st d with
            | none => rw [hl] at q1; exact q1.elim
            | some ys =>
              rw [hl] at q1
              obtain ⟨b, vs, rfl, hb, _⟩ := lstOf_ok o1 rx hl
              refine ⟨.inl ⟨rfl, _, SqL.of hb⟩, ?_⟩
              cases t with
              | nil =>
                have q2 : Post X.K cA s1 σ W (mthF .clear d [] s1.st) (PQ X.K Q) := q1
                cases rx with
                | ref ha =>
                  simp only [mthF] at q2
                  split at q2
                  · rename_i zs hc
                    obtain ⟨vs, h1, r1⟩ := o1.cell _ _ _ hc ha
                    exact ⟨_, vs, rfl, rfl, h1, chg_post o1 hc ha .nil .non q2⟩
                  · exact q2.elim
                | dat rx => cases rx <;> exact q2.elim
              | _ => cases h5
          | _ :: _, h6, _ => cases h6
        | pop =>
          match vs, h6, pA with
          | [], _, pA =>
            refine PE.imp (pe_bm0 PySem.F.plainAttrs_list PySem.F.slot_list_pop PySem.F.type_list_pop mt_pop (pa.e o h3) (at_pl h4) h2) fun σ H Q q0 => ?_
            obtain ⟨s, env, e, ok, re, q⟩ := q0
            subst e
            have q0 : Post X.K cA s σ W ((ev (cf Fs n) a env s.st).bind fun x st1 => match lstOf st1 x with
              | none => .err
              | some _ => (evs (cf Fs n) t env st1).bind fun ds st2 => mthF .pop x ds st2) (PQ X.K Q) := q
            refine tE_then ok re q0 fun s1 d x o1 l1 re1 rx q1 => ?_
            cases hl : lstOf s1.st d with
            | none => rw [hl] at q1; exact q1.elim
            | some ys =>
              rw [hl] at q1
              obtain ⟨b, vs, rfl, hb, _⟩ := lstOf_ok o1 rx hl
              refine ⟨.inl ⟨rfl, _, SqL.of hb⟩, ?_⟩
              cases t with
              | nil =>
                have q2 : Post X.K cA s1 σ W (mthF .pop d [] s1.st) (PQ X.K Q) := q1
                cases rx with
                | ref ha =>
                  simp only [mthF] at q2
                  split at q2
                  · rename_i zs hc
                    split at q2
                    · rename_i y hy
                      obtain ⟨vs, h1, r1⟩ := o1.cell _ _ _ hc ha
                      obtain ⟨v, hv, rv⟩ := r1.get hy
                      exact ⟨_, vs, v, rfl, rfl, h1, by rw [← r1.length]; exact hv, chg_post o1 hc ha r1.dropLast rv q2⟩
                    · exact q2.elim
                  · exact q2.elim
                | dat rx => cases rx <;> exact q2.elim
              | _ => cases h5
          | _ :: _, h6, _ => cases h6
      | cons _ _ => cases h
    | _ => cases h
  | _ => cases h
end
end Zn

/-! Zn, part A: comprehensions; every expression. -/
namespace Zn
open PySem PySem.Spec PyProof.Rows L2
section
variable {Fs : List Fn} {cA : Nat → Option Addr} {n : Nat} {X : Cx} {W : WX}

def cbody (F : CallF) (tg : T) (vs : List Nat) (cond elt : T) (env : Env) : D → Store → Res (Option D) := fun x st2 => match asgN tg x (wipeE env vs) with
  | none => .err
  | some env2 => (evt F cond env2 st2).bind fun b st3 => if b = true then (ev F elt env2 st3).bind fun d st4 => .ok (some d) st4 else .ok none st3
theorem compL_cons (body : D → Store → Res (Option D)) (k : Nat) (x : D) (xs : List D) (st : Store) : compL body k (x :: xs) st = match body x st with
    | .ok none st' => compL body k xs st'
    | .ok (some d) st' => match st'[k]? with
      | some (some (.lst acc)) => if d.isRef = false ∧ acc.length < sizeLine then compL body k xs (st'.set k (some (.lst (acc ++ [d])))) else .err
      | _ => .err
    | _ => .err := rfl
theorem compR_succ (body : D → Store → Res (Option D)) (n l k i : Nat) (st : Store) : compR body n l (k + 1) i st = match lstOf st (.ref l) with
    | none => .err
    | some xs => match xs[i]? with
      | none => .ok () st
      | some x => match body x st with
        | .ok none st' => compR body n l k (i + 1) st'
        | .ok (some d) st' => match st'[n]? with
          | some (some (.lst acc)) => if d.isRef = false ∧ acc.length < sizeLine then compR body n l k (i + 1) (st'.set n (some (.lst (acc ++ [d])))) else .err
          | _ => .err
        | _ => .err := rfl
theorem comp_imp (m : Bool) {src tg cond elt : T} (own : List (Str × Nat)) (h5 : (slots tg).all (fun i => decide (i ∈ own.map (·.2))) = true) : ∀ σ H Q, tE X.K cA (cf Fs n) W (.comp m src tg own cond elt) σ H Q →
    tLc (tI X.K cA (cf Fs n) W src) (gN X.K tg) (tC' X.K cA (cf Fs n) W0 cond) (tE X.K cA (cf Fs n) W0 elt) (own.map (·.2)) σ H Q := by
      intro σ H Q ⟨s, env, e, ok, re, q⟩
      subst e
      obtain ⟨vs, hvs⟩ : ∃ vs, vs = own.map (·.2) := ⟨_, rfl⟩
      have q0 : Post X.K cA s σ W ((evw (cf Fs n) src env s.st).bind fun w st1 => match w with
        | .fix xs => (compL (cbody (cf Fs n) tg (own.map (·.2)) cond elt env) st1.length xs (st1 ++ [some (.lst [])])).bind fun _ st2 => compEnd m st1.length st2
        | .live l => (compR (cbody (cf Fs n) tg (own.map (·.2)) cond elt env) st1.length l fuel 0 (st1 ++ [some (.lst [])])).bind fun _ st2 => compEnd m st1.length st2
        | .zp _ _ => .err) (PQ X.K Q) := q
      rw [← hvs] at q0 ⊢
      refine ⟨s, env, rfl, ok, re, q0.split.mono fun w s1 o1 l1 q1 J wk D hD => ?_⟩
      cases w with
      | zp xs l => exact q1.elim
      | live l =>
        have q1 : Post X.K cA s1 σ W ((compR (cbody (cf Fs n) tg vs cond elt env) s1.st.length l fuel 0 (s1.st ++ [some (.lst [])])).bind fun _ st2 => compEnd m s1.st.length st2) (PQ X.K Q) := q1
        have oD := Sit.new_ok (xs := []) (vs := []) o1 hD .nil
        have lD := Sit.new_le o1 (xs := []) (vs := []) hD
        have rD : (s1.new D [] []).r[s1.st.length]? = some D := by
          show (s1.r ++ [D])[s1.st.length]? = _
          rw [← o1.len]
          simp
        refine ⟨fun i k H' => ∃ t : Sit, t.H = H' ∧ t.Ok X.K ∧ (s1.new D [] []).Le t ∧ Post X.K cA s1 σ W ((compR (cbody (cf Fs n) tg vs cond elt env) s1.st.length l k i t.st).bind fun _ st2 => compEnd m s1.st.length st2) (PQ X.K Q),
          ⟨fuel, s1.new D [] [], rfl, oD, Sit.Le.refl _, q1⟩, ?_⟩
        rintro i k H' ⟨t, rfl, ot, lt, qt⟩
        cases k with
        | zero => exact qt.elim
        | succ k =>
          rw [compR_succ] at qt
          cases hxs : lstOf t.st (.ref l) with
          | none => rw [hxs] at qt; exact qt.elim
          | some xs =>
            rw [hxs] at qt
            obtain ⟨w1, w2, w3⟩ := wk i t xs (lD.trans lt) ot hxs
            cases hxi : xs[i]? with
            | none =>
              simp only [hxi] at qt
              refine .inl ⟨w2 (List.getElem?_eq_none_iff.mp hxi), ?_⟩
              have qt : Post X.K cA s1 σ W (compEnd m s1.st.length t.st) (PQ X.K Q) := qt
              exact cut_post o1 ot (lD.trans lt) (.ref (lt.pre _ _ rD)) qt
            | some d =>
              simp only [hxi] at qt
              refine .inr ⟨w1 (List.getElem?_eq_some_iff.mp hxi).1, fun H' => ∃ t : Sit, t.H = H' ∧ t.Ok X.K ∧ (s1.new D [] []).Le t ∧ Post X.K cA s1 σ W ((compR (cbody (cf Fs n) tg vs cond elt env) s1.st.length l k (i + 1) t.st).bind fun _ st2 => compEnd m s1.st.length st2) (PQ X.K Q), ?_, fun x H' y => ?_⟩
              · rintro H' ⟨t2, e2, o2, l2, q2⟩
                exact ⟨k, by omega, t2, e2, o2, l2, q2⟩
              · obtain ⟨rfl, rx⟩ := w3 x H' d hxi y
                unfold cbody at qt
                cases ha : asgN tg d (wipeE env vs) with
                | none => simp only [ha] at qt; exact qt.elim
                | some env2 =>
                  simp only [ha] at qt
                  have re' := (re.le ok l1).le o1 (lD.trans lt)
                  refine ⟨t, wipeE env vs, d, env2, rfl, ot, re'.wipe vs, rx, ha, fun σ' rs' len' out' => ⟨wipe_eq (by rw [len', wipe_length]) fun j hj => out' j fun z => ?_, ?_⟩⟩
                  · have := List.all_eq_true.mp h5 j z
                    rw [decide_eq_true_eq, ← hvs] at this
                    exact hj this
                  · refine ⟨t, env2, rfl, ot, rs', ?_⟩
                    cases r : evt (cf Fs n) cond env2 t.st with
                    | err => simp only [r, bind_err] at qt; exact qt.elim
                    | exc z zz => simp only [r, bind_exc] at qt; exact qt.elim
                    | ok b st3 =>
                      simp only [r, bind_ok] at qt
                      intro t3 e3 o3 l3
                      have lt3 := lt.trans l3
                      cases b with
                      | false =>
                        simp only [Bool.false_eq_true, if_false] at qt ⊢
                        exact ⟨t3, rfl, o3, lt3, by rw [e3]; exact qt⟩
                      | true =>
                        simp only [if_true] at qt ⊢
                        refine ⟨t3, env2, rfl, o3, rs'.le ot l3, ?_⟩
                        rw [e3]
                        cases r2 : ev (cf Fs n) elt env2 st3 with
                        | err => simp only [r2, bind_err] at qt; exact qt.elim
                        | exc z zz => simp only [r2, bind_exc] at qt; exact qt.elim
                        | ok y st4 =>
                          simp only [r2, bind_ok] at qt
                          intro t4 e4 o4 l4 v hv
                          rw [← e4] at qt
                          have lt4 := lt3.trans l4
                          split at qt
                          · rename_i acc hacc
                            split at qt
                            · rename_i hz
                              obtain ⟨us, c1, c2⟩ := o4.cell _ _ D hacc (lt4.pre _ _ rD)
                              refine ⟨us, c1, by rw [← c2.length]; exact hz.2, t4.chg s1.st.length D (acc ++ [y]) (us ++ [v]), rfl, Sit.chg_ok o4 hacc (lt4.pre _ _ rD) (c2.snoc (hv.rd hz.1)), lt4.trans (Sit.chg_le o4 hacc (lt4.pre _ _ rD)), qt⟩
                            · exact qt.elim
                          · exact qt.elim
      | fix xs =>
        have q1 : Post X.K cA s1 σ W ((compL (cbody (cf Fs n) tg vs cond elt env) s1.st.length xs (s1.st ++ [some (.lst [])])).bind fun _ st2 => compEnd m s1.st.length st2) (PQ X.K Q) := q1
        have oD := Sit.new_ok (xs := []) (vs := []) o1 hD .nil
        have lD := Sit.new_le o1 (xs := []) (vs := []) hD
        have rD : (s1.new D [] []).r[s1.st.length]? = some D := by
          show (s1.r ++ [D])[s1.st.length]? = _
          rw [← o1.len]
          simp
        refine ⟨fun i k H' => ∃ t : Sit, t.H = H' ∧ t.Ok X.K ∧ (s1.new D [] []).Le t ∧ k = xs.length - i ∧ i ≤ xs.length ∧ Post X.K cA s1 σ W ((compL (cbody (cf Fs n) tg vs cond elt env) s1.st.length (xs.drop i) t.st).bind fun _ st2 => compEnd m s1.st.length st2) (PQ X.K Q),
          ⟨xs.length, s1.new D [] [], rfl, oD, Sit.Le.refl _, rfl, Nat.zero_le _, q1⟩, ?_⟩
        rintro i k H' ⟨t, rfl, ot, lt, rfl, hi, qt⟩
        by_cases hlt : i < xs.length
        · refine .inr ⟨wk.1 i t (lD.trans lt) ot hlt, fun H' => ∃ t : Sit, t.H = H' ∧ t.Ok X.K ∧ (s1.new D [] []).Le t ∧ Post X.K cA s1 σ W ((compL (cbody (cf Fs n) tg vs cond elt env) s1.st.length (xs.drop (i + 1)) t.st).bind fun _ st2 => compEnd m s1.st.length st2) (PQ X.K Q), ?_, fun x H' y => ?_⟩
          · rintro H' ⟨t2, e2, o2, l2, q2⟩
            exact ⟨xs.length - (i + 1), by omega, t2, e2, o2, l2, rfl, hlt, q2⟩
          · obtain ⟨t', rfl, est, ot', lt', rx⟩ := wk.2.2 i t x H' xs[i] (lD.trans lt) ot (List.getElem?_eq_getElem hlt) y
            rw [List.drop_eq_getElem_cons hlt, compL_cons, ← est] at qt
            obtain ⟨d, hd⟩ : ∃ d, d = xs[i] := ⟨_, rfl⟩
            rw [← hd] at qt rx
            unfold cbody at qt
            cases ha : asgN tg d (wipeE env vs) with
            | none => rw [ha] at qt; exact qt.elim
            | some env2 =>
              rw [ha] at qt
              have re' := (re.le ok l1).le o1 ((lD.trans lt).trans lt')
              refine ⟨t', wipeE env vs, d, env2, rfl, ot', re'.wipe vs, rx, ha, fun σ' rs' len' out' => ⟨wipe_eq (by rw [len', wipe_length]) fun j hj => out' j fun z => ?_, ?_⟩⟩
              · have := List.all_eq_true.mp h5 j z
                rw [decide_eq_true_eq, ← hvs] at this
                exact hj this
              · refine ⟨t', env2, rfl, ot', rs', ?_⟩
                cases r : evt (cf Fs n) cond env2 t'.st with
                | err => simp only [r, bind_err] at qt; exact qt.elim
                | exc z zz => simp only [r, bind_exc] at qt; exact qt.elim
                | ok b st3 =>
                  simp only [r, bind_ok] at qt
                  intro t3 e3 o3 l3
                  have lt3 := (lt.trans lt').trans l3
                  cases b with
                  | false =>
                    simp only [Bool.false_eq_true, if_false] at qt ⊢
                    exact ⟨t3, rfl, o3, lt3, by rw [e3]; exact qt⟩
                  | true =>
                    simp only [if_true] at qt ⊢
                    refine ⟨t3, env2, rfl, o3, rs'.le ot' l3, ?_⟩
                    rw [e3]
                    cases r2 : ev (cf Fs n) elt env2 st3 with
                    | err => simp only [r2, bind_err] at qt; exact qt.elim
                    | exc z zz => simp only [r2, bind_exc] at qt; exact qt.elim
                    | ok y st4 =>
                      simp only [r2, bind_ok] at qt
                      intro t4 e4 o4 l4 v hv
                      rw [← e4] at qt
                      have lt4 := lt3.trans l4
                      split at qt
                      · rename_i acc hacc
                        split at qt
                        · rename_i hz
                          obtain ⟨us, c1, c2⟩ := o4.cell _ _ D hacc (lt4.pre _ _ rD)
                          refine ⟨us, c1, by rw [← c2.length]; exact hz.2, t4.chg s1.st.length D (acc ++ [y]) (us ++ [v]), rfl, Sit.chg_ok o4 hacc (lt4.pre _ _ rD) (c2.snoc (hv.rd hz.1)), lt4.trans (Sit.chg_le o4 hacc (lt4.pre _ _ rD)), qt⟩
                        · exact qt.elim
                      · exact qt.elim
        · have ei : i = xs.length := by omega
          subst ei
          refine .inl ⟨wk.2.1 _ t (lD.trans lt) ot (Nat.le_refl _), ?_⟩
          rw [List.drop_length] at qt
          have qt : Post X.K cA s1 σ W (compEnd m s1.st.length t.st) (PQ X.K Q) := qt
          exact cut_post o1 ot (lD.trans lt) (.ref (lt.pre _ _ rD)) qt

structure CompP (Fs : List Fn) (cA : Nat → Option Addr) (n : Nat) (X : Cx) (W : WX) (src tg cond elt : T) (own : List (Str × Nat)) (e' tg' iter : Expr) (ifs : List Expr) (scope : Scope) : Prop where
  pi : PI X tg' iter (tI X.K cA (cf Fs n) W src)
  hpl : pl iter = true
  blk : BlkOk X.N X.env.scope scope own
  pg : ∀ (s : Shared) (H : Hp) (C : Addr) (cl : List (Str × Addr)) (fp : List Addr), PG (X.blk s H scope (compEnvC scope cl C X.env) fp) tg' (gN X.K tg)
  pc : ∀ (s : Shared) (H : Hp) (C : Addr) (cl : List (Str × Addr)) (fp : List Addr), PTs (X.blk s H scope (compEnvC scope cl C X.env) fp) ifs (tC' X.K cA (cf Fs n) W0 cond)
  pt : ∀ (s : Shared) (H : Hp) (C : Addr) (cl : List (Str × Addr)) (fp : List Addr), PE (X.blk s H scope (compEnvC scope cl C X.env) fp) e' (tE X.K cA (cf Fs n) W0 elt)
  sl : (slots tg).all (fun i => decide (i ∈ own.map (·.2))) = true
theorem comp_parts (g : Cg Fs cA n X W) (m : Bool) {src tg cond elt : T} (own : List (Str × Nat)) (ps : Pe Fs cA src n X W) (pc : ∀ X' W', Cg Fs cA n X' W' → Pe Fs cA cond n X' W') (pt : ∀ X' W', Cg Fs cA n X' W' → Pe Fs cA elt n X' W')
    {ex : Expr} (h : chkE X.N Fs X.env.scope (.comp m src tg own cond elt) ex = true) : ∃ e' tg' iter ifs scope p, ex = .ListComp e' [⟨tg', iter, ifs, 0⟩] scope p ∧ CompP Fs cA n X W src tg cond elt own e' tg' iter ifs scope := by
  cases ex with
  | ListComp e' gs scope p =>
    match gs, h with
    | [⟨tg', iter, ifs, k⟩], h =>
      have h : (decide (k = 0) && chkW X.N Fs X.env.scope src iter && blkC X.N X.env.scope scope own && chkN X.N scope tg tg' && (slots tg).all (fun i => decide (i ∈ own.map (·.2))) && chkC X.N Fs (relS scope X.env.scope) cond ifs && chkE X.N Fs (relS scope X.env.scope) elt e' && tgOk src tg') = true := h
      rw [Bool.and_eq_true, Bool.and_eq_true, Bool.and_eq_true, Bool.and_eq_true, Bool.and_eq_true, Bool.and_eq_true, Bool.and_eq_true, decide_eq_true_eq] at h
      obtain ⟨⟨⟨⟨⟨⟨⟨h1, h2⟩, h3⟩, h4⟩, h5⟩, h6⟩, h7⟩, h8⟩ := h
      subst h1
      obtain ⟨pi, hpl⟩ := ps.i tg' iter h2 h8
      exact ⟨e', tg', iter, ifs, scope, p, rfl, pi, hpl, blkOk_by h3, fun _ _ _ _ _ => pg_blk g.nd g.calm h4, fun s H C cl fp => (pc _ W0 (g.blk s H scope _ fp)).c ifs h6, fun s H C cl fp => (pt _ W0 (g.blk s H scope _ fp)).e e' h7, h5⟩
  | _ => cases h
theorem p_comp (g : Cg Fs cA n X W) (m : Bool) {src tg cond elt : T} (own : List (Str × Nat)) (ps : Pe Fs cA src n X W) (pc : ∀ X' W', Cg Fs cA n X' W' → Pe Fs cA cond n X' W') (pt : ∀ X' W', Cg Fs cA n X' W' → Pe Fs cA elt n X' W') :
    Pe Fs cA (.comp m src tg own cond elt) n X W := .ofV rfl fun ex h => by
  obtain ⟨e', tg', iter, ifs, scope, p, rfl, c⟩ := comp_parts g m own ps pc pt h
  exact ⟨PE.imp (pe_lc g.calm g.nd c.pi c.blk c.pg c.pc c.pt (fold_pl c.hpl)) (comp_imp m own c.sl), rfl⟩

theorem p_dead {t : T} (z : ∀ {N : List Str} {sc : Scope} ex, chkE N Fs sc t ex = false) (hx : isX t = true) : Pe Fs cA t n X W :=
  .of hx (fun ex h => by rw [z] at h; cases h) fun ex h => by rw [z] at h; cases h
theorem p_all : ∀ (t : T) (n : Nat) (X : Cx) (W : WX), Cg Fs cA n X W → Pe Fs cA t n X W := by
  intro t
  induction t with
  | var i => intro n X W g; exact p_var i
  | con d => intro n X W g; exact p_con d
  | gi f i => intro n X W g; exact p_gi g f i
  | bin m op a b ia ib => intro n X W g; exact p_bin m op (ia n X W g) (ib n X W g)
  | neg a ia => intro n X W g; exact p_neg (ia n X W g)
  | cmp op a b ia ib => intro n X W g; exact p_cmp g op (ia n X W g) (ib n X W g)
  | cmp2 op op' a b c ia ib ic => intro n X W g; exact p_cmp2 g op op' (ia n X W g) (ib n X W g) (ic n X W g)
  | bop o es ie => intro n X W g; exact p_bop o (ie n X W g)
  | nt a ia => intro n X W g; exact p_nt (ia n X W g)
  | ite c a b ic ia ib => intro n X W g; exact p_ite (ic n X W g) (ia n X W g) (ib n X W g)
  | tup es ie => intro n X W g; exact p_tup (ie n X W g)
  | lst m es ie => intro n X W g; exact p_lst m (ie n X W g)
  | dct1 a b ia ib => intro n X W g; exact p_dct1 (ia n X W g) (ib n X W g)
  | sub a b ia ib => intro n X W g; exact p_sub (ia n X W g) (ib n X W g)
  | slc m a lo hi ia il ih => intro n X W g; exact p_slc m (ia n X W g) (il n X W g) (ih n X W g)
  | call f m es ie => intro n X W g; exact p_call g f m (ie n X W g)
  | blt b m es ie => intro n X W g; exact p_blt g b m (ie n X W g)
  | isi a ty ia => intro n X W g; exact p_isi g ty (ia n X W g)
  | comp m src tg own cond elt is _ ic ie => intro n X W g; exact p_comp g m own (is n X W g) (fun X' W' g' => ic n X' W' g') fun X' W' g' => ie n X' W' g'
  | frz a ia => intro n X W g; exact p_frz (ia n X W g)
  | isi2 a ty ty' ia => intro n X W g; exact p_isi2 g ty ty' (ia n X W g)
  | suq m a ia => intro n X W g; exact p_suq g m (ia n X W g)
  | mmd b a ia => intro n X W g; exact p_mmd g b (ia n X W g)
  | cmp4 op op' op'' a b c d ia ib ic id => intro n X W g; exact p_cmp4 g op op' op'' (ia n X W g) (ib n X W g) (ic n X W g) (id n X W g)
  | lrng m a ia => intro n X W g; exact p_lrng g m (ia n X W g)
  | rev m a ia => intro n X W g; exact p_rev m (ia n X W g)
  | mth k a es ia ie => intro n X W g; exact p_mth k (ia n X W g) (ie n X W g)
  | nil => intro n X W g; exact p_nil
  | cons e es ie is => intro n X W g; exact p_cons (ie n X W g) (is n X W g)
  | no => intro n X W g; exact p_no
  | so e ie => intro n X W g; exact p_so (ie n X W g)
  | sit e ie => intro n X W g; exact p_sit (ie n X W g)
  | srng k e ie => intro n X W g; exact p_srng g k (ie n X W g)
  | senum e ie => intro n X W g; exact p_senum g (ie n X W g)
  | srev e ie => intro n X W g; exact p_srev g (ie n X W g)
  | szip a b ia ib => intro n X W g; exact p_szip g (ia n X W g) (ib n X W g)
  | _ => intro n X W g; exact p_dead (fun ex => by cases ex <;> rfl) rfl
end
end Zn

/-! Zn, part B: statements. -/
namespace Zn
open PySem PySem.Spec PyProof.Rows L2
section
variable {K : PySem.W.Frag} {cA : Nat → Option Addr} {s s' : Sit} {W : WX}
def PostS (K : PySem.W.Frag) (cA : Nat → Option Addr) (s : Sit) (W : WX) (r : SRes) (D : Ends) : Prop :=
  match r with
  | .nx env st => ∀ s' σ', s'.st = st → s'.Ok K → s.Le s' → RE K s' env σ' → D.nx σ' s'.H
  | .bk env st => ∀ s' σ', s'.st = st → s'.Ok K → s.Le s' → RE K s' env σ' → D.bk σ' s'.H
  | .ct env st => ∀ s' σ', s'.st = st → s'.Ok K → s.Le s' → RE K s' env σ' → D.ct σ' s'.H
  | .rt d st => ∀ s' v, s'.st = st → s'.Ok K → s.Le s' → Rep K s' d v → D.rt v s'.H
  | .exc x env st => ∀ s' σ' cls dd, s'.st = st → s'.Ok K → s.Le s' → RE K s' env σ' → RX K cA s' x cls dd → W cls dd σ' s'.H
  | .err => False
theorem PostS.le {r : SRes} {D : Ends} (e : s.Le s') (h : PostS K cA s W r D) : PostS K cA s' W r D := by
  cases r with
  | nx env st => exact fun t σ h1 h2 h3 h4 => h t σ h1 h2 (e.trans h3) h4
  | bk env st => exact fun t σ h1 h2 h3 h4 => h t σ h1 h2 (e.trans h3) h4
  | ct env st => exact fun t σ h1 h2 h3 h4 => h t σ h1 h2 (e.trans h3) h4
  | rt d st => exact fun t v h1 h2 h3 h4 => h t v h1 h2 (e.trans h3) h4
  | exc x env st => exact fun t σ c d h1 h2 h3 h4 h5 => h t σ c d h1 h2 (e.trans h3) h4 h5
  | err => exact h
/-- an expression ahead of a statement's rest -/
theorem PostS.split {α : Type} {r : Res α} {env : Env} {σ : L2.St} {k : α → Store → SRes} {D : Ends} (ok : s.Ok K) (re : RE K s env σ) (h : PostS K cA s W (r.thenS env k) D) :
    Post K cA s σ W r fun a s1 => PostS K cA s1 W (k a s1.st) D := by
  cases r with
  | ok a st =>
    intro t h1 h2 h3
    have h : PostS K cA s W (k a st) D := h
    rw [← h1] at h
    exact h.le h3
  | exc x st => exact fun t c d h1 h2 h3 h4 => h t σ c d h1 h2 h3 (re.le ok h3) h4
  | err => exact h
def tS (K : PySem.W.Frag) (cA : Nat → Option Addr) (F : CallF) (W : WX) (t : T) : TS := fun D σ H => ∃ s env, s.H = H ∧ s.Ok K ∧ RE K s env σ ∧ PostS K cA s W (ex F t env s.st) D
def tG (K : PySem.W.Frag) (cA : Nat → Option Addr) (F : CallF) (tg : T) : TG := fun v σ H Q => ∃ s env d env' st', s.H = H ∧ s.Ok K ∧ RE K s env σ ∧ Rep K s d v ∧ asg F tg d env s.st = some (env', st') ∧
  ∀ s' σ', s'.st = st' → s'.Ok K → s.Le s' → RE K s' env' σ' → Q σ' s'.H
def tGs (K : PySem.W.Frag) (cA : Nat → Option Addr) (F : CallF) (tg : T) : TGs := fun vs σ H Q => ∃ s env ds env' st', s.H = H ∧ s.Ok K ∧ RE K s env σ ∧ Reps K s ds vs ∧ asg.asgs F tg ds env s.st = some (env', st') ∧
  ∀ s' σ', s'.st = st' → s'.Ok K → s.Le s' → RE K s' env' σ' → Q σ' s'.H
end

structure Cs (Fs : List Fn) (cA : Nat → Option Addr) (n : Nat) (X : Cx) (W : WX) : Prop extends Cg Fs cA n X W where
  own : PassesOwn (model X.prog X.w) X.A X.env X.xe
  fnT : ∀ x, X.fn x = true
  stk : X.stack = X.env :: X.outer
  frm : X.env.frame = some X.env.locals
section
variable {Fs : List Fn} {cA : Nat → Option Addr} {n : Nat} {X : Cx} {W : WX}

theorem g_tnm (g : Cs Fs cA n X W) {i : Nat} {e : Expr} (h : chkG X.N Fs X.env.scope (.tnm i) e = true) : PG X e (tG X.K cA (cf Fs n) (.tnm i)) := by
  cases e with
  | Name x p =>
    have h : (decide (X.N[i]? = some x) && wrB X.env.scope x) = true := h
    rw [Bool.and_eq_true, decide_eq_true_eq] at h
    refine PG.imp (pg_name g.nd h.1 (wrB_ok h.2) (.inl (g.fnT x))) fun v σ H Q hw => ?_
    obtain ⟨s, env, d, env', st', rfl, ok, re, rp, ha, q⟩ := hw
    have ha : (if i < env.length then some (env.set i (some d), s.st) else none) = some (env', st') := ha
    split at ha
    · cases ha
      exact q s _ rfl ok (Sit.Le.refl _) (re.set rp)
    · cases ha
  | _ => cases h
theorem ix_assign {l r : Expr} {p : Pos} {env : PySem.Env} (h : pl r = true) : ∀ v, assign (.Subscript l r p) env v = (do
      let ov ← holding [v] (eval l env)
      let iv ← holding [v, ov] (eval r env)
      standAt p
      holding [v, ov, iv] (setItem ov iv v)
      release [v, ov, iv] []) := by
  intro v
  cases r <;> first | rfl | cases h
theorem g_tix (g : Cs Fs cA n X W) {a i : T} (pa : Pe Fs cA a n X W) (pi : Pe Fs cA i n X W) {e : Expr} (h : chkG X.N Fs X.env.scope (.tix a i) e = true) : PG X e (tG X.K cA (cf Fs n) (.tix a i)) := by
  cases e with
  | Subscript l r p =>
    have h : (chkE X.N Fs X.env.scope a l && chkE X.N Fs X.env.scope i r && pl r) = true := h
    rw [Bool.and_eq_true, Bool.and_eq_true] at h
    obtain ⟨⟨h1, h2⟩, h3⟩ := h
    refine PG.imp (pg_sub (pa.e l h1) (pi.e r h2) set_list (ix_assign h3)) fun v σ H Q hw => ?_
    obtain ⟨s, env, d, env', st', rfl, ok, re, rp, ha, q⟩ := hw
    have ha : (match ev (cf Fs n) a env s.st with
      | .ok x st1 => match ev (cf Fs n) i env st1 with
        | .ok y st2 => (setF x y d st2).map fun st3 => (env, st3)
        | _ => none
      | _ => none) = some (env', st') := ha
    split at ha
    · rename_i x st1 r1
      split at ha
      · rename_i y st2 r2
        obtain ⟨st3, e3, e4⟩ := Option.map_eq_some_iff.mp ha
        cases e4
        refine ⟨s, env, rfl, ok, re, ?_⟩
        rw [r1]
        intro s1 q1 o1 l1 u ru
        refine ⟨s1, env, rfl, o1, re.le ok l1, ?_⟩
        rw [q1, r2]
        intro s2 q2 o2 l2 w rw'
        rw [← q2] at e3
        unfold setF at e3
        split at e3
        · rename_i l k
          split at e3
          · rename_i xs hc
            split at e3
            · rename_i j hj
              split at e3
              · rename_i hr
                cases e3
                cases rep_int rw'
                cases ru with
                | ref hru =>
                  rename_i ad
                  have hra := l2.pre _ _ hru
                  obtain ⟨vs, c1, c2⟩ := o2.cell _ _ _ hc hra
                  have rd := ((rp.le ok l1).le o1 l2).rd hr
                  refine ⟨ad, vs, k, j, rfl, rfl, c1, by rw [← c2.length]; exact hj, ?_⟩
                  have o3 := Sit.chg_ok o2 hc hra (RDs.set rd j c2)
                  have l3 := Sit.chg_le o2 (xs := xs.set j d) (vs := vs.set j v) hc hra
                  exact q (s2.chg l ad (xs.set j d) (vs.set j v)) σ rfl o3 ((l1.trans l2).trans l3) (((re.le ok l1).le o1 l2).le o2 l3)
                | dat ru => cases ru
              · cases e3
            · cases e3
          · cases e3
        · cases e3
      · cases ha
    · cases ha
  | _ => cases h

theorem pg_tl {X : Cx} {pos : Pos} {es : List Expr} {k : Nat} {t : TGs} {n : Nat} (hc : X.calm = true) (h : PGs X es t)
    (hn : (assignEach es X.env).length = n) (hst : (assignEach es X.env).findIdx? (·.1) = none) : PG X (.Tuple es k pos) (fun v σ H Q => gTup X.K n t v σ H Q ∨ gUnl X.K n t v σ H Q) :=
  ⟨fun pins s σ H v u Q I r hw => hw.elim (fun hw => (pg_tup (k := k) (pos := pos) hc h hn hst).run pins s σ H v u Q I r hw) (fun hw => (pg_unl (k := k) (pos := pos) hc h hn hst).run pins s σ H v u Q I r hw)⟩
theorem g_all (g : Cs Fs cA n X W) : ∀ (tg : T), (∀ e, chkG X.N Fs X.env.scope tg e = true → PG X e (tG X.K cA (cf Fs n) tg) ∧ ∀ es, assignEach (e :: es) X.env = (false, assign e X.env) :: assignEach es X.env) ∧
    (∀ es, chkG.chkGs X.N Fs X.env.scope tg es = true → PGs X es (tGs X.K cA (cf Fs n) tg) ∧ (assignEach es X.env).findIdx? (·.1) = none ∧ (assignEach es X.env).length = es.length) := by
  intro tg
  induction tg with
  | tnm i =>
    refine ⟨fun e h => ⟨g_tnm g h, ?_⟩, fun es h => by cases es <;> cases h⟩
    cases e with
    | Name x p => exact fun _ => rfl
    | _ => cases h
  | tix a i _ _ =>
    refine ⟨fun e h => ⟨g_tix g (p_all a n X W g.toCg) (p_all i n X W g.toCg) h, ?_⟩, fun es h => by cases es <;> cases h⟩
    cases e with
    | Subscript l r p => exact fun _ => rfl
    | _ => cases h
  | ttp ts ih =>
    refine ⟨fun e h => ?_, fun es h => by cases es <;> cases h⟩
    cases e with
    | Tuple es k p =>
      obtain ⟨p1, p2, p3⟩ := ih.2 es h
      refine ⟨PG.imp (pg_tl (k := k) (pos := p) (n := es.length) g.calm p1 p3 p2) fun v σ H Q hw => ?_, fun _ => rfl⟩
      obtain ⟨s, env, d, env', st', rfl, ok, re, rp, ha, q⟩ := hw
      have lens : ∀ (ts : T) (es : List Expr) (xs : List D) (env : Env) (st : Store), chkG.chkGs X.N Fs X.env.scope ts es = true → asg.asgs (cf Fs n) ts xs env st = some (env', st') → xs.length = es.length := by
        intro ts
        induction ts with
        | nil =>
          intro es xs env st h1 h2
          cases es with
          | nil => cases xs with
            | nil => rfl
            | cons _ _ => cases h2
          | cons _ _ => cases h1
        | cons t ts _ ih =>
          intro es xs env st h1 h2
          cases es with
          | nil => cases h1
          | cons e es =>
            have h1 : (chkG X.N Fs X.env.scope t e && chkG.chkGs X.N Fs X.env.scope ts es) = true := h1
            rw [Bool.and_eq_true] at h1
            cases xs with
            | nil => cases h2
            | cons x xs =>
              have h2 : (match asg (cf Fs n) t x env st with
                | some (env1, st1) => asg.asgs (cf Fs n) ts xs env1 st1
                | none => none) = some (env', st') := h2
              split at h2
              · rw [List.length_cons, List.length_cons, ih es xs _ _ h1.2 h2]
              · cases h2
        | _ => intro es xs env st h1; cases es <;> cases h1
      cases d with
      | tup xs =>
        obtain ⟨a, vs, rfl, hq, rv⟩ := rep_tup rp
        exact .inl ⟨a, vs, rfl, hq, by rw [← rv.length]; exact lens ts es xs env _ h ha, s, env, xs, env', st', rfl, ok, re, rv.reps, ha, q⟩
      | lst xs =>
        obtain ⟨a, vs, rfl, hq, rv⟩ := lstOf_ok ok rp (show lstOf s.st (.lst xs) = some xs from rfl)
        exact .inr ⟨a, vs, rfl, SqL.of hq, by rw [← rv.length]; exact lens ts es xs env _ h ha, s, env, xs, env', st', rfl, ok, re, rv.reps, ha, q⟩
      | _ => cases ha
    | _ => cases h
  | nil =>
    refine ⟨fun e h => (by cases e <;> cases h), fun es h => ?_⟩
    cases es with
    | nil =>
      refine ⟨PGs.imp pgs_nil fun vs σ H Q hw => ?_, rfl, rfl⟩
      obtain ⟨s, env, ds, env', st', rfl, ok, re, rp, ha, q⟩ := hw
      cases ds with
      | nil =>
        cases rp
        cases ha
        exact ⟨rfl, q s σ rfl ok (Sit.Le.refl _) re⟩
      | cons d ds => cases ha
    | cons e es => cases h
  | cons t ts iht ihs =>
    refine ⟨fun e h => (by cases e <;> cases h), fun es h => ?_⟩
    cases es with
    | nil => cases h
    | cons e es =>
      have h : (chkG X.N Fs X.env.scope t e && chkG.chkGs X.N Fs X.env.scope ts es) = true := h
      rw [Bool.and_eq_true] at h
      obtain ⟨p1, p2⟩ := iht.1 e h.1
      obtain ⟨q1, q2, q3⟩ := ihs.2 es h.2
      refine ⟨PGs.imp (pgs_cons p1 q1 (by rw [p2 es]; rfl)) fun vs σ H Q hw => ?_, ?_, ?_⟩
      · obtain ⟨s, env, ds, env', st', rfl, ok, re, rp, ha, q⟩ := hw
        cases ds with
        | nil => cases ha
        | cons d ds =>
          cases rp with
          | cons r1 r2 =>
            rename_i v vs
            have ha : (match asg (cf Fs n) t d env s.st with
              | some (env1, st1) => asg.asgs (cf Fs n) ts ds env1 st1
              | none => none) = some (env', st') := ha
            split at ha
            · rename_i env1 st1 e1
              exact ⟨v, vs, rfl, s, env, d, env1, st1, rfl, ok, re, r1, e1, fun s1 σ1 a1 o1 l1 re1 => ⟨s1, env1, ds, env', st', rfl, o1, re1, Reps.le ok l1 r2, by rw [a1]; exact ha, fun s2 σ2 a2 o2 l2 re2 => q s2 σ2 a2 o2 (l1.trans l2) re2⟩⟩
            · cases ha
      · rw [p2 es, List.findIdx?_cons]
        simp only [Bool.false_eq_true, if_false]
        rw [q2]
        rfl
      · rw [p2 es, List.length_cons, q3, List.length_cons]
  | _ => exact ⟨fun e h => (by cases e <;> cases h), fun es h => (by cases es <;> cases h)⟩

theorem forL_cons (body : D → Env → Store → SRes) (x : D) (xs : List D) (env : Env) (st : Store) : forL body (x :: xs) env st = match body x env st with
    | .nx env' st' => forL body xs env' st'
    | .ct env' st' => forL body xs env' st'
    | .bk env' st' => .nx env' st'
    | r => r := rfl
def fbody (F : CallF) (tg b : T) : D → Env → Store → SRes := fun x env st => match asg F tg x env st with
  | some (env2, st2) => ex F b env2 st2
  | none => .err
/-- one turn of a loop -/
theorem turn_ok {K : PySem.W.Frag} {F : CallF} {tg b : T} {t' : Sit} {x : V} {d : D} {env : Env} {σ : L2.St} {Dn : Ends} {N : L2.St → Hp → Prop} {k : Env → Store → SRes} (ot : t'.Ok K) (re : RE K t' env σ) (rx : Rep K t' d x)
    (h : PostS K cA t' W (match fbody F tg b d env t'.st with
      | .nx env' st' => k env' st'
      | .ct env' st' => k env' st'
      | .bk env' st' => .nx env' st'
      | r => r) Dn) (hN : ∀ t2 env2 σ2, t2.Ok K → t'.Le t2 → RE K t2 env2 σ2 → PostS K cA t' W (k env2 t2.st) Dn → N σ2 t2.H) :
    tG K cA F tg x σ t'.H fun σ2 H2 => tS K cA F W b { Dn with nx := N, ct := N, bk := Dn.nx } σ2 H2 := by
  unfold fbody at h
  cases ha : asg F tg d env t'.st with
  | none => rw [ha] at h; exact h.elim
  | some p =>
    obtain ⟨env2, st2⟩ := p
    rw [ha] at h
    refine ⟨t', env, d, env2, st2, rfl, ot, re, rx, ha, fun s2 σ2 e2 o2 l2 re2 => ⟨s2, env2, rfl, o2, re2, ?_⟩⟩
    rw [e2]
    have h : PostS K cA t' W (match ex F b env2 st2 with
      | .nx env' st' => k env' st'
      | .ct env' st' => k env' st'
      | .bk env' st' => .nx env' st'
      | r => r) Dn := h
    cases r : ex F b env2 st2 with
    | nx env3 st3 =>
      rw [r] at h
      intro s3 σ3 e3 o3 l3 re3
      exact hN s3 env3 σ3 o3 (l2.trans l3) re3 (by rw [e3]; exact h)
    | ct env3 st3 =>
      rw [r] at h
      intro s3 σ3 e3 o3 l3 re3
      exact hN s3 env3 σ3 o3 (l2.trans l3) re3 (by rw [e3]; exact h)
    | bk env3 st3 => rw [r] at h; exact PostS.le (r := .bk env3 st3) (D := { Dn with nx := N, ct := N, bk := Dn.nx }) l2 h
    | rt d st3 => rw [r] at h; exact PostS.le (r := .rt d st3) (D := { Dn with nx := N, ct := N, bk := Dn.nx }) l2 h
    | exc z env3 st3 => rw [r] at h; exact PostS.le (r := .exc z env3 st3) (D := { Dn with nx := N, ct := N, bk := Dn.nx }) l2 h
    | err => rw [r] at h; exact h.elim
theorem forR_succ (body : D → Env → Store → SRes) (l n i : Nat) (env : Env) (st : Store) : forR body l (n + 1) i env st = match lstOf st (.ref l) with
    | none => .err
    | some xs => match xs[i]? with
      | none => .nx env st
      | some x => match body x env st with
        | .nx env' st' => forR body l n (i + 1) env' st'
        | .ct env' st' => forR body l n (i + 1) env' st'
        | .bk env' st' => .nx env' st'
        | r => r := rfl
theorem forZ_succ (body : D → Env → Store → SRes) (xs : List D) (l n i : Nat) (env : Env) (st : Store) : forZ body xs l (n + 1) i env st = match lstOf st (.ref l) with
    | none => .err
    | some ys => if xs.length = ys.length then match xs[i]?, ys[i]? with
      | some x, some y => match body (.tup [x, y]) env st with
        | .nx env' st' => forZ body xs l n (i + 1) env' st'
        | .ct env' st' => forZ body xs l n (i + 1) env' st'
        | .bk env' st' => .nx env' st'
        | r => r
      | _, _ => .nx env st
    else .err := rfl
theorem s_for (g : Cs Fs cA n X W) {src tg b : T} {iter tg' : Expr} {l : List Stmt} {p : Pos} (h1 : chkW X.N Fs X.env.scope src iter = true) (h2 : chkG X.N Fs X.env.scope tg tg' = true) (hb : PSs X l (tS X.K cA (cf Fs n) W b)) (h8 : tgOk src tg' = true) :
    PS X (.For tg' iter l [] p) (tS X.K cA (cf Fs n) W (.sfor src tg b)) := by
  obtain ⟨pi, hpl⟩ := (p_all src n X W g.toCg).i tg' iter h1 h8
  refine PS.imp (ps_for g.own g.calm pi ((g_all g tg).1 tg' h2).1 hb (fold_pl hpl)) fun Dn σ H ⟨s, env, e, ok, re, q⟩ => ?_
  subst e
  have q0 : PostS X.K cA s W ((evw (cf Fs n) src env s.st).thenS env fun w st1 => match w with
    | .fix xs => forL (fbody (cf Fs n) tg b) xs env st1
    | .live l => forR (fbody (cf Fs n) tg b) l fuel 0 env st1
    | .zp xs l => forZ (fbody (cf Fs n) tg b) xs l fuel 0 env st1) Dn := q
  refine ⟨s, env, rfl, ok, re, (q0.split ok re).mono fun w s1 o1 l1 q1 J wk => ?_⟩
  have re1 := re.le ok l1
  cases w with
  | zp zs lc =>
    refine ⟨fun i m σ H => ∃ t env, t.H = H ∧ t.Ok X.K ∧ s1.Le t ∧ RE X.K t env σ ∧ PostS X.K cA t W (forZ (fbody (cf Fs n) tg b) zs lc m i env t.st) Dn,
      ⟨fuel, s1, env, rfl, o1, Sit.Le.refl _, re1, q1⟩, ?_⟩
    rintro i m σ H ⟨t, env, rfl, ot, lt, ret, qt⟩
    cases m with
    | zero => exact qt.elim
    | succ m =>
      rw [forZ_succ] at qt
      cases hx : lstOf t.st (.ref lc) with
      | none => rw [hx] at qt; exact qt.elim
      | some ys =>
        rw [hx] at qt
        by_cases he : zs.length = ys.length
        · simp only [if_pos he] at qt
          obtain ⟨w1, w2, w3⟩ := wk i t ys lt ot hx he
          cases hd : zs[i]? with
          | none =>
            simp only [hd] at qt
            exact .inl ⟨w2 (List.getElem?_eq_none_iff.mp hd), qt t σ rfl ot (Sit.Le.refl _) ret⟩
          | some d =>
            have hi := (List.getElem?_eq_some_iff.mp hd).1
            have hde : ys[i]? = some ys[i] := List.getElem?_eq_getElem (by omega)
            simp only [hd, hde] at qt
            refine .inr ⟨w1 hi, fun σ H => ∃ t env, t.H = H ∧ t.Ok X.K ∧ s1.Le t ∧ RE X.K t env σ ∧ PostS X.K cA t W (forZ (fbody (cf Fs n) tg b) zs lc m (i + 1) env t.st) Dn, ?_, fun x H' y => ?_⟩
            · rintro σ' H' ⟨t2, env2, e2, o2, l2, re2, q2⟩
              exact ⟨m, Nat.lt_succ_self m, t2, env2, e2, o2, l2, re2, q2⟩
            · obtain ⟨t', rfl, est, ot', lt', rx⟩ := w3 x H' d _ hd hde y
              rw [← est] at qt
              exact turn_ok ot' (ret.le ot lt') rx (qt.le lt') fun t2 env2 σ2 o2 l2 re2 q2 => ⟨t2, env2, rfl, o2, (lt.trans lt').trans l2, re2, q2.le l2⟩
        · simp only [if_neg he] at qt
          exact qt.elim
  | fix xs =>
    refine ⟨fun i m σ H => ∃ t env, t.H = H ∧ t.Ok X.K ∧ s1.Le t ∧ RE X.K t env σ ∧ m = xs.length - i ∧ i ≤ xs.length ∧ PostS X.K cA t W (forL (fbody (cf Fs n) tg b) (xs.drop i) env t.st) Dn,
      ⟨xs.length, s1, env, rfl, o1, Sit.Le.refl _, re1, rfl, Nat.zero_le _, q1⟩, ?_⟩
    rintro i m σ H ⟨t, env, rfl, ot, lt, ret, rfl, hi, qt⟩
    by_cases hlt : i < xs.length
    · refine .inr ⟨wk.1 i t lt ot hlt, fun σ H => ∃ t env, t.H = H ∧ t.Ok X.K ∧ s1.Le t ∧ RE X.K t env σ ∧ PostS X.K cA t W (forL (fbody (cf Fs n) tg b) (xs.drop (i + 1)) env t.st) Dn, ?_, fun x H' y => ?_⟩
      · rintro σ' H' ⟨t2, env2, e2, o2, l2, re2, q2⟩
        exact ⟨xs.length - (i + 1), by omega, t2, env2, e2, o2, l2, re2, rfl, hlt, q2⟩
      · obtain ⟨t', rfl, est, ot', lt', rx⟩ := wk.2.2 i t x H' xs[i] lt ot (List.getElem?_eq_getElem hlt) y
        rw [List.drop_eq_getElem_cons hlt, forL_cons, ← est] at qt
        exact turn_ok ot' (ret.le ot lt') rx (qt.le lt') fun t2 env2 σ2 o2 l2 re2 q2 => ⟨t2, env2, rfl, o2, (lt.trans lt').trans l2, re2, q2.le l2⟩
    · have ei : i = xs.length := by omega
      subst ei
      rw [List.drop_length] at qt
      have qt : PostS X.K cA t W (.nx env t.st) Dn := qt
      exact .inl ⟨wk.2.1 _ t lt ot (Nat.le_refl _), qt t σ rfl ot (Sit.Le.refl _) ret⟩
  | live lc =>
    refine ⟨fun i m σ H => ∃ t env, t.H = H ∧ t.Ok X.K ∧ s1.Le t ∧ RE X.K t env σ ∧ PostS X.K cA t W (forR (fbody (cf Fs n) tg b) lc m i env t.st) Dn,
      ⟨fuel, s1, env, rfl, o1, Sit.Le.refl _, re1, q1⟩, ?_⟩
    rintro i m σ H ⟨t, env, rfl, ot, lt, ret, qt⟩
    cases m with
    | zero => exact qt.elim
    | succ m =>
      rw [forR_succ] at qt
      cases hx : lstOf t.st (.ref lc) with
      | none => rw [hx] at qt; exact qt.elim
      | some xs =>
        rw [hx] at qt
        obtain ⟨w1, w2, w3⟩ := wk i t xs lt ot hx
        cases hd : xs[i]? with
        | none =>
          simp only [hd] at qt
          exact .inl ⟨w2 (List.getElem?_eq_none_iff.mp hd), qt t σ rfl ot (Sit.Le.refl _) ret⟩
        | some d =>
          simp only [hd] at qt
          refine .inr ⟨w1 (List.getElem?_eq_some_iff.mp hd).1, fun σ H => ∃ t env, t.H = H ∧ t.Ok X.K ∧ s1.Le t ∧ RE X.K t env σ ∧ PostS X.K cA t W (forR (fbody (cf Fs n) tg b) lc m (i + 1) env t.st) Dn, ?_, fun x H' y => ?_⟩
          · rintro σ' H' ⟨t2, env2, e2, o2, l2, re2, q2⟩
            exact ⟨m, Nat.lt_succ_self m, t2, env2, e2, o2, l2, re2, q2⟩
          · obtain ⟨rfl, rx⟩ := w3 x H' d hd y
            exact turn_ok ot ret rx qt fun t2 env2 σ2 o2 l2 re2 q2 => ⟨t2, env2, rfl, o2, lt.trans l2, re2, q2.le l2⟩
theorem s_while (g : Cs Fs cA n X W) {c b : T} {e : Expr} {l : List Stmt} {p : Pos} (h1 : chkE X.N Fs X.env.scope c e = true) (h2 : tst c = true) (hb : PSs X l (tS X.K cA (cf Fs n) W b)) : PS X (.While e l [] p) (tS X.K cA (cf Fs n) W (.swhile c b)) := by
  refine PS.imp (ps_while g.own ((p_all c n X W g.toCg).t e h1 h2) hb) fun Dn σ H ⟨s, env, e, ok, re, q⟩ => ?_
  subst e
  refine ⟨fun m σ H => ∃ t env, t.H = H ∧ t.Ok X.K ∧ RE X.K t env σ ∧ PostS X.K cA t W (whileL (ev (cf Fs n) c) (ex (cf Fs n) b) m env t.st) Dn, ⟨fuel, s, env, rfl, ok, re, q⟩, ?_⟩
  rintro m σ H ⟨t, env, rfl, ot, ret, qt⟩
  cases m with
  | zero => exact qt.elim
  | succ m =>
    have qt : PostS X.K cA t W ((ev (cf Fs n) c env t.st).thenS env fun x st1 => match x with
      | .bl true => match ex (cf Fs n) b env st1 with
        | .nx env' st' => whileL (ev (cf Fs n) c) (ex (cf Fs n) b) m env' st'
        | .ct env' st' => whileL (ev (cf Fs n) c) (ex (cf Fs n) b) m env' st'
        | .bk env' st' => .nx env' st'
        | r => r
      | .bl false => .nx env st1
      | _ => .err) Dn := qt
    refine ⟨t, env, rfl, ot, ret, (qt.split ot ret).mono fun d s1 o1 l1 q1 => ?_⟩
    have re1 := ret.le ot l1
    cases d with
    | bl bb =>
      refine ⟨bb, rfl, ?_⟩
      cases bb with
      | true =>
        rw [if_pos rfl]
        have q1 : PostS X.K cA s1 W (match ex (cf Fs n) b env s1.st with
          | .nx env' st' => whileL (ev (cf Fs n) c) (ex (cf Fs n) b) m env' st'
          | .ct env' st' => whileL (ev (cf Fs n) c) (ex (cf Fs n) b) m env' st'
          | .bk env' st' => .nx env' st'
          | r => r) Dn := q1
        refine ⟨fun σ H => ∃ t env, t.H = H ∧ t.Ok X.K ∧ RE X.K t env σ ∧ PostS X.K cA t W (whileL (ev (cf Fs n) c) (ex (cf Fs n) b) m env t.st) Dn, fun σ' H' ⟨t2, env2, e2, o2, re2, q2⟩ => ⟨m, Nat.lt_succ_self m, t2, env2, e2, o2, re2, q2⟩, s1, env, rfl, o1, re1, ?_⟩
        cases r : ex (cf Fs n) b env s1.st with
        | nx env3 st3 =>
          rw [r] at q1
          intro s3 σ3 e3 o3 l3 re3
          exact ⟨s3, env3, rfl, o3, re3, by rw [e3]; exact q1.le l3⟩
        | ct env3 st3 =>
          rw [r] at q1
          intro s3 σ3 e3 o3 l3 re3
          exact ⟨s3, env3, rfl, o3, re3, by rw [e3]; exact q1.le l3⟩
        | bk env3 st3 => rw [r] at q1; exact q1
        | rt d st3 => rw [r] at q1; exact q1
        | exc z env3 st3 => rw [r] at q1; exact q1
        | err => rw [r] at q1; exact q1.elim
      | false =>
        rw [if_neg Bool.false_ne_true]
        have q1 : PostS X.K cA s1 W (.nx env s1.st) Dn := q1
        exact q1 s1 σ rfl o1 (Sit.Le.refl _) re1
    | _ => exact q1.elim
end
end Zn

/-! Zn, part E: refusals raised and caught. -/
namespace Zn
open PySem PySem.Spec PyProof.Rows L2
section
variable {Fs : List Fn} {cA : Nat → Option Addr} {n : Nat} {X : Cx} {W : WX}

theorem s_raise (g : Cs Fs cA n X W) {c : Nat} {st : Stmt} (h : chkS X.N Fs X.env.scope (.sraise c) st = true) : PS X st (tS X.K cA (cf Fs n) W (.sraise c)) := by
  cases st with
  | Raise e fr p =>
    match e, fr, h with
    | some (.Call (.Name x p1) [.Constant (.str m) j p2] [] p3), none, h =>
      have h : (decide (cn c = x) && glB X.env.scope x && nmOk x && rzB Fs c) = true := h
      rw [Bool.and_eq_true, Bool.and_eq_true, Bool.and_eq_true, decide_eq_true_eq] at h
      obtain ⟨⟨⟨h1, h2⟩, h3⟩, h4⟩ := h
      subst h1
      obtain ⟨C, hC⟩ := g.rz c h4
      have E := g.ex c C hC
      refine PS.imp (ps_raise g.calm g.takes (pmk_own PySem.F.excBase_ValueError E.xP E.mg E.kP (raises_own E.bP E.tP) (glB_ok h2) (nmOk_ok h3).1)) fun D σ H ⟨s, env, eH, ok, re, q⟩ => ?_
      subst eH
      have q0 : PostS X.K cA s W (.exc ⟨c, none⟩ env s.st) D := q
      exact q0 s σ _ _ rfl ok (Sit.Le.refl _) re ⟨C, hC, rfl, rfl⟩
    | some (.Call (.Name x p1) [.Constant (.str m) j p2] [] p3), some _, h => cases h
  | _ => cases h

/-! ### the suite's expressions -/
def tH (K : PySem.W.Frag) (cA : Nat → Option Addr) (a : Addr) (i x : Nat) (e : T) : TE := fun σ H Q => ∃ s env, s.H = H ∧ s.Ok K ∧ RE K s env σ ∧ σ[i]? = some (some (.ref a)) ∧ Post K cA s σ W0 (hv x e env s.st) (PQ K Q)
def tHs (K : PySem.W.Frag) (cA : Nat → Option Addr) (a : Addr) (i x : Nat) (e : T) : TA := fun σ H Q => ∃ s env, s.H = H ∧ s.Ok K ∧ RE K s env σ ∧ σ[i]? = some (some (.ref a)) ∧ Post K cA s σ W0 (hvs x e env s.st) fun ds s' => ∀ vs, Reps K s' ds vs → Q vs s'.H
def PostH (K : PySem.W.Frag) (s : Sit) (a : Addr) (i : Nat) (r : SRes) (D : Ends) : Prop :=
  match r with
  | .nx env st => ∀ s' σ', s'.st = st → s'.Ok K → s.Le s' → RE K s' env σ' → σ'[i]? = some (some (.ref a)) → D.nx σ' s'.H
  | _ => False
def tX (K : PySem.W.Frag) (a : Addr) (i x : Nat) (t : T) : TS := fun D σ H => ∃ s env, s.H = H ∧ s.Ok K ∧ RE K s env σ ∧ σ[i]? = some (some (.ref a)) ∧ PostH K s a i (hs x t env s.st) D

theorem PA.imp' {X : Cx} {e : List Expr} {t t' : TA} (h : PA X e t) (i : ∀ σ H Q, t' σ H Q → t σ H Q) : PA X e t' := PA.imp h i
/-- the name of a class -/
theorem h_cls {Y : Cx} {C : Addr} {x : Nat} (E : ExR Y.K Y.mg C x) (hve : Y.mg "ValueError" = none) {c : Nat} {e : Expr} (h : chkC1 Y.env.scope c e = true) :
    ∃ v u, PE Y e (tC v) ∧ ClsV v u ∧ PySem.W.kitOne Y.K (.ref C) u = some (subC x c) ∧ pl e = true := by
  cases e with
  | Name z p =>
    have h : (decide (cn c = z) && glB Y.env.scope z && decide (c ≤ 7)) = true := h
    rw [Bool.and_eq_true, Bool.and_eq_true, decide_eq_true_eq, decide_eq_true_eq] at h
    obtain ⟨⟨h1, h2⟩, h3⟩ := h
    subst h1
    by_cases h7 : c < 7
    · obtain ⟨C', m, k, _⟩ := E.at_ c h7
      have hdb : (cn c == ("__debug__" : Str)) = false := by
        match c, h7 with
        | 0, _ => decide
        | 1, _ => decide
        | 2, _ => decide
        | 3, _ => decide
        | 4, _ => decide
        | 5, _ => decide
        | 6, _ => decide
        | c + 7, h => exact absurd h (by omega)
      exact ⟨.ref C', .ref C', pe_glob (glB_ok h2) m rfl hdb, .own C', k, rfl⟩
    · obtain rfl : c = 7 := by omega
      refine ⟨.ty "ValueError", .type "ValueError", pe_bltn (glB_ok h2) hve PyProof.Rows.Boot.«ValueError» rfl (by decide) (by decide), .ty _, ?_, rfl⟩
      rw [E.kV]
      simp [subC]
  | _ => cases h
theorem h_clss {Y : Cx} {C : Addr} {x : Nat} (E : ExR Y.K Y.mg C x) (hve : Y.mg "ValueError" = none) : ∀ (cs : List Nat) (es : List Expr), chkCs Y.env.scope cs es = true →
    ∃ vs us, PA Y es (fun _ H Q => Q vs H) ∧ Paired ClsV vs us ∧ PySem.W.kitAny Y.K (.ref C) us = some (cs.any (subC x)) ∧ (∀ e ∈ es, pl e = true) ∧ vs.length = cs.length
  | [], [], _ => ⟨[], [], pa_nil, .nil, rfl, (fun e he => by cases he), rfl⟩
  | c :: cs, e :: es, h => by
    have h : (chkC1 Y.env.scope c e && chkCs Y.env.scope cs es) = true := h
    rw [Bool.and_eq_true] at h
    obtain ⟨v, u, p1, k1, z1, q1⟩ := h_cls E hve h.1
    obtain ⟨vs, us, p2, k2, z2, q2, l2⟩ := h_clss E hve cs es h.2
    refine ⟨v :: vs, u :: us, pa_cons p1 p2 (star_pl q1), .cons k1 k2, ?_, fun y hy => ?_, by simp [l2]⟩
    · unfold PySem.W.kitAny
      rw [z1, List.any_cons]
      cases subC x c with
      | true => rfl
      | false => exact z2
    · rcases List.mem_cons.mp hy with rfl | hy
      · exact q1
      · exact q2 y hy
  | [], _ :: _, h => by cases h
  | _ :: _, [], h => by cases h

/-- isinstance(e, (c1, c2, ..)), e the exception that the suite holds -/
def rIsET (K : PySem.W.Frag) (D a : Addr) : List V → Hp → VK → Prop := fun xs H Q => ∃ (tp : Addr) (cs : List V) (us : List Value) (b : Bool), xs = [.ref a, .ref tp] ∧ H tp = some (.tup cs) ∧ Paired ClsV cs us ∧ PySem.W.kitAny K (.ref D) us = some b ∧ Q (.bl b) H
theorem call_isET {X : Cx} {a D : Addr} {oe : Obj} {pn : List (Addr × Obj)} (C : ExcC X.K D) (hz : Zc (.ref D) none oe) (hf : ∃ vs, oe.data = .fields vs) : CallR (X.suite a ((a, oe) :: pn)) (.builtin "isinstance") (rIsET X.K D a) := by
  intro pins s σ H xs us Q I r h
  obtain ⟨tp, cs, ws, b, rfl, hT, k, e, q⟩ := h
  cases r with
  | cons rx rr =>
    cases rr with
    | cons rt rr =>
      cases rr
      cases rx
      cases rt
      obtain ⟨_, its, rv, o, h1, h2, n, h3⟩ := (show ObjOk X.prog X.w H s.heap tp (.tup cs) from I.hok tp _ hT)
      have e3 := ClsV.all k rv
      subst e3
      obtain ⟨oc, od, dt, sl⟩ := o
      simp only at h2 h3
      subst h2 h3
      obtain ⟨hget, _⟩ := I.pin (a, oe) (List.mem_append.mpr (.inl List.mem_cons_self))
      obtain ⟨vs, hv⟩ := hf
      have J : PySem.W.InstAt s.heap a oe D none := by
        obtain ⟨oc, od, oda, osl⟩ := oe
        obtain ⟨h1, h2⟩ := hz
        dsimp only at h1 h2 hv
        subst h1 h2 hv
        exact ⟨hget, rfl, rfl, trivial⟩
      exact PySem.W.kia_tup (PySem.W.handS_kitx_exc C.hg C.hk C.hs C.hd C.ha C.hn C.ht C.hm) I.kIn J h1 e (fun z => nomatch z) fun tk => ⟨.bl b, H, I.kept (t' := tk) fun _ _ z => z, rfl, q⟩

section
variable {a C : Addr} {oe : Obj} {pn : List (Addr × Obj)} {i x : Nat}
theorem h_isx (hbl : ∀ y ∈ bltNames, X.mg y = none) (E : ExR X.K X.mg C x) (hz : Zc (.ref C) none oe) (hf : ∃ vs, oe.data = .fields vs) (cs : List Nat) (ex : Expr) (h : chkH X.N X.env.scope i (.isx cs) ex = true) :
    PE (X.suite a ((a, oe) :: pn)) ex (tH X.K cA a i x (.isx cs)) := by
  cases ex with
  | Call fe vs ks p =>
    match fe, vs, ks, h with
    | .Name f p1, [.Name y p2, z], [], h =>
      have h : (decide (f = ("isinstance" : Str)) && glB X.env.scope f && decide (X.N[i]? = some y) && visB X.env.scope y && nmOk y && chkZ X.env.scope cs z) = true := h
      rw [Bool.and_eq_true, Bool.and_eq_true, Bool.and_eq_true, Bool.and_eq_true, Bool.and_eq_true, decide_eq_true_eq, decide_eq_true_eq] at h
      obtain ⟨⟨⟨⟨⟨h1, h2⟩, h3⟩, h4⟩, h6⟩, h5⟩ := h
      subst h1
      have pv : PE (X.suite a ((a, oe) :: pn)) (.Name y p2) (tVar i) := pe_var h3 (visB_ok h4) (nmOk_ok h6).1 (nmOk_ok h6).2.1
      have hm : (X.suite a ((a, oe) :: pn)).mg "isinstance" = none := hbl _ (by decide +kernel)
      have hve : (X.suite a ((a, oe) :: pn)).mg "ValueError" = none := hbl _ (by decide +kernel)
      have E' : ExR (X.suite a ((a, oe) :: pn)).K (X.suite a ((a, oe) :: pn)).mg C x := E
      by_cases ht : ∃ es k pt, z = .Tuple es k pt
      · obtain ⟨es, k, pt, rfl⟩ := ht
        have h5 : (chkCs X.env.scope cs es && decide (cs.length ≤ 100)) = true := h5
        rw [Bool.and_eq_true, decide_eq_true_eq] at h5
        obtain ⟨ws, us, p3, k3, z3, q3, l3⟩ := h_clss (Y := X.suite a ((a, oe) :: pn)) E' hve cs es h5.1
        have pt' : PE (X.suite a ((a, oe) :: pn)) (.Tuple es k pt) _ := pe_tup p3
        have pA := pa_cons pv (pa_cons pt' pa_nil (star_pl rfl)) (star_pl rfl)
        refine PE.imp (pe_callB (call_isET E.eC hz hf) (glB_ok h2) hm (by decide +kernel) pA (by decide +kernel) (by decide +kernel) (star_pl rfl) (backTo_any fun e he => by
          have : e = .Tuple es k pt := by simpa using he
          subst this
          rfl)) fun σ H Q ⟨s, env, e, ok, re, hi, q⟩ => ?_
        subst e
        have q0 : Post X.K cA s σ W0 (.ok (.bl (cs.any (subC x))) s.st) (PQ X.K Q) := q
        refine ⟨_, hi, ?_, fun tp htp => ⟨tp, ws, us, _, rfl, upd_same, k3, z3, ?_⟩⟩
        · rw [l3]; exact Nat.le_trans h5.2 (by rw [sizeLine_eq]; omega)
        · exact q0 (s.put tp (.tup ws)) rfl (Sit.put_ok ok htp) (Sit.put_le htp) _ (.dat (.bl _))
      · have h5 : chkCs X.env.scope cs [z] = true := by
          cases z <;> first | exact h5 | exact absurd ⟨_, _, _, rfl⟩ ht
        cases cs with
        | nil => cases h5
        | cons c cs =>
          cases cs with
          | cons _ _ =>
            have h5 : (chkC1 X.env.scope c z && false) = true := h5
            simp at h5
          | nil =>
            have h5 : (chkC1 X.env.scope c z && true) = true := h5
            rw [Bool.and_true] at h5
            obtain ⟨v, u, p3, k3, z3, q3⟩ := h_cls (Y := X.suite a ((a, oe) :: pn)) E' hve h5
            have pA := pa_cons pv (pa_cons p3 pa_nil (star_pl q3)) (star_pl rfl)
            refine PE.imp (pe_callB (call_isE E.eC hz hf) (glB_ok h2) hm (by decide +kernel) pA (by decide +kernel) (by decide +kernel) (star_pl rfl) (backTo_any fun e he => by
              have : e = z := by simpa using he
              subst this
              exact q3)) fun σ H Q ⟨s, env, e, ok, re, hi, q⟩ => ?_
            subst e
            have q0 : Post X.K cA s σ W0 (.ok (.bl ([c].any (subC x))) s.st) (PQ X.K Q) := q
            refine ⟨_, hi, v, u, subC x c, rfl, fun w hw => k3.eq hw, z3, ?_⟩
            have := post_ok ok q0 _ (.dat (.bl _))
            simpa using this
  | _ => cases h

theorem h_all (hbl : ∀ y ∈ bltNames, X.mg y = none) (E : ExR X.K X.mg C x) (hz : Zc (.ref C) none oe) (hf : ∃ vs, oe.data = .fields vs) : ∀ t : T, (∀ ex, chkH X.N X.env.scope i t ex = true → PE (X.suite a ((a, oe) :: pn)) ex (tH X.K cA a i x t)) ∧
    (∀ es, chkHs X.N X.env.scope i t es = true → PA (X.suite a ((a, oe) :: pn)) es (tHs X.K cA a i x t) ∧ ∀ e ∈ es, pl e = true) := by
  intro t
  induction t with
  | isx cs => exact ⟨h_isx hbl E hz hf cs, fun es h => (by cases es <;> cases h)⟩
  | var j =>
    refine ⟨fun ex h => ?_, fun es h => (by cases es <;> cases h)⟩
    cases ex with
    | Name y p =>
      have h : (decide (X.N[j]? = some y) && visB X.env.scope y && nmOk y) = true := h
      rw [Bool.and_eq_true, Bool.and_eq_true, decide_eq_true_eq] at h
      refine PE.imp (pe_var (i := j) h.1.1 (visB_ok h.1.2) (nmOk_ok h.2).1 (nmOk_ok h.2).2.1) fun σ H Q ⟨s, env, e, ok, re, hi, q⟩ => ?_
      subst e
      have q0 : Post X.K cA s σ W0 (match env[j]? with
        | some (some d) => .ok d s.st
        | _ => .err) (PQ X.K Q) := q
      split at q0
      · rename_i d hd
        obtain ⟨v, h1, h2⟩ := re.at_ j d hd
        exact ⟨v, h1, post_val ok q0 h2⟩
      · exact q0.elim
    | _ => cases h
  | lst m es ie =>
    refine ⟨fun ex h => ?_, fun es h => (by cases es <;> cases h)⟩
    cases ex with
    | List vs p =>
      have h : chkHs X.N X.env.scope i es vs = true := h
      refine PE.imp (pe_lst (ie.2 vs h).1) fun σ H Q ⟨s, env, e, ok, re, hi, q⟩ => ?_
      subst e
      have q0 : Post X.K cA s σ W0 ((hvs x es env s.st).bind fun ds st1 => lstF m ds st1) (PQ X.K Q) := q
      refine ⟨s, env, rfl, ok, re, hi, q0.split.mono fun ds s1 o1 l1 q1 xs rxs => ?_⟩
      unfold lstF at q1
      split at q1
      · rename_i hz
        have rd := rxs.rds hz.1
        exact ⟨by rw [← rd.length]; exact hz.2, post_mk o1 rd q1⟩
      · exact q1.elim
    | _ => cases h
  | nil =>
    refine ⟨fun ex h => (by cases ex <;> cases h), fun es h => ?_⟩
    cases es with
    | nil => exact ⟨PA.imp pa_nil fun σ H Q ⟨s, env, e, ok, re, hi, q⟩ => by subst e; exact post_ok ok (show Post X.K cA s σ W0 (.ok [] s.st) _ from q) _ .nil, fun e he => by cases he⟩
    | cons _ _ => cases h
  | cons t ts it its =>
    refine ⟨fun ex h => (by cases ex <;> cases h), fun es h => ?_⟩
    cases es with
    | nil => cases h
    | cons v vs =>
      have h : (pl v && chkH X.N X.env.scope i t v && chkHs X.N X.env.scope i ts vs) = true := h
      rw [Bool.and_eq_true, Bool.and_eq_true] at h
      obtain ⟨⟨h1, h2⟩, h3⟩ := h
      obtain ⟨q1, q2⟩ := its.2 vs h3
      refine ⟨PA.imp (pa_cons (it.1 v h2) q1 (star_pl h1)) fun σ H Q ⟨s, env, e, ok, re, hi, q⟩ => ?_, fun u hu => (List.mem_cons.mp hu).elim (fun z => by rw [z]; exact h1) (q2 u)⟩
      subst e
      have q0 : Post X.K cA s σ W0 ((hv x t env s.st).bind fun d st1 => (hvs x ts env st1).bind fun ds st2 => .ok (d :: ds) st2) (fun ds s' => ∀ vs, Reps X.K s' ds vs → Q vs s'.H) := q
      exact ⟨s, env, rfl, ok, re, hi, q0.split.mono fun d s1 o1 l1 q1 v rv => ⟨s1, env, rfl, o1, re.le ok l1, hi, q1.split.mono fun ds s2 o2 l2 q2 vs rvs => post_ok o2 q2 _ (.cons (rv.le o1 l2) rvs)⟩⟩
  | _ => exact ⟨fun ex h => (by cases ex <;> cases h), fun es h => (by cases es <;> cases h)⟩

/-! ### the suite's statements -/
theorem PostH.le {s s' : Sit} {r : SRes} {D : Ends} (e : s.Le s') (h : PostH X.K s a i r D) : PostH X.K s' a i r D := by
  cases r with
  | nx env st => exact fun t σ h1 h2 h3 h4 => h t σ h1 h2 (e.trans h3) h4
  | _ => exact h
theorem PostH.split {α : Type} {s : Sit} {σ : L2.St} {r : Res α} {env : Env} {k : α → Store → SRes} {D : Ends} (h : PostH X.K s a i (r.thenS env k) D) : Post X.K cA s σ W0 r fun d s1 => PostH X.K s1 a i (k d s1.st) D := by
  cases r with
  | ok d st =>
    intro t h1 h2 h3
    have h : PostH X.K s a i (k d st) D := h
    rw [← h1] at h
    exact h.le h3
  | exc x st => exact False.elim h
  | err => exact h
theorem x_all (hbl : ∀ y ∈ bltNames, X.mg y = none) (nd : X.N.Nodup) (fnT : ∀ y, X.fn y = true) (E : ExR X.K X.mg C x) (hz : Zc (.ref C) none oe) (hf : ∃ vs, oe.data = .fields vs) : ∀ t : T, (∀ st, chkX X.N X.env.scope i t st = true → PS (X.suite a ((a, oe) :: pn)) st (tX X.K a i x t)) ∧
    (∀ st, chkXs X.N X.env.scope i t st = true → PSs (X.suite a ((a, oe) :: pn)) st (tX X.K a i x t)) := by
  have ha := fun t => h_all (cA := fun _ => none) (a := a) (pn := pn) (i := i) hbl E hz hf t
  intro t
  induction t with
  | sset tg e _ _ =>
    refine ⟨fun st h => ?_, fun st h => (by cases st <;> cases h)⟩
    cases tg with
    | tnm j =>
      cases st with
      | Assign gs v p =>
        match gs, h with
        | [.Name y px], h =>
          have h : (decide (j ≠ i) && decide (X.N[j]? = some y) && wrB X.env.scope y && chkH X.N X.env.scope i e v && pl v) = true := h
          rw [Bool.and_eq_true, Bool.and_eq_true, Bool.and_eq_true, Bool.and_eq_true, decide_eq_true_eq, decide_eq_true_eq] at h
          obtain ⟨⟨⟨⟨h1, h2⟩, h3⟩, h4⟩, h5⟩ := h
          have hc : isComp v = false := by
            cases v with
            | ListComp _ _ _ _ => cases e <;> cases h4
            | _ => rfl
          refine PS.imp (ps_set (X := X.suite a ((a, oe) :: pn)) nd h2 (wrB_ok h3) ((ha e).1 v h4) (sw_pl h5 hc) (.inl (fnT y))) fun D σ H ⟨s, env, eH, ok, re, hi, q⟩ => ?_
          subst eH
          have q0 : PostH X.K s a i ((hv x e env s.st).thenS env fun d st1 => if j < env.length then .nx (env.set j (some d)) st1 else .err) D := q
          refine ⟨s, env, rfl, ok, re, hi, (q0.split (cA := fun _ => none) (σ := σ)).mono fun d s1 o1 l1 q1 v hv => ?_⟩
          split at q1
          · exact q1 s1 _ rfl o1 (Sit.Le.refl _) ((re.le ok l1).set hv) (by rw [List.getElem?_set_ne h1]; exact hi)
          · exact q1.elim
      | _ => cases h
    | _ => cases st <;> cases h
  | sexp e0 _ =>
    refine ⟨fun st h => ?_, fun st h => (by cases st <;> cases h)⟩
    cases e0 with
    | mth k o es =>
      cases k with
      | append =>
        cases o with
        | var j =>
          cases es with
          | cons e es =>
            cases es with
            | nil =>
              cases st with
              | Expr ev p =>
                match ev, h with
                | .Call (.Attribute (.Name y py) xn apos) [v] [] pos, h =>
                  have h : (decide (xn = ("append" : Str)) && (apos.endLine == pos.line) && chkH X.N X.env.scope i (.var j) (.Name y py) && chkH X.N X.env.scope i e v && pl v) = true := h
                  rw [Bool.and_eq_true, Bool.and_eq_true, Bool.and_eq_true, Bool.and_eq_true, decide_eq_true_eq] at h
                  obtain ⟨⟨⟨⟨h1, h2⟩, h3⟩, h4⟩, h5⟩ := h
                  subst h1
                  have pA : PA (X.suite a ((a, oe) :: pn)) [v] _ := pa_cons ((ha e).1 v h4) pa_nil (star_pl h5)
                  have pM := pe_bm PySem.F.plainAttrs_list PySem.F.slot_list_append PySem.F.type_list_append mt_append ((ha (.var j)).1 (.Name y py) h3) pA (at_pl rfl) (by rw [star_pl h5]; rfl) h2 (star_pl h5)
                  refine PS.imp (ps_expr (X := X.suite a ((a, oe) :: pn)) pM (sw_pl rfl rfl)) fun D σ H ⟨s, env, eH, ok, re, hi, q⟩ => ?_
                  subst eH
                  have q0 : PostH X.K s a i ((hv x (.var j) env s.st).thenS env fun l st1 => match lstOf st1 l with
                    | none => .err
                    | some _ => (hv x e env st1).thenS env fun d st2 => (mthF .append l [d] st2).thenS env fun _ st3 => .nx env st3) D := q
                  refine ⟨s, env, rfl, ok, re, hi, (q0.split (cA := fun _ => none) (σ := σ)).mono fun l s1 o1 l1 q1 xv rx => ?_⟩
                  cases hl : lstOf s1.st l with
                  | none => rw [hl] at q1; exact q1.elim
                  | some ys =>
                    rw [hl] at q1
                    obtain ⟨b, ws, rfl, hb, _⟩ := lstOf_ok o1 rx hl
                    refine ⟨.inl ⟨rfl, _, SqL.of hb⟩, s1, env, rfl, o1, re.le ok l1, hi, (PostH.split (cA := fun _ => none) (σ := σ) q1).mono fun d s2 o2 l2 q2 v2 r2 => ?_⟩
                    have q3 := PostH.split (cA := fun _ => none) (σ := σ) q2
                    have rx2 := rx.le o1 l2
                    cases rx2 with
                    | ref ha2 =>
                      rename_i lx
                      have q4 : Post X.K (fun _ => none) s2 σ W0 (match s2.st[lx]? with
                        | some (some (.lst xs)) => if d.isRef = false ∧ xs.length < sizeLine then (Res.ok Zn.D.non (s2.st.set lx (some (.lst (xs ++ [d])))) : Res Zn.D) else .err
                        | _ => .err) (fun d s1 => PostH X.K s1 a i (.nx env s1.st) D) := q3
                      split at q4
                      · rename_i zs hc
                        split at q4
                        · rename_i hz
                          obtain ⟨vs, k1, r1⟩ := o2.cell _ _ _ hc ha2
                          refine ⟨_, vs, v2, rfl, rfl, k1, by rw [← r1.length]; exact hz.2, ?_⟩
                          have := chg_post (K := X.K) (Q := fun _ H => D.nx σ H) o2 hc ha2 (r1.snoc (r2.rd hz.1)) .non (q4.mono fun d s3 o3 l3 q3 v3 _ => q3 s3 σ rfl o3 (Sit.Le.refl _) (((re.le ok l1).le o1 l2).le o2 l3) hi)
                          exact this
                        · exact q4.elim
                      · exact q4.elim
                    | dat rx => cases rx <;> exact q3.elim
                | .Call (.Name _ _) _ _ _, h => cases h
              | _ => cases h
            | _ => cases st <;> cases h
          | _ => cases st <;> cases h
        | _ => cases st <;> cases h
      | _ => cases st <;> cases h
    | _ => cases st <;> cases h
  | nil =>
    refine ⟨fun st h => (by cases st <;> cases h), fun st h => ?_⟩
    cases st with
    | nil =>
      refine PSs.imp pss_nil fun D σ H ⟨s, env, eH, ok, re, hi, q⟩ => ?_
      subst eH
      have q0 : PostH X.K s a i (.nx env s.st) D := q
      exact q0 s σ rfl ok (Sit.Le.refl _) re hi
    | cons _ _ => cases h
  | cons t ts it its =>
    refine ⟨fun st h => (by cases st <;> cases h), fun st h => ?_⟩
    cases st with
    | nil => cases h
    | cons y l =>
      have h : (chkX X.N X.env.scope i t y && chkXs X.N X.env.scope i ts l) = true := h
      rw [Bool.and_eq_true] at h
      refine PSs.imp (pss_cons (it.1 y h.1) (its.2 l h.2)) fun D σ H ⟨s, env, eH, ok, re, hi, q⟩ => ?_
      subst eH
      refine ⟨s, env, rfl, ok, re, hi, ?_⟩
      have q0 : PostH X.K s a i ((hs x t env s.st).andThen fun env1 st1 => hs x ts env1 st1) D := q
      cases r : hs x t env s.st with
      | nx env1 st1 =>
        rw [r] at q0
        have q0 : PostH X.K s a i (hs x ts env1 st1) D := q0
        intro s1 σ1 e1 o1 l1 re1 hi1
        exact ⟨s1, env1, rfl, o1, re1, hi1, by rw [e1]; exact q0.le l1⟩
      | bk env1 st1 => rw [r] at q0; exact q0
      | ct env1 st1 => rw [r] at q0; exact q0
      | rt d st1 => rw [r] at q0; exact q0
      | exc z env1 st1 => rw [r] at q0; exact q0
      | err => rw [r] at q0; exact q0
  | _ => exact ⟨fun st h => (by cases st <;> cases h), fun st h => (by cases st <;> cases h)⟩
end
theorem RE.wipe1 {K : PySem.W.Frag} {s : Sit} {env : Env} {σ : L2.St} (r : RE K s env σ) (i : Nat) (v : Option V) : RE K s (env.set i none) (σ.set i v) := by
  refine ⟨by rw [List.length_set, List.length_set]; exact r.len, fun j d h => ?_⟩
  by_cases e : i = j
  · subst e
    by_cases hi : i < env.length
    · rw [List.getElem?_set_self hi] at h; cases h
    · rw [List.getElem?_eq_none (by simpa using hi)] at h; cases h
  · rw [List.getElem?_set_ne e] at h
    rw [List.getElem?_set_ne e]
    exact r.at_ j d h
theorem Cs.tr (g : Cs Fs cA n X W) {W' : WX} {pn : List (Addr × Obj)} {xe : Value → Shared → Prop} (tk : Takes (X.tr pn xe) W') (po : PassesOwn (model X.prog X.w) X.A X.env xe) : Cs Fs cA n (X.tr pn xe) W' :=
  ⟨⟨g.calm, g.nd, g.room, g.bl, tk, g.gi, g.ex, g.rz, g.fn⟩, po, g.fnT, g.stk, g.frm⟩
theorem s_try (g : Cs Fs cA n X W) {b : T} (ib : ∀ {X' : Cx} {W' : WX}, Cs Fs cA n X' W' → ∀ st, chkSs X'.N Fs X'.env.scope b st = true → PSs X' st (tS X'.K cA (cf Fs n) W' b)) {c i : Nat} {h : T} {st : Stmt} (z : chkS X.N Fs X.env.scope (.stry b c i h) st = true) :
    PS X st (tS X.K cA (cf Fs n) W (.stry b c i h)) := by
  cases st with
  | Try body hd o f p =>
    match hd, o, f, z with
    | [.ExceptHandler (some (.Name x px)) (some m) (s0 :: ss) p2], [], [], z =>
      have z : (chkSs X.N Fs X.env.scope b body && decide (cn c = x) && glB X.env.scope x && nmOk x && decide (c < 7) && (List.range 7).any (rzB Fs) && decide (X.N[i]? = some m) && decide (X.env.scope.names.lookup m = some .local) && chkXs X.N X.env.scope i h (s0 :: ss)) = true := z
      simp only [Bool.and_eq_true, decide_eq_true_eq] at z
      obtain ⟨⟨⟨⟨⟨⟨⟨⟨z1, z2⟩, z3⟩, z4⟩, z5⟩, z6⟩, z7⟩, z8⟩, z9⟩ := z
      subst z2
      obtain ⟨r0, _, hr0⟩ := List.any_eq_true.mp z6
      obtain ⟨C0, hC0⟩ := g.rz r0 hr0
      obtain ⟨Cc, hCc, _, _⟩ := (g.ex r0 C0 hC0).at_ c z5
      refine PS.imp (ps_try_as (i := i) (c := .ref Cc) g.stk g.frm g.nd z7 z8 ⟨glB_ok z3, (nmOk_ok z4).1, .inl hCc⟩ g.takes (tb := fun W' => tS X.K cA (cf Fs n) W' b)
        (ts := fun a cls d D σ H => ∃ xc C, cls = .ref C ∧ d = none ∧ cA xc = some C ∧ tX X.K a i xc h D σ H)
        (fun W' pn xe tk po => ib (g.tr tk po) body z1) (fun a oe cls d pn hz hf => ⟨fun pins s σ H D I hw => ?_⟩)) fun D σ H ⟨s, env, eH, ok, re, q⟩ => ?_
      · obtain ⟨xc, C, rfl, rfl, hC, hw⟩ := hw
        exact ((x_all g.bl g.nd g.fnT (g.ex xc C hC) hz hf h).2 (s0 :: ss) z9).run pins s σ H D I hw
      · subst eH
        refine ⟨s, env, rfl, ok, re, ?_⟩
        have q0 : PostS X.K cA s W (tryK i c h (ex (cf Fs n) b env s.st)) D := q
        cases r : ex (cf Fs n) b env s.st with
        | exc y env1 st1 =>
          rw [r] at q0
          obtain ⟨yc, ya⟩ := y
          cases ya with
          | some d => exact q0.elim
          | none =>
            intro s' σ' cls dd e1 o1 l1 re1 rx
            obtain ⟨C, hC, rfl, hdd⟩ := rx
            have hdd : dd = none := hdd
            subst hdd
            have E := g.ex yc C hC
            obtain ⟨C', hC', _, hx⟩ := E.at_ c z5
            rw [hCc] at hC'
            cases hC'
            have q1 : PostS X.K cA s W (if i < env1.length then (if subC yc c = true then wipeH i (hs yc h (env1.set i none) st1) else .exc ⟨yc, none⟩ env1 st1) else .err) D := q0
            have hi : i < env1.length := by
              by_cases hi : i < env1.length
              · exact hi
              · rw [if_neg hi] at q1
                exact q1.elim
            rw [if_pos hi] at q1
            rw [re1.len] at hi
            refine ⟨subC yc c, hx, fun hb a na => ?_, fun hb => ?_⟩
            · rw [if_pos hb] at q1
              refine ⟨yc, C, rfl, rfl, hC, s', env1.set i none, rfl, o1, re1.wipe1 i _, by rw [List.getElem?_set_self hi], ?_⟩
              rw [e1]
              cases r2 : hs yc h (env1.set i none) st1 with
              | nx env2 st2 =>
                rw [r2] at q1
                have q1 : PostS X.K cA s W (.nx (env2.set i none) st2) D := q1
                intro s2 σ2 e2 o2 l2 re2 _
                exact q1 s2 _ e2 o2 (l1.trans l2) (re2.wipe1 i none)
              | _ => rw [r2] at q1; exact q1.elim
            · rw [hb, if_neg Bool.false_ne_true] at q1
              exact q1 s' σ' _ _ e1 o1 l1 re1 ⟨C, hC, rfl, rfl⟩
        | nx env1 st1 => rw [r] at q0; exact q0
        | bk env1 st1 => rw [r] at q0; exact q0
        | ct env1 st1 => rw [r] at q0; exact q0
        | rt d st1 => rw [r] at q0; exact q0
        | err => rw [r] at q0; exact q0
  | _ => cases z
end
/-- the facts of a class of refusals that is raised, from the written part -/
theorem exr_of {K : PySem.W.Frag} {h : Heap} {mg : Str → Option Value} (KX : K.In h) (G : h.Ns mainGlobals mg) {r : Nat} {x : Str} {C C0 C1 C2 C3 C4 C5 C6 : Addr} {b0 b1 b2 b3 b4 b5 b6 : Bool} (hx : cn r = x)
    (hb : subC r 0 = b0 ∧ subC r 1 = b1 ∧ subC r 2 = b2 ∧ subC r 3 = b3 ∧ subC r 4 = b4 ∧ subC r 5 = b5 ∧ subC r 6 = b6)
    (a : PySem.W.nsIn K mainGlobals x = some (some (.ref C)))
    (xP : PySem.W.excIn K C [.type "ValueError", .type "Exception", .type "BaseException", .type "object"] "ValueError.__new__" = true) (kP : PySem.W.keepIn K (.ref C) = true)
    (bP : PySem.W.subIn K (.ref C) (.type "BaseException") = some true) (tP : PySem.W.typeIn K (.ref C) = some (.type "type"))
    (hg : PySem.W.findIn K (.ref C) "__getattribute__" = some (some (.builtin "BaseException.__getattribute__"))) (hk : PySem.W.findIn K (.ref C) "__getattr__" = some none)
    (hd : PySem.W.hasDictIn K C = true) (ha : PySem.W.findIn K (.ref C) "__class__" = some (some (.builtin "object.__class__")))
    (hn : PySem.W.specialIn K (.builtin "object.__class__") "__get__" = some (some (.builtin "getset_descriptor.__get__"))) (ht : PySem.W.takesIn K (.builtin "object.__class__") = some true) (hm : PySem.W.mroIn K C (.type "object") = some true)
    (kV : PySem.W.kitOne K (.ref C) (.type "ValueError") = some true)
    (m0 : PySem.W.nsIn K mainGlobals "LeastError" = some (some (.ref C0))) (k0 : PySem.W.kitOne K (.ref C) (.ref C0) = some b0) (x0 : PySem.W.exmOne K (.ref C) (.ref C0) = some b0)
    (m1 : PySem.W.nsIn K mainGlobals "Beyond" = some (some (.ref C1))) (k1 : PySem.W.kitOne K (.ref C) (.ref C1) = some b1) (x1 : PySem.W.exmOne K (.ref C) (.ref C1) = some b1)
    (m2 : PySem.W.nsIn K mainGlobals "NoSuch" = some (some (.ref C2))) (k2 : PySem.W.kitOne K (.ref C) (.ref C2) = some b2) (x2 : PySem.W.exmOne K (.ref C) (.ref C2) = some b2)
    (m3 : PySem.W.nsIn K mainGlobals "NoBounds" = some (some (.ref C3))) (k3 : PySem.W.kitOne K (.ref C) (.ref C3) = some b3) (x3 : PySem.W.exmOne K (.ref C) (.ref C3) = some b3)
    (m4 : PySem.W.nsIn K mainGlobals "TooMany" = some (some (.ref C4))) (k4 : PySem.W.kitOne K (.ref C) (.ref C4) = some b4) (x4 : PySem.W.exmOne K (.ref C) (.ref C4) = some b4)
    (m5 : PySem.W.nsIn K mainGlobals "NoText" = some (some (.ref C5))) (k5 : PySem.W.kitOne K (.ref C) (.ref C5) = some b5) (x5 : PySem.W.exmOne K (.ref C) (.ref C5) = some b5)
    (m6 : PySem.W.nsIn K mainGlobals "NoRow" = some (some (.ref C6))) (k6 : PySem.W.kitOne K (.ref C) (.ref C6) = some b6) (x6 : PySem.W.exmOne K (.ref C) (.ref C6) = some b6)
    : ∃ C, ExR K mg C r := by
  subst hx
  obtain ⟨rfl, rfl, rfl, rfl, rfl, rfl, rfl⟩ := hb
  refine ⟨C, PySem.W.mg_of KX G a, xP, kP, bP, tP, ⟨hg, hk, bP, hd, ha, hn, ht, hm⟩, kV, fun c hc => ?_⟩
  match c, hc with
  | 0, _ => exact ⟨C0, PySem.W.mg_of KX G m0, k0, x0⟩
  | 1, _ => exact ⟨C1, PySem.W.mg_of KX G m1, k1, x1⟩
  | 2, _ => exact ⟨C2, PySem.W.mg_of KX G m2, k2, x2⟩
  | 3, _ => exact ⟨C3, PySem.W.mg_of KX G m3, k3, x3⟩
  | 4, _ => exact ⟨C4, PySem.W.mg_of KX G m4, k4, x4⟩
  | 5, _ => exact ⟨C5, PySem.W.mg_of KX G m5, k5, x5⟩
  | 6, _ => exact ⟨C6, PySem.W.mg_of KX G m6, k6, x6⟩
  | c + 7, hc => exact absurd hc (by omega)
end Zn

/-! Zn, part C: every statement; every def. -/
namespace Zn
open PySem PySem.Spec PyProof.Rows L2
section
variable {Fs : List Fn} {cA : Nat → Option Addr} {n : Nat} {X : Cx} {W : WX}

theorem asg_imp {tg e : T} : ∀ D σ H, tS X.K cA (cf Fs n) W (.sset tg e) D σ H → tAsg (tE X.K cA (cf Fs n) W e) (tG X.K cA (cf Fs n) tg) D σ H := by
  intro Dn σ H ⟨s, env, eH, ok, re, q⟩
  subst eH
  have q0 : PostS X.K cA s W ((ev (cf Fs n) e env s.st).thenS env fun d st1 => match asg (cf Fs n) tg d env st1 with
    | some (env2, st2) => .nx env2 st2
    | none => .err) Dn := q
  refine ⟨s, env, rfl, ok, re, (q0.split ok re).mono fun d s1 o1 l1 q1 v hv => ?_⟩
  cases ha : asg (cf Fs n) tg d env s1.st with
  | none => rw [ha] at q1; exact q1.elim
  | some p =>
    obtain ⟨env2, st2⟩ := p
    rw [ha] at q1
    exact ⟨s1, env, d, env2, st2, rfl, o1, re.le ok l1, hv, ha, q1⟩
theorem name_of {i : Nat} : ∀ D σ H, tS X.K cA (cf Fs n) W (.sset (.tnm i) e) D σ H → tAsg (tE X.K cA (cf Fs n) W e) (gName i) D σ H := by
  intro Dn σ H ⟨s, env, eH, ok, re, q⟩
  subst eH
  have q0 : PostS X.K cA s W ((ev (cf Fs n) e env s.st).thenS env fun d st1 => match asg (cf Fs n) (.tnm i) d env st1 with
    | some (env2, st2) => .nx env2 st2
    | none => .err) Dn := q
  refine ⟨s, env, rfl, ok, re, (q0.split ok re).mono fun d s1 o1 l1 q1 v hv => ?_⟩
  cases ha : asg (cf Fs n) (.tnm i) d env s1.st with
  | none => rw [ha] at q1; exact q1.elim
  | some p =>
    obtain ⟨env2, st2⟩ := p
    rw [ha] at q1
    have ha : (if i < env.length then some (env.set i (some d), s1.st) else none) = some (env2, st2) := ha
    split at ha
    · cases ha
      exact q1 s1 _ rfl o1 (Sit.Le.refl _) ((re.le ok l1).set hv)
    · cases ha
theorem comp_tree {t : T} {e' : Expr} {gs : List Comprehension} {scope : Scope} {p : Pos} (h : chkE X.N Fs X.env.scope t (.ListComp e' gs scope p) = true) : ∃ m src tg own cond elt, t = .comp m src tg own cond elt := by
  cases t with
  | comp m src tg own cond elt => exact ⟨m, src, tg, own, cond, elt, rfl⟩
  | frz a =>
    have h : (chkE X.N Fs X.env.scope a (.ListComp e' gs scope p) && !true) = true := h
    simp at h
  | _ => cases h
theorem s_set (g : Cs Fs cA n X W) {tg e : T} {tg' v : Expr} {p : Pos} (h1 : chkG X.N Fs X.env.scope tg tg' = true) (h2 : chkE X.N Fs X.env.scope e v = true) (h3 : pl v = true) (h4 : (!swapped tg v || noSw X.env.scope tg') = true) :
    PS X (.Assign [tg'] v p) (tS X.K cA (cf Fs n) W (.sset tg e)) := by
  have ge := p_all (cA := cA) e n X W g.toCg
  cases tg with
  | tnm i =>
    cases tg' with
    | Name x px =>
      have h0 := h1
      have h1 : (decide (X.N[i]? = some x) && wrB X.env.scope x) = true := h1
      rw [Bool.and_eq_true, decide_eq_true_eq] at h1
      cases hc : isComp v with
      | false => exact PS.imp (ps_set g.nd h1.1 (wrB_ok h1.2) (ge.e v h2) (sw_pl h3 hc) (.inl (g.fnT x))) name_of
      | true =>
        cases v with
        | ListComp e' gs scope pv =>
          obtain ⟨m, src, tg2, own, cond, elt, rfl⟩ := comp_tree h2
          obtain ⟨e2, tg'', iter, ifs, sc2, p2, eq, c⟩ := comp_parts g.toCg m own (p_all src n X W g.toCg) (fun X' W' g' => p_all cond n X' W' g') (fun X' W' g' => p_all elt n X' W' g') h2
          cases eq
          obtain ⟨b, hb⟩ : ∃ b, b = (X.env.blockKind == .function && X.env.kindOf x == some .local && px.line == pv.line && !(scope.names.any fun (n, k) => n == x && (k == .local || k == .cell))) := ⟨_, rfl⟩
          have hs : swapsWith (.ListComp e' [⟨tg'', iter, ifs, 0⟩] scope pv) (some (.Name x px)) p.line X.env = pure b := by rw [hb]; rfl
          cases b with
          | false => exact PS.imp (ps_set g.nd h1.1 (wrB_ok h1.2) (ge.e _ h2) hs (.inl (g.fnT x))) name_of
          | true =>
            have hl : X.env.scope.names.lookup x = some .local := by
              have := hb.symm
              rw [Bool.and_eq_true, Bool.and_eq_true, Bool.and_eq_true] at this
              exact beq_iff_eq.mp this.1.1.2
            exact PS.imp (ps_setLc g.calm g.nd h1.1 hl hs c.pi c.blk c.pg c.pc c.pt (fold_pl c.hpl)) fun D σ H hh => comp_imp m own c.sl _ _ _ (name_of D σ H hh)
        | _ => cases hc
    | _ => cases h1
  | tix a i =>
    cases tg' with
    | Subscript l r px =>
      refine PS.imp (ps_asg (ge.e v h2) ((g_all g _).1 _ h1).1 ?_ ?_ ?_) asg_imp
      · show swapsWith v (some (.Subscript l r px)) p.line X.env = pure false
        cases v <;> first | rfl | cases h3
      · cases v <;> first | rfl | cases h3
      · rfl
    | _ => cases h1
  | ttp ts =>
    cases tg' with
    | Tuple es k px =>
      refine PS.imp (ps_asg (ge.e v h2) ((g_all g _).1 _ h1).1 ?_ ?_ ?_) asg_imp
      · show swapsWith v (some (.Tuple es k px)) p.line X.env = pure false
        cases v <;> first | rfl | cases h3
      · cases v with
        | Tuple _ _ _ =>
          have h5 : noSw X.env.scope (.Tuple es k px) = true := h4
          unfold noSw at h5
          split at h5
          · rename_i x0 px0 y0 py0 kk pp heq
            cases heq
            exact no_stores h5
          · cases h5
        | _ => first | rfl | cases h3
      · rfl
    | _ => cases h1
  | _ => cases tg' <;> cases h1

theorem rds_at {K : PySem.W.Frag} {H : Hp} {M : Addr → Prop} {xs : List D} {vs : List V} {k : Int} {d : D} (r : RDs K H M xs vs) (h : atI xs k = some d) : ∃ v, atI vs k = some v ∧ RD K H M d v := by
  unfold atI at h ⊢
  obtain ⟨j, hj, hx⟩ := Option.bind_eq_some_iff.mp h
  obtain ⟨v, h1, h2⟩ := r.get hx
  exact ⟨v, by rw [← r.length, hj]; exact h1, h2⟩
theorem get_list {X : Cx} : PGet X (rIxL X.K) := by
  intro pins s σ H x y v u Q I rx ry h
  obtain ⟨p, xs, i, z, rfl, rfl, hq, he, q⟩ := h
  cases rx
  obtain ⟨t, rfl⟩ := ry
  obtain ⟨its, r, pl, hz⟩ := I.list hq
  obtain ⟨j, h1, h2, h3, h4, h5⟩ := atI_get he
  obtain ⟨w, ew, rw'⟩ := r.get h2
  have hl := r.length
  have hn := line63
  have fin : EP X pins σ Q w s := ⟨z, H, I, rw', q⟩
  by_cases h0 : 0 ≤ i
  · have hj : i.toNat = j := by
      rw [seqIndex_of h0 h5] at h1
      exact Option.some.inj h1
    exact wpAny_getItem_list pl.isList (by omega) (by omega) (by rw [hj]; simpa using ew) fin
  · have hj : (i + (its.toArray.size : Int)).toNat = j := by
      rw [seqIndex_neg (by omega) h4] at h1
      rw [List.size_toArray, ← hl]
      exact Option.some.inj h1
    exact wpAny_getItem_list_neg pl.isList (by omega) (by rw [List.size_toArray] <;> omega) (by omega) (by rw [hj]; simpa using ew) fin
theorem aug_imp {a i e : T} {s : Sit} {σ : L2.St} {env : Env} {Dn : Ends} {K : PySem.W.Frag} (ok : s.Ok K) (re : RE K s env σ) (q : PostS K cA s W (ex (cf Fs n) (.saug a i e) env s.st) Dn) :
    tAugS (tE K cA (cf Fs n) W a) (tE K cA (cf Fs n) W i) (tE K cA (cf Fs n) W e) (rIxL K) (ipI fun i j => i + j) rSetL Dn σ s.H := by
  have q0 : PostS K cA s W ((ev (cf Fs n) a env s.st).thenS env fun x st1 => (ev (cf Fs n) i env st1).thenS env fun y st2 => match augG x y st2 with
    | some v => (ev (cf Fs n) e env st2).thenS env fun d st3 => match d with
      | .int w => match setF x y (.int (v + w)) st3 with
        | some st4 => .nx env st4
        | none => .err
      | _ => .err
    | none => .err) Dn := q
  refine ⟨s, env, rfl, ok, re, (q0.split ok re).mono fun d1 s1 o1 l1 q1 v1 hv1 => ?_⟩
  refine ⟨s1, env, rfl, o1, re.le ok l1, (q1.split o1 (re.le ok l1)).mono fun d2 s2 o2 l2 q2 v2 hv2 => ?_⟩
  split at q2
  · rename_i v hv
    unfold augG at hv
    split at hv
    · rename_i l k
      cases rep_int hv2
      cases hv1 with
      | ref ha =>
        rename_i ad
        have ha2 := l2.pre _ _ ha
        split at hv
        · rename_i xs hc
          split at hv
          · rename_i v' hat
            cases hv
            obtain ⟨vs, c1, c2⟩ := o2.cell _ _ _ hc ha2
            obtain ⟨z, hz1, hz2⟩ := rds_at c2 hat
            cases hz2
            refine ⟨ad, vs, k, _, rfl, rfl, SqL.of c1, hz1, ?_⟩
            refine ⟨s2, env, rfl, o2, (re.le ok l1).le o1 l2, (q2.split o2 ((re.le ok l1).le o1 l2)).mono fun d3 s3 o3 l3 q3 v3 hv3 => ?_⟩
            split at q3
            · rename_i w
              cases rep_int hv3
              refine ⟨_, _, rfl, rfl, ?_⟩
              split at q3
              · rename_i st4 hs4
                unfold setF at hs4
                simp only at hs4
                split at hs4
                · rename_i xs3 hc3
                  split at hs4
                  · rename_i j hj
                    split at hs4
                    · rename_i hr
                      cases hs4
                      have ha3 := l3.pre _ _ ha2
                      obtain ⟨vs3, c3, c4⟩ := o3.cell _ _ _ hc3 ha3
                      refine ⟨ad, vs3, k, j, rfl, rfl, c3, by rw [← c4.length]; exact hj, ?_⟩
                      have rd : RD K s3.H s3.M (.int (v + w)) (.int (v + w)) := .int _
                      have o4 := Sit.chg_ok o3 hc3 ha3 (RDs.set rd j c4)
                      have l4 := Sit.chg_le o3 (xs := xs3.set j (.int (v + w))) (vs := vs3.set j (.int (v + w))) hc3 ha3
                      exact q3 (s3.chg l ad (xs3.set j (.int (v + w))) (vs3.set j (.int (v + w)))) σ rfl o4 l4 ((((re.le ok l1).le o1 l2).le o2 l3).le o3 l4)
                    · cases hs4
                  · cases hs4
                · cases hs4
              · exact q3.elim
            · exact q3.elim
          · cases hv
        · cases hv
      | dat r => cases r
    · cases hv
  · exact q2.elim
theorem s_all : ∀ (t : T) {X : Cx} {W : WX} (g : Cs Fs cA n X W), (∀ st, chkS X.N Fs X.env.scope t st = true → PS X st (tS X.K cA (cf Fs n) W t)) ∧ (∀ st, chkSs X.N Fs X.env.scope t st = true → PSs X st (tS X.K cA (cf Fs n) W t)) := by
  intro t
  induction t with
  | sset tg e _ _ =>
    intro X W g
    refine ⟨fun st h => ?_, fun st h => (by cases st <;> cases h)⟩
    cases st with
    | Assign gs v p =>
      match gs, h with
      | [tg'], h =>
        have h : (chkG X.N Fs X.env.scope tg tg' && chkE X.N Fs X.env.scope e v && pl v && (!swapped tg v || noSw X.env.scope tg')) = true := h
        rw [Bool.and_eq_true, Bool.and_eq_true, Bool.and_eq_true] at h
        exact s_set g h.1.1.1 h.1.1.2 h.1.2 h.2
    | _ => cases h
  | saug a i e _ _ _ =>
    intro X W g
    refine ⟨fun st h => ?_, fun st h => (by cases st <;> cases h)⟩
    simp only [chkS] at h
    split at h
    · rename_i l r p1 v p
      have h : (chkE X.N Fs X.env.scope a l && chkE X.N Fs X.env.scope i r && pl r && chkE X.N Fs X.env.scope e v && pl v) = true := h
      rw [Bool.and_eq_true, Bool.and_eq_true, Bool.and_eq_true, Bool.and_eq_true] at h
      obtain ⟨⟨⟨⟨h1, h2⟩, h3⟩, h4⟩, h5⟩ := h
      refine PS.imp (ps_augS ((p_all (cA := cA) a n X W g.toCg).e l h1) ((p_all (cA := cA) i n X W g.toCg).e r h2) get_list ((p_all (cA := cA) e n X W g.toCg).e v h4) ip_add set_list (by
        intro ov iv new
        cases r <;> first | rfl | cases h3)) fun Dn σ H ⟨s, env, eH, ok, re, q⟩ => ?_
      subst eH
      exact aug_imp ok re q
    · cases h
  | spar i j a b _ _ =>
    intro X W g
    refine ⟨fun st h => ?_, fun st h => (by cases st <;> cases h)⟩
    simp only [chkS] at h
    split at h
    · rename_i x px y py kt pt v w k2 p2 p
      have h : (decide (i ≠ j) && decide (X.N[i]? = some x) && decide (X.N[j]? = some y) && chkE X.N Fs X.env.scope a v && pl v && chkE X.N Fs X.env.scope b w && pl w && swOk X.env.scope px py x y v w) = true := h
      rw [Bool.and_eq_true, Bool.and_eq_true, Bool.and_eq_true, Bool.and_eq_true, Bool.and_eq_true, Bool.and_eq_true, Bool.and_eq_true, decide_eq_true_eq, decide_eq_true_eq, decide_eq_true_eq] at h
      obtain ⟨⟨⟨⟨⟨⟨⟨h1, h2⟩, h3⟩, h4⟩, h5⟩, h6⟩, h7⟩, h8⟩ := h
      have h9 := h8
      unfold swOk at h9
      simp only [Bool.and_eq_true, beq_iff_eq] at h9
      have pA := pa_cons ((p_all (cA := cA) a n X W g.toCg).e v h4) (pa_cons ((p_all (cA := cA) b n X W g.toCg).e w h6) pa_nil (star_pl h7)) (star_pl h5)
      refine PS.imp (ps_par g.calm g.nd h2 h3 h1 h9.1.1.1.1.1.1.2 h9.1.1.1.1.1.2 pA (sw_stores h8) ?_) fun Dn σ H ⟨s, env, eH, ok, re, q⟩ => ?_
      · show swapsWith (.Tuple [v, w] k2 p2) (some (.Tuple [.Name x px, .Name y py] kt pt)) p.line X.env = pure false
        rfl
      subst eH
      have q0 : PostS X.K cA s W ((ev (cf Fs n) a env s.st).thenS env fun x st1 => (ev (cf Fs n) b env st1).thenS env fun y st2 => if i < env.length ∧ j < env.length then .nx ((env.set i (some x)).set j (some y)) st2 else .err) Dn := q
      refine ⟨s, env, rfl, ok, re, (q0.split ok re).mono fun d1 s1 o1 l1 q1 v1 hv1 => ?_⟩
      refine ⟨s1, env, rfl, o1, re.le ok l1, (q1.split o1 (re.le ok l1)).mono fun d2 s2 o2 l2 q2 v2 hv2 => ?_⟩
      split at q2
      · exact ⟨v1, v2, rfl, q2 s2 _ rfl o2 (Sit.Le.refl _) ((((re.le ok l1).le o1 l2).set (hv1.le o1 l2)).set hv2)⟩
      · exact q2.elim
    · cases h
  | sexp e _ =>
    intro X W g
    refine ⟨fun st h => ?_, fun st h => (by cases st <;> cases h)⟩
    cases st with
    | Expr v p =>
      have h : (chkE X.N Fs X.env.scope e v && pl v && !isComp v) = true := h
      rw [Bool.and_eq_true, Bool.and_eq_true, Bool.not_eq_true'] at h
      refine PS.imp (ps_expr ((p_all e n X W g.toCg).e v h.1.1) (sw_pl h.1.2 h.2)) fun Dn σ H ⟨s, env, eH, ok, re, q⟩ => ?_
      subst eH
      have q0 : PostS X.K cA s W ((ev (cf Fs n) e env s.st).thenS env fun _ st1 => .nx env st1) Dn := q
      exact ⟨s, env, rfl, ok, re, (q0.split ok re).mono fun d s1 o1 l1 q1 v hv => q1 s1 σ rfl o1 (Sit.Le.refl _) (re.le ok l1)⟩
    | _ => cases h
  | sret e _ =>
    intro X W g
    refine ⟨fun st h => ?_, fun st h => (by cases st <;> cases h)⟩
    cases st with
    | Return v p =>
      cases v with
      | some v =>
        have h : chkE X.N Fs X.env.scope e v = true := h
        refine PS.imp (ps_ret ((p_all e n X W g.toCg).e v h)) fun Dn σ H ⟨s, env, eH, ok, re, q⟩ => ?_
        subst eH
        have q0 : PostS X.K cA s W ((ev (cf Fs n) e env s.st).thenS env fun d st1 => .rt d st1) Dn := q
        exact ⟨s, env, rfl, ok, re, (q0.split ok re).mono fun d s1 o1 l1 q1 v hv => q1 s1 v rfl o1 (Sit.Le.refl _) hv⟩
      | none => cases h
    | _ => cases h
  | sretn =>
    intro X W g
    refine ⟨fun st h => ?_, fun st h => (by cases st <;> cases h)⟩
    cases st with
    | Return v p =>
      cases v with
      | some v => cases h
      | none =>
        refine PS.imp ps_retN fun Dn σ H ⟨s, env, eH, ok, re, q⟩ => ?_
        subst eH
        have q0 : PostS X.K cA s W (.rt .non s.st) Dn := q
        exact q0 s .non rfl ok (Sit.Le.refl _) .non
    | _ => cases h
  | sif c a b _ ia ib =>
    intro X W g
    refine ⟨fun st h => ?_, fun st h => (by cases st <;> cases h)⟩
    cases st with
    | If t l r p =>
      have h : (chkE X.N Fs X.env.scope c t && tst c && chkSs X.N Fs X.env.scope a l && chkSs X.N Fs X.env.scope b r) = true := h
      rw [Bool.and_eq_true, Bool.and_eq_true, Bool.and_eq_true] at h
      obtain ⟨⟨⟨h1, h2⟩, h3⟩, h4⟩ := h
      refine PS.imp (ps_if ((p_all c n X W g.toCg).t t h1 h2) ((ia g).2 l h3) ((ib g).2 r h4)) fun Dn σ H ⟨s, env, eH, ok, re, q⟩ => ?_
      subst eH
      have q0 : PostS X.K cA s W ((ev (cf Fs n) c env s.st).thenS env fun x st1 => match x with
        | .bl true => ex (cf Fs n) a env st1
        | .bl false => ex (cf Fs n) b env st1
        | _ => .err) Dn := q
      refine ⟨s, env, rfl, ok, re, (q0.split ok re).mono fun d s1 o1 l1 q1 => ?_⟩
      cases d with
      | bl k =>
        refine ⟨k, rfl, ?_⟩
        cases k with
        | true => rw [if_pos rfl]; exact ⟨s1, env, rfl, o1, re.le ok l1, q1⟩
        | false => rw [if_neg Bool.false_ne_true]; exact ⟨s1, env, rfl, o1, re.le ok l1, q1⟩
      | _ => exact q1.elim
    | _ => cases h
  | swhile c b _ ib =>
    intro X W g
    refine ⟨fun st h => ?_, fun st h => (by cases st <;> cases h)⟩
    cases st with
    | While t l r p =>
      cases r with
      | nil =>
        have h : (chkE X.N Fs X.env.scope c t && tst c && chkSs X.N Fs X.env.scope b l) = true := h
        rw [Bool.and_eq_true, Bool.and_eq_true] at h
        exact s_while g h.1.1 h.1.2 ((ib g).2 l h.2)
      | cons _ _ => cases h
    | _ => cases h
  | sfor src tg b _ _ ib =>
    intro X W g
    refine ⟨fun st h => ?_, fun st h => (by cases st <;> cases h)⟩
    cases st with
    | For t it l r p =>
      cases r with
      | nil =>
        have h : (chkW X.N Fs X.env.scope src it && chkG X.N Fs X.env.scope tg t && chkSs X.N Fs X.env.scope b l && tgOk src t) = true := h
        rw [Bool.and_eq_true, Bool.and_eq_true, Bool.and_eq_true] at h
        exact s_for g h.1.1.1 h.1.1.2 ((ib g).2 l h.1.2) h.2
      | cons _ _ => cases h
    | _ => cases h
  | sbrk =>
    intro X W g
    refine ⟨fun st h => ?_, fun st h => (by cases st <;> cases h)⟩
    cases st with
    | Break p =>
      refine PS.imp ps_break fun Dn σ H ⟨s, env, eH, ok, re, q⟩ => ?_
      subst eH
      have q0 : PostS X.K cA s W (.bk env s.st) Dn := q
      exact q0 s σ rfl ok (Sit.Le.refl _) re
    | _ => cases h
  | scnt =>
    intro X W g
    refine ⟨fun st h => ?_, fun st h => (by cases st <;> cases h)⟩
    cases st with
    | Continue p =>
      refine PS.imp ps_continue fun Dn σ H ⟨s, env, eH, ok, re, q⟩ => ?_
      subst eH
      have q0 : PostS X.K cA s W (.ct env s.st) Dn := q
      exact q0 s σ rfl ok (Sit.Le.refl _) re
    | _ => cases h
  | spass =>
    intro X W g
    refine ⟨fun st h => ?_, fun st h => (by cases st <;> cases h)⟩
    cases st with
    | Pass p =>
      refine PS.imp ps_pass fun Dn σ H ⟨s, env, eH, ok, re, q⟩ => ?_
      subst eH
      have q0 : PostS X.K cA s W (.nx env s.st) Dn := q
      exact q0 s σ rfl ok (Sit.Le.refl _) re
    | _ => cases h
  | sdead =>
    intro X W g
    exact ⟨fun st h => PS.imp ps_never fun Dn σ H ⟨s, env, eH, ok, re, q⟩ => q, fun st h => PSs.imp pss_never fun Dn σ H ⟨s, env, eH, ok, re, q⟩ => q⟩
  | nil =>
    intro X W g
    refine ⟨fun st h => (by cases st <;> cases h), fun st h => ?_⟩
    cases st with
    | nil =>
      refine PSs.imp pss_nil fun Dn σ H ⟨s, env, eH, ok, re, q⟩ => ?_
      subst eH
      have q0 : PostS X.K cA s W (.nx env s.st) Dn := q
      exact q0 s σ rfl ok (Sit.Le.refl _) re
    | cons _ _ => cases h
  | cons t ts it its =>
    intro X W g
    refine ⟨fun st h => (by cases st <;> cases h), fun st h => ?_⟩
    cases st with
    | nil => cases h
    | cons x l =>
      have h : (chkS X.N Fs X.env.scope t x && chkSs X.N Fs X.env.scope ts l) = true := h
      rw [Bool.and_eq_true] at h
      refine PSs.imp (pss_cons ((it g).1 x h.1) ((its g).2 l h.2)) fun Dn σ H ⟨s, env, eH, ok, re, q⟩ => ?_
      subst eH
      refine ⟨s, env, rfl, ok, re, ?_⟩
      have q0 : PostS X.K cA s W ((ex (cf Fs n) t env s.st).andThen fun env1 st1 => ex (cf Fs n) ts env1 st1) Dn := q
      cases r : ex (cf Fs n) t env s.st with
      | nx env1 st1 =>
        rw [r] at q0
        have q0 : PostS X.K cA s W (ex (cf Fs n) ts env1 st1) Dn := q0
        intro s1 σ1 e1 o1 l1 re1
        exact ⟨s1, env1, rfl, o1, re1, by rw [e1]; exact q0.le l1⟩
      | bk env1 st1 => rw [r] at q0; exact q0
      | ct env1 st1 => rw [r] at q0; exact q0
      | rt d st1 => rw [r] at q0; exact q0
      | exc z env1 st1 => rw [r] at q0; exact q0
      | err => rw [r] at q0; exact q0
  | sraise c =>
    intro X W g
    refine ⟨fun st h => s_raise g h, fun st h => (by cases st <;> cases h)⟩
  | stry b c i h ib _ =>
    intro X W g
    refine ⟨fun st z => s_try g (fun {X' W'} g' => (ib g').2) z, fun st h => (by cases st <;> cases h)⟩
  | _ =>
    intro X W g
    exact ⟨fun st h => (by cases st <;> cases h), fun st h => (by cases st <;> cases h)⟩
end

/-! ### the defs of a text -/
structure TabOk (K : PySem.W.Frag) (mg : Str → Option Value) (Fs : List Fn) : Prop where
  bl : ∀ x ∈ bltNames, mg x = none
  gi : ∀ (f : Nat) (fn : Fn) (x : Str) (i : Int), Fs[f]? = some fn → fn.isI x i = true → ∃ t, mg x = some (.int i t)
  ex : ∀ r, rzB Fs r = true → ∃ C, ExR K mg C r
  fn : ∀ (f : Nat) (fn : Fn), Fs[f]? = some fn → fn.isC = false → ∃ fa fd st, mg fn.name = some (.ref fa) ∧ PySem.W.keepIn K (.ref fa) = true ∧ (∀ us : List Value, us.length = fn.ps.length → bindArgs fd ⟨us, []⟩ = pure (fn.ps.zip us)) ∧ Fun K fn.name fn.name st fa fd ∧ FnScope fn.N fn.ps (defScope st) ∧
    chkSs fn.N Fs (defScope st) fn.body (defBody st) = true
theorem isI_mk {y x : Str} {j i : Int} (h : (Fn.mk y [] [] (.con (.int j))).isI x i = true) : y = x ∧ j = i := by
  have h : (decide (y = x) && decide (j = i)) = true := h
  rw [Bool.and_eq_true, decide_eq_true_eq, decide_eq_true_eq] at h
  exact h
theorem re_start {K : PySem.W.Frag} {s : Sit} {ds : List D} {vs : List V} {N ps : List Str} (r : Reps K s ds vs) (hl : ds.length = ps.length) : RE K s (startE N.length ps.length ds) (L2.start N vs) := by
  have e : vs.length = ds.length := r.length.symm
  have main : ∀ {ds : List D} {vs : List V} (k : Nat), Reps K s ds vs → RE K s (ds.map some ++ List.replicate k none) (vs.map some ++ List.replicate k none) := by
    intro ds vs k r
    induction r with
    | nil =>
      refine ⟨by simp, fun i d h => ?_⟩
      exfalso
      rw [List.map_nil, List.nil_append, List.getElem?_replicate] at h
      split at h <;> cases h
    | cons a _ ih =>
      refine ⟨by have := ih.len; simpa using this, fun i d h => ?_⟩
      cases i with
      | zero =>
        cases h
        exact ⟨_, rfl, a⟩
      | succ i => exact ih.at_ i d h
  unfold startE L2.start
  rw [e, hl]
  exact main _ r
theorem exA {K : PySem.W.Frag} {mg : Str → Option Value} {Fs : List Fn} (tab : TabOk K mg Fs) (r : Nat) (C : Addr) (h : cAof Fs mg r = some C) : ExR K mg C r := by
  unfold cAof at h
  split at h
  · rename_i hr
    obtain ⟨C', E⟩ := tab.ex r hr
    rw [E.mg] at h
    cases h
    exact E
  · cases h
theorem rzA {K : PySem.W.Frag} {mg : Str → Option Value} {Fs : List Fn} (tab : TabOk K mg Fs) (r : Nat) (h : rzB Fs r = true) : ∃ C, cAof Fs mg r = some C := by
  obtain ⟨C', E⟩ := tab.ex r h
  exact ⟨C', by unfold cAof; rw [if_pos h, E.mg]⟩
theorem fn_all {P : Program} {w : World} {K : PySem.W.Frag} {mg : Str → Option Value} {Fs : List Fn} (tab : TabOk K mg Fs) : ∀ (n f : Nat) (fn : Fn), Fs[f]? = some fn → fn.isC = false →
    ∃ fa fd, mg fn.name = some (.ref fa) ∧ PySem.W.keepIn K (.ref fa) = true ∧ (∀ us : List Value, us.length = fn.ps.length → bindArgs fd ⟨us, []⟩ = pure (fn.ps.zip us)) ∧ ∀ base : Heap, FnOk P w K mg base (L2.CX P w) n fa fd fn.ps (spF K (cAof Fs mg) (cf Fs n) f) := by
  intro n
  induction n with
  | zero =>
    intro f fn hf hC
    obtain ⟨fa, fd, st, h1, h2, h3, _⟩ := tab.fn f fn hf hC
    refine ⟨fa, fd, h1, h2, h3, fun base => ⟨fun vs H Q E h => ?_, fun A outer s H args us vs Q E _ _ _ _ h => ?_⟩⟩
    · obtain ⟨s, ds, _, _, _, q⟩ := h
      exact q.elim
    · obtain ⟨s, ds, _, _, _, q⟩ := h
      exact q.elim
  | succ n ih =>
    intro f fn hf hC
    obtain ⟨fa, fd, st, h1, h2, h3, h4, h5, h6⟩ := tab.fn f fn hf hC
    have hcf : ∀ ds st, cf Fs (n + 1) f ds st = if ds.length = fn.ps.length then bodyEnd (ex (cf Fs n) fn.body (startE fn.N.length fn.ps.length ds) st) else .err := by
      intro ds st
      show (match Fs[f]? with
        | none => Res.err
        | some fn => if ds.length = fn.ps.length then bodyEnd (ex (cf Fs n) fn.body (startE fn.N.length fn.ps.length ds) st) else .err) = _
      rw [hf]
    have len : ∀ vs H Q E, spF K (cAof Fs mg) (cf Fs (n + 1)) f vs H Q E → vs.length = fn.ps.length := by
      intro vs H Q E ⟨s, ds, _, _, r, q⟩
      rw [hcf] at q
      split at q
      · rename_i hl
        rw [← r.length]
        exact hl
      · exact q.elim
    refine ⟨fa, fd, h1, h2, h3, fun base => h4.okX h5 len fun cdv A outer s H vs Q E hr h => ?_⟩
    obtain ⟨s1, ds, rfl, ok, r, q⟩ := h
    rw [hcf] at q
    split at q
    · rename_i hl
      have g : Cs Fs (cAof Fs mg) n (cxOf (L2.CX P w) P w K mg base fn.N fn.name (defScope st) fa cdv A outer s s1.H E) (fun cls d _ H => E cls d H) :=
        ⟨⟨rfl, h5.nd, hr, tab.bl, takes_of rfl rfl rfl rfl, tab.gi, exA tab, rzA tab, fun f' fn' hf' hC' => let ⟨a, b, c1, c2, c3, c4⟩ := ih f' fn' hf' hC'; ⟨a, b, c1, c2, .all c3, c4 base⟩⟩, passes_of rfl, fun _ => rfl, rfl, rfl⟩
      refine ⟨_, (s_all fn.body g).2 (defBody st) h6, s1, _, rfl, ok, re_start r hl, ?_⟩
      cases rr : ex (cf Fs n) fn.body (startE fn.N.length fn.ps.length ds) s1.st with
      | nx env1 st1 =>
        rw [rr] at q
        intro s2 σ2 e2 o2 l2 _
        exact q s2 e2 o2 l2 _ .non
      | rt d st1 =>
        rw [rr] at q
        intro s2 v e2 o2 l2 rv
        exact q s2 e2 o2 l2 v rv
      | exc z env1 st1 =>
        rw [rr] at q
        intro s2 σ2 cls dd e2 o2 l2 _ rx
        exact q s2 cls dd e2 o2 l2 rx
      | bk env1 st1 => rw [rr] at q; exact q.elim
      | ct env1 st1 => rw [rr] at q; exact q.elim
      | err => rw [rr] at q; exact q.elim
    · exact q.elim

theorem loose_int {lv : List (Str × PySem.W.WData)} {mg : Str → Option Value} {h : Heap} (r : PySem.W.LooseAre lv mg h) {x : Str} {i : Int} (hq : (x, PySem.W.WData.int i) ∈ lv) : ∃ t, mg x = some (.int i t) := by
  obtain ⟨v, a, b⟩ := r.val _ hq
  cases b
  exact ⟨_, a⟩
/-- the end: what the text's trees come to is what the law's call comes to; the table may ask what the head has read of the module's names -/
theorem walk_end {l : PySem.W.OpenLaw} {k : Nat} {q : Program} {loose : List Str} {XR : (Str → Option Value) → Heap → Prop} {YR : World → Heap → Prop} {d : DefRec} {Kf : Params → PySem.W.Frag} {Fs : List Fn} {f : Nat} {fn : Fn} {x : Str}
    (most : l.most = some 63) (noDef : d.params.defaults = []) (room : Room k callerA) (inK : ∀ (w : World) (h : Heap), YR w h → (Kf w.params).In h) (hf : Fs[f]? = some fn) (hname : fn.name = d.name) (hC : fn.isC = false) (hps : fn.ps = [x])
    (table : ∀ (w : World) (mg : Str → Option Value) (h : Heap), (Kf w.params).In h → h.Ns mainGlobals mg → XR mg h → TabOk (Kf w.params) mg Fs)
    (law : ∀ ns : List Int, ns.length ≤ 63 → (∀ z ∈ ns, Builtin.Int.intBits z ≤ 1048576) → ∃ st', cf Fs k f [.scr ns] [] = .ok (.bl true) st') :
    PySem.W.WalkO q loose XR YR l.row.toRowW d [] (fun g us => PySem.call g us) := by
  refine Att.attach_callB most noDef ?_
  intro w s₀ s₁ mg mb fa o pm cd doc a us ns G Y ho hd hcd hmg hobj hints hlen hbits gens
  have KX := inK w _ Y
  have tb := table w mg _ KX G.T.g G.X
  obtain ⟨fa', fd, h1, _, h3, h4⟩ := fn_all (P := l.prog) (w := w) tb k f fn hf hC
  obtain rfl : fa' = fa := by
    rw [hname, hmg] at h1
    cases h1
    rfl
  refine law_call (CX := L2.CX l.prog w) (sp := spF (Kf w.params) (cAof Fs mg) (cf Fs k) f) (x := x) (fd := fd) KX G.T.g G.T.b G.T.builtins G.T.nolimit gens hobj hints (by rw [sizeLine]; omega) room (fun base KB GB => ?_) (fun s u => .of_eq ?_) (fun H hO hS => ?_) (fun H e s' z => ?_)
  · have := h4 base
    rw [hps] at this
    exact this
  · have := h3 [u] (by rw [hps]; rfl)
    rw [hps] at this
    exact this
  · refine ⟨⟨[], [], H⟩, [.scr ns], rfl, ⟨rfl, .nil, fun a h => (by cases h), fun l c a h => (by simp at h)⟩, .cons (.dat (.scr ?_)) .nil, ?_⟩
    · rcases hS with (hS | ⟨o, hS⟩) | hS
      · rcases hO a with z | ⟨o, xs, z⟩
        · rw [hS] at z; cases z
        · rw [hS] at z; cases z
      · exact .inl ⟨o, hS⟩
      · exact .inr hS
    · obtain ⟨st', law'⟩ := law ns hlen hbits
      rw [law']
      intro s' e o le v hv
      exact rep_bl hv
  · obtain ⟨_, _, _, _, _, _, _, _, _, _, _, _, z⟩ := z
    exact z
end Zn

/-! ZnP: the plain side. How the little evaluator is stepped. -/
namespace Zn
open PySem PySem.Spec PyProof.Rows L2

theorem cf_at {Fs : List Fn} {n f : Nat} {fn : Fn} {ds : List D} {st : Store} (h : Fs[f]? = some fn) (hl : ds.length = fn.ps.length) :
    cf Fs (n + 1) f ds st = bodyEnd (ex (cf Fs n) fn.body (startE fn.N.length fn.ps.length ds) st) := by
  simp only [cf, h, if_pos hl]

section
variable (F : CallF) (env : Env) (st : Store)
/-! what comes next stands as a name, so that nothing is looked into before its time -/
def sifK (F : CallF) (a b : T) (env : Env) (x : D) (st1 : Store) : SRes := match x with
  | .bl true => ex F a env st1
  | .bl false => ex F b env st1
  | _ => .err
theorem sifK_t (a b : T) : sifK F a b env (.bl true) st = ex F a env st := rfl
theorem sifK_f (a b : T) : sifK F a b env (.bl false) st = ex F b env st := rfl
theorem x_sif (c a b : T) : ex F (.sif c a b) env st = (ev F c env st).thenS env (sifK F a b env) := by
  first | rfl | (simp only [ex]; congr 1) | (simp only [ex]; congr 1; funext x st1; cases x with | bl k => cases k <;> rfl | _ => rfl)
theorem x_nil : ex F .nil env st = .nx env st := rfl
theorem x_cons (s ss : T) : ex F (.cons s ss) env st = (ex F s env st).andThen (ex F ss) := rfl
def asgS (o : Option (Env × Store)) : SRes := match o with
  | some (e, s) => .nx e s
  | none => .err
@[simp] theorem asgS_some (e : Env) (s : Store) : asgS (some (e, s)) = .nx e s := rfl
theorem x_sset (tg e : T) : ex F (.sset tg e) env st = (ev F e env st).thenS env fun d st1 => asgS (asg F tg d env st1) := by
  rfl
def putK (i : Nat) (env : Env) (d : D) (st : Store) : SRes := if i < env.length then .nx (env.set i (some d)) st else .err
theorem putK_eq (i : Nat) (d : D) : putK i env d st = if i < env.length then .nx (env.set i (some d)) st else .err := rfl
theorem x_sset1 (i : Nat) (e : T) : ex F (.sset (.tnm i) e) env st = (ev F e env st).thenS env (putK i env) := by
  rw [x_sset]; congr 1; funext d st1
  simp only [asg, putK]
  by_cases h : i < env.length <;> simp [h, asgS]
def setK (F : CallF) (a i : T) (env : Env) (d : D) (st : Store) : SRes := asgS (asg F (.tix a i) d env st)
theorem x_sset2 (a i e : T) : ex F (.sset (.tix a i) e) env st = (ev F e env st).thenS env (setK F a i env) := x_sset F env st _ _
def Res.okS {α : Type} (r : Res α) (k : α → Store → SRes) : SRes := match r with
  | .ok a st => k a st
  | _ => .err
@[simp] theorem okS_ok {α : Type} (a : α) (st : Store) (k : α → Store → SRes) : (Res.ok a st).okS k = k a st := rfl
def asgO (o : Option Store) (env : Env) : SRes := match o with
  | some st => .nx env st
  | none => .err
@[simp] theorem asgO_some (st : Store) (env : Env) : asgO (some st) env = .nx env st := rfl
def setK2 (x d : D) (env : Env) (y : D) (st : Store) : SRes := asgO (setF x y d st) env
theorem setK2_eq (x d y : D) : setK2 x d env y st = asgO (setF x y d st) env := rfl
def setK1 (F : CallF) (i : T) (d : D) (env : Env) (x : D) (st : Store) : SRes := (ev F i env st).okS (setK2 x d env)
theorem setK1_eq (i : T) (d x : D) : setK1 F i d env x st = (ev F i env st).okS (setK2 x d env) := rfl
theorem setK_eq (a i : T) (d : D) : setK F a i env d st = (ev F a env st).okS (setK1 F i d env) := by
  simp only [setK, asg]
  rcases ev F a env st with ⟨x, st1⟩ | _ | _ <;> try rfl
  simp only [okS_ok, setK1]
  rcases ev F i env st1 with ⟨y, st2⟩ | _ | _ <;> try rfl
  simp only [okS_ok, setK2]
  cases setF x y d st2 <;> rfl
def setG (st : Store) (l : Nat) (c : Option Cell) (k : Int) (d : D) : Option Store := match c with
  | some (.lst xs) => (ixN xs.length k).bind fun j => if d.isRef = false then some (st.set l (some (.lst (xs.set j d)))) else none
  | _ => none
theorem setG_some (l : Nat) (xs : List D) (k : Int) (d : D) : setG st l (some (.lst xs)) k d = (ixN xs.length k).bind fun j => if d.isRef = false then some (st.set l (some (.lst (xs.set j d)))) else none := rfl
theorem setF_eq (l : Nat) (k : Int) (d : D) : setF (.ref l) (.int k) d st = setG st l st[l]?.join k d := by
  simp only [setF, setG]
  rcases st[l]? with _ | _ | ⟨xs⟩ | _ <;> try rfl
  simp only [Option.join_some]
  cases ixN xs.length k <;> rfl
def ttpK (F : CallF) (ts : T) (env : Env) (d : D) (st : Store) : SRes := asgS (asg F (.ttp ts) d env st)
theorem ttpK_eq (ts : T) (d : D) : ttpK F ts env d st = asgS (asg F (.ttp ts) d env st) := rfl
theorem x_ttp (ts e : T) : ex F (.sset (.ttp ts) e) env st = (ev F e env st).thenS env (ttpK F ts env) := x_sset F env st _ _
theorem as_ttp (ts : T) (xs : List D) : asg F (.ttp ts) (.tup xs) env st = asg.asgs F ts xs env st := rfl
theorem as_ttpl (ts : T) (xs : List D) : asg F (.ttp ts) (.lst xs) env st = asg.asgs F ts xs env st := rfl
theorem as_nil : asg.asgs F .nil [] env st = some (env, st) := rfl
theorem as_cons (i : Nat) (ts : T) (x : D) (xs : List D) : asg.asgs F (.cons (.tnm i) ts) (x :: xs) env st = if i < env.length then asg.asgs F ts xs (env.set i (some x)) st else none := by
  simp only [asg.asgs, asg]
  by_cases h : i < env.length <;> simp [h]
def expK (env : Env) (d : D) (st : Store) : SRes := .nx env st
theorem expK_eq (d : D) : expK env d st = .nx env st := rfl
theorem x_sexp (e : T) : ex F (.sexp e) env st = (ev F e env st).thenS env (expK env) := rfl
theorem x_sret (e : T) : ex F (.sret e) env st = (ev F e env st).thenS env SRes.rt := rfl
theorem x_sretn : ex F .sretn env st = .rt .non st := rfl
theorem x_sbrk : ex F .sbrk env st = .bk env st := rfl
theorem x_scnt : ex F .scnt env st = .ct env st := rfl
theorem x_spass : ex F .spass env st = .nx env st := rfl
/-- a turn of a loop -/
def turn (F : CallF) (tg b : T) (x : D) (env : Env) (st : Store) : SRes := (asgS (asg F tg x env st)).andThen (ex F b)
def walkS (F : CallF) (tg b : T) (env : Env) (w : Wk) (st : Store) : SRes := match w with
  | .fix xs => forL (turn F tg b) xs env st
  | .live l => forR (turn F tg b) l fuel 0 env st
  | .zp xs l => forZ (turn F tg b) xs l fuel 0 env st
@[simp] theorem walkS_zp (tg b : T) (xs : List D) (l : Nat) : walkS F tg b env (.zp xs l) st = forZ (turn F tg b) xs l fuel 0 env st := rfl
@[simp] theorem walkS_fix (tg b : T) (xs : List D) : walkS F tg b env (.fix xs) st = forL (turn F tg b) xs env st := rfl
@[simp] theorem walkS_live (tg b : T) (l : Nat) : walkS F tg b env (.live l) st = forR (turn F tg b) l fuel 0 env st := rfl
theorem x_sfor (src tg b : T) : ex F (.sfor src tg b) env st = (evw F src env st).thenS env (walkS F tg b env) := by
  simp only [ex]; congr 1; funext w st1
  cases w with
  | fix xs =>
    show forL _ xs env st1 = forL (turn F tg b) xs env st1
    congr 1; funext x env st; unfold turn
    cases asg F tg x env st <;> rfl
  | live l =>
    show forR _ l fuel 0 env st1 = forR (turn F tg b) l fuel 0 env st1
    congr 1; funext x env st; unfold turn
    cases asg F tg x env st <;> rfl
  | zp xs l =>
    show forZ _ xs l fuel 0 env st1 = forZ (turn F tg b) xs l fuel 0 env st1
    congr 1; funext x env st; unfold turn
    cases asg F tg x env st <;> rfl
theorem x_swhile (c b : T) : ex F (.swhile c b) env st = whileL (ev F c) (ex F b) fuel env st := rfl

def optR (o : Option D) (st : Store) : Res D := match o with
  | some d => .ok d st
  | none => .err
@[simp] theorem optR_some (d : D) (st : Store) : optR (some d) st = .ok d st := rfl
theorem v_var (i : Nat) : ev F (.var i) env st = optR (env[i]?).join st := by
  simp only [ev]
  rcases env[i]? with _ | _ | _ <;> rfl
theorem v_gi (f : Nat) (i : Int) : ev F (.gi f i) env st = .ok (.int i) st := rfl
theorem v_con (d : D) : ev F (.con d) env st = .ok d st := rfl
def binK2 (m : Bool) (op : Operator) (x y : D) (st : Store) : Res D := binF m op x y st
theorem binK2_eq (m : Bool) (op : Operator) (x y : D) : binK2 m op x y st = binF m op x y st := rfl
def binK (F : CallF) (m : Bool) (op : Operator) (b : T) (env : Env) (x : D) (st : Store) : Res D := (ev F b env st).bind (binK2 m op x)
theorem binK_eq (m : Bool) (op : Operator) (b : T) (x : D) : binK F m op b env x st = (ev F b env st).bind (binK2 m op x) := rfl
theorem v_bin (m : Bool) (op : Operator) (a b : T) : ev F (.bin m op a b) env st = (ev F a env st).bind (binK F m op b env) := rfl
def negF (x : D) (st : Store) : Res D := match x with
  | .int i => .ok (.int (-i)) st
  | _ => .err
@[simp] theorem negF_int (i : Int) (st : Store) : negF (.int i) st = .ok (.int (-i)) st := rfl
theorem v_neg (a : T) : ev F (.neg a) env st = (ev F a env st).bind negF := by
  simp only [ev]; congr 1
def cmpK2 (op : CmpOp) (x y : D) (st : Store) : Res D := optB (cmpF op x y st) st
theorem cmpK2_eq (op : CmpOp) (x y : D) : cmpK2 op x y st = optB (cmpF op x y st) st := rfl
def cmpK (F : CallF) (op : CmpOp) (b : T) (env : Env) (x : D) (st : Store) : Res D := (ev F b env st).bind (cmpK2 op x)
theorem cmpK_eq (op : CmpOp) (b : T) (x : D) : cmpK F op b env x st = (ev F b env st).bind (cmpK2 op x) := rfl
theorem v_cmp (op : CmpOp) (a b : T) : ev F (.cmp op a b) env st = (ev F a env st).bind (cmpK F op b env) := rfl
def cmp3K (F : CallF) (op : CmpOp) (c : T) (env : Env) (y : D) (o : Option Bool) (st : Store) : Res D := match o with
  | some true => (ev F c env st).bind (cmpK2 op y)
  | some false => .ok (.bl false) st
  | none => .err
theorem cmp3K_t (op : CmpOp) (c : T) (y : D) : cmp3K F op c env y (some true) st = (ev F c env st).bind (cmpK2 op y) := rfl
theorem cmp3K_f (op : CmpOp) (c : T) (y : D) : cmp3K F op c env y (some false) st = .ok (.bl false) st := rfl
def cmp2K2 (F : CallF) (op op' : CmpOp) (c : T) (env : Env) (x y : D) (st : Store) : Res D := cmp3K F op' c env y (cmpF op x y st) st
theorem cmp2K2_eq (op op' : CmpOp) (c : T) (x y : D) : cmp2K2 F op op' c env x y st = cmp3K F op' c env y (cmpF op x y st) st := rfl
def cmp2K (F : CallF) (op op' : CmpOp) (b c : T) (env : Env) (x : D) (st : Store) : Res D := (ev F b env st).bind (cmp2K2 F op op' c env x)
theorem cmp2K_eq (op op' : CmpOp) (b c : T) (x : D) : cmp2K F op op' b c env x st = (ev F b env st).bind (cmp2K2 F op op' c env x) := rfl
theorem v_cmp2 (op op' : CmpOp) (a b c : T) : ev F (.cmp2 op op' a b c) env st = (ev F a env st).bind (cmp2K F op op' b c env) := by
  first | rfl | (simp only [ev]; congr 1; funext x st1; unfold cmp2K; congr 1; funext y st2; unfold cmp2K2; rcases cmpF op x y st2 with _ | b; rfl; cases b <;> rfl)
theorem v_bop (o : BoolOp) (es : T) : ev F (.bop o es) env st = evB F o es env st := rfl
theorem vB_one (o : BoolOp) (e : T) : evB F o (.cons e .nil) env st = ev F e env st := rfl
def andK (F : CallF) (es : T) (env : Env) (x : D) (st : Store) : Res D := match x with
  | .bl true => evB F .And es env st
  | .bl false => .ok (.bl false) st
  | _ => .err
theorem andK_t (es : T) : andK F es env (.bl true) st = evB F .And es env st := rfl
theorem andK_f (es : T) : andK F es env (.bl false) st = .ok (.bl false) st := rfl
theorem vB_and (e e' es : T) : evB F .And (.cons e (.cons e' es)) env st = (ev F e env st).bind (andK F (.cons e' es) env) := by
  simp only [evB]; congr 1; funext x st1
  cases x with
  | bl b => cases b <;> rfl
  | _ => rfl
def orK (F : CallF) (es : T) (env : Env) (x : D) (st : Store) : Res D := match x with
  | .bl false => evB F .Or es env st
  | .bl true => .ok (.bl true) st
  | _ => .err
theorem orK_f (es : T) : orK F es env (.bl false) st = evB F .Or es env st := rfl
theorem orK_t (es : T) : orK F es env (.bl true) st = .ok (.bl true) st := rfl
theorem vB_or (e e' es : T) : evB F .Or (.cons e (.cons e' es)) env st = (ev F e env st).bind (orK F (.cons e' es) env) := by
  simp only [evB]; congr 1; funext x st1
  cases x with
  | bl b => cases b <;> rfl
  | _ => rfl
def ntK (x : D) (st : Store) : Res D := match x with
  | .bl b => .ok (.bl (!b)) st
  | _ => .err
theorem ntK_bl (b : Bool) : ntK (.bl b) st = .ok (.bl (!b)) st := rfl
theorem v_nt (a : T) : ev F (.nt a) env st = (ev F a env st).bind ntK := by
  simp only [ev]; congr 1
def iteK (F : CallF) (a b : T) (env : Env) (x : D) (st : Store) : Res D := match x with
  | .bl true => ev F a env st
  | .bl false => ev F b env st
  | _ => .err
theorem iteK_t (a b : T) : iteK F a b env (.bl true) st = ev F a env st := rfl
theorem iteK_f (a b : T) : iteK F a b env (.bl false) st = ev F b env st := rfl
theorem v_ite (c a b : T) : ev F (.ite c a b) env st = (ev F c env st).bind (iteK F a b env) := by
  simp only [ev]; congr 1; funext x st1
  cases x with
  | bl b => cases b <;> rfl
  | _ => rfl
theorem v_tup (es : T) : ev F (.tup es) env st = (evs F es env st).bind tupF := rfl
theorem v_lst (m : Bool) (es : T) : ev F (.lst m es) env st = (evs F es env st).bind (lstF m) := rfl
def dctK2 (x y : D) (st : Store) : Res D := dctF x y st
theorem dctK2_eq (x y : D) : dctK2 x y st = dctF x y st := rfl
def dctK (F : CallF) (v : T) (env : Env) (x : D) (st : Store) : Res D := (ev F v env st).bind (dctK2 x)
theorem dctK_eq (v : T) (x : D) : dctK F v env x st = (ev F v env st).bind (dctK2 x) := rfl
theorem v_dct1 (k v : T) : ev F (.dct1 k v) env st = (ev F k env st).bind (dctK F v env) := rfl
def subK2 (x y : D) (st : Store) : Res D := subIx x y st
theorem subK2_eq (x y : D) : subK2 x y st = subIx x y st := rfl
def subK (F : CallF) (i : T) (env : Env) (x : D) (st : Store) : Res D := (ev F i env st).bind (subK2 x)
theorem subK_eq (i : T) (x : D) : subK F i env x st = (ev F i env st).bind (subK2 x) := rfl
theorem v_sub (a i : T) : ev F (.sub a i) env st = (ev F a env st).bind (subK F i env) := rfl
def slcK3 (m : Bool) (x : D) (l h : Option Int) (st : Store) : Res D := slcF m x l h st
theorem slcK3_eq (m : Bool) (x : D) (l h : Option Int) : slcK3 m x l h st = slcF m x l h st := rfl
def slcK2 (F : CallF) (m : Bool) (x : D) (hi : T) (env : Env) (l : Option Int) (st : Store) : Res D := (evo F hi env st).bind (slcK3 m x l)
theorem slcK2_eq (m : Bool) (x : D) (hi : T) (l : Option Int) : slcK2 F m x hi env l st = (evo F hi env st).bind (slcK3 m x l) := rfl
def slcK (F : CallF) (m : Bool) (lo hi : T) (env : Env) (x : D) (st : Store) : Res D := (evo F lo env st).bind (slcK2 F m x hi env)
theorem slcK_eq (m : Bool) (lo hi : T) (x : D) : slcK F m lo hi env x st = (evo F lo env st).bind (slcK2 F m x hi env) := rfl
theorem v_slc (m : Bool) (a lo hi : T) : ev F (.slc m a lo hi) env st = (ev F a env st).bind (slcK F m lo hi env) := rfl
def callK (F : CallF) (f : Nat) (m : Bool) (ds : List D) (st : Store) : Res D := (F f ds st).bind (callEnd m st.length)
theorem callK_eq (f : Nat) (m : Bool) (ds : List D) : callK F f m ds st = (F f ds st).bind (callEnd m st.length) := rfl
theorem v_call (f : Nat) (m : Bool) (es : T) : ev F (.call f m es) env st = (evs F es env st).bind (callK F f m) := rfl
theorem v_blt (b : Blt) (m : Bool) (es : T) : ev F (.blt b m es) env st = (evs F es env st).bind (bltF b m) := rfl
def isiK1 (ty : String) (x : D) (st : Store) : Res D := isiF x ty st
theorem isiK1_eq (ty : String) (x : D) : isiK1 ty x st = isiF x ty st := rfl
theorem v_isi (a : T) (ty : String) : ev F (.isi a ty) env st = (ev F a env st).bind (isiK1 ty) := rfl
theorem v_frz (a : T) : ev F (.frz a) env st = (ev F a env st).bind frzF := rfl
def mthK2 (k : Mth) (x : D) (ds : List D) (st : Store) : Res D := mthF k x ds st
theorem mthK2_eq (k : Mth) (x : D) (ds : List D) : mthK2 k x ds st = mthF k x ds st := rfl
def mthK1 (F : CallF) (k : Mth) (es : T) (env : Env) (x : D) (o : Option (List D)) (st : Store) : Res D := match o with
  | some _ => (evs F es env st).bind (mthK2 k x)
  | none => .err
theorem mthK1_some (k : Mth) (es : T) (x : D) (xs : List D) : mthK1 F k es env x (some xs) st = (evs F es env st).bind (mthK2 k x) := rfl
def mthK (F : CallF) (k : Mth) (es : T) (env : Env) (x : D) (st : Store) : Res D := mthK1 F k es env x (lstOf st x) st
theorem mthK_eq (k : Mth) (es : T) (x : D) : mthK F k es env x st = mthK1 F k es env x (lstOf st x) st := rfl
theorem v_mth (k : Mth) (o es : T) : ev F (.mth k o es) env st = (ev F o env st).bind (mthK F k es env) := by
  simp only [ev]; congr 1; funext x st1; unfold mthK mthK1
  rcases lstOf st1 x with _ | _ <;> rfl
theorem vs_nil : evs F .nil env st = .ok [] st := rfl
def consK2 (d : D) (ds : List D) (st : Store) : Res (List D) := .ok (d :: ds) st
theorem consK2_eq (d : D) (ds : List D) : consK2 d ds st = .ok (d :: ds) st := rfl
def consK (F : CallF) (es : T) (env : Env) (d : D) (st : Store) : Res (List D) := (evs F es env st).bind (consK2 d)
theorem consK_eq (es : T) (d : D) : consK F es env d st = (evs F es env st).bind (consK2 d) := rfl
theorem vs_cons (e es : T) : evs F (.cons e es) env st = (ev F e env st).bind (consK F es env) := rfl
theorem vo_no : evo F .no env st = .ok none st := rfl
def oI (x : D) (st : Store) : Res (Option Int) := match x with
  | .int i => .ok (some i) st
  | _ => .err
@[simp] theorem oI_int (i : Int) (st : Store) : oI (.int i) st = .ok (some i) st := rfl
theorem vo_so (e : T) : evo F (.so e) env st = (ev F e env st).bind oI := by
  simp only [evo]; congr 1
theorem vt_no : evt F .no env st = .ok true st := rfl
def bK (x : D) (st : Store) : Res Bool := match x with
  | .bl b => .ok b st
  | _ => .err
theorem bK_bl (b : Bool) : bK (.bl b) st = .ok b st := rfl
theorem vt_so (e : T) : evt F (.so e) env st = (ev F e env st).bind bK := by
  simp only [evt]; congr 1
theorem vw_sit (e : T) : evw F (.sit e) env st = (ev F e env st).bind wkOf := rfl
theorem vw_srng (k : Nat) (es : T) : evw F (.srng k es) env st = (evs F es env st).bind (rngF k) := rfl
def enW (x : D) (st : Store) : Res Wk := match x with
  | .tup xs => .ok (.fix (enumD xs)) st
  | .lst xs => .ok (.fix (enumD xs)) st
  | _ => .err
@[simp] theorem enW_tup (xs : List D) (st : Store) : enW (.tup xs) st = .ok (.fix (enumD xs)) st := rfl
@[simp] theorem enW_lst (xs : List D) (st : Store) : enW (.lst xs) st = .ok (.fix (enumD xs)) st := rfl
def rvW (x : D) (st : Store) : Res Wk := match x with
  | .lst xs => .ok (.fix xs.reverse) st
  | _ => .err
theorem rvW_lst (xs : List D) : rvW (.lst xs) st = .ok (.fix xs.reverse) st := rfl
theorem vw_srev (e : T) : evw F (.srev e) env st = (ev F e env st).bind rvW := by
  simp only [evw]; congr 1
def zipK2 (x y : D) (st : Store) : Res Wk := zipF x y st
theorem zipK2_eq (x y : D) : zipK2 x y st = zipF x y st := rfl
def zipK (F : CallF) (b : T) (env : Env) (x : D) (st : Store) : Res Wk := (ev F b env st).bind (zipK2 x)
theorem zipK_eq (b : T) (x : D) : zipK F b env x st = (ev F b env st).bind (zipK2 x) := rfl
theorem vw_szip (a b : T) : evw F (.szip a b) env st = (ev F a env st).bind (zipK F b env) := by
  simp only [evw]; congr 1
theorem zip_lr {xs ys : List D} {l : Nat} (h : lstOf st (.ref l) = some ys) (hl : xs.length = ys.length) : zipF (.lst xs) (.ref l) st = .ok (.zp xs l) st := by
  simp only [zipF, h, if_pos hl]
theorem vw_senum (e : T) : evw F (.senum e) env st = (ev F e env st).bind enW := by
  simp only [evw]; congr 1
/-- one turn of a comprehension -/
def someK (d : D) (st : Store) : Res (Option D) := .ok (some d) st
theorem someK_eq (d : D) : someK d st = .ok (some d) st := rfl
def eltK (F : CallF) (elt : T) (env : Env) (b : Bool) (st : Store) : Res (Option D) := match b with
  | true => (ev F elt env st).bind someK
  | false => .ok none st
theorem eltK_t (elt : T) : eltK F elt env true st = (ev F elt env st).bind someK := rfl
theorem eltK_f (elt : T) : eltK F elt env false st = .ok none st := rfl
def cturnO (F : CallF) (cond elt : T) (o : Option Env) (st : Store) : Res (Option D) := match o with
  | none => .err
  | some env2 => (evt F cond env2 st).bind (eltK F elt env2)
theorem cturnO_some (cond elt : T) (env2 : Env) : cturnO F cond elt (some env2) st = (evt F cond env2 st).bind (eltK F elt env2) := rfl
def cturn (F : CallF) (tg cond elt : T) (env : Env) (x : D) (st : Store) : Res (Option D) := cturnO F cond elt (asgN tg x env) st
theorem cturn_eq (tg cond elt : T) (x : D) : cturn F tg cond elt env x st = cturnO F cond elt (asgN tg x env) st := rfl
theorem asgN_tnm (i : Nat) (d : D) : asgN (.tnm i) d env = if i < env.length then some (env.set i (some d)) else none := rfl
theorem asgN_ttp (ts : T) (xs : List D) : asgN (.ttp ts) (.tup xs) env = asgN.asgNs ts xs env := rfl
theorem asgN_nil : asgN.asgNs .nil [] env = some env := rfl
theorem asgN_cons (i : Nat) (ts : T) (x : D) (xs : List D) : asgN.asgNs (.cons (.tnm i) ts) (x :: xs) env = if i < env.length then asgN.asgNs ts xs (env.set i (some x)) else none := rfl
theorem wipe_nil : wipeE env [] = env := rfl
theorem wipe_cons (v : Nat) (vs : List Nat) : wipeE env (v :: vs) = (wipeE env vs).set v none := rfl
def compS (F : CallF) (m : Bool) (tg cond elt : T) (env : Env) (w : Wk) (st : Store) : Res D := match w with
  | .fix xs => (compL (cturn F tg cond elt env) st.length xs (st ++ [some (.lst [])])).bind fun _ st2 => compEnd m st.length st2
  | .live l => (compR (cturn F tg cond elt env) st.length l fuel 0 (st ++ [some (.lst [])])).bind fun _ st2 => compEnd m st.length st2
  | .zp _ _ => .err
theorem compS_fix (m : Bool) (tg cond elt : T) (xs : List D) : compS F m tg cond elt env (.fix xs) st = (compL (cturn F tg cond elt env) st.length xs (st ++ [some (.lst [])])).bind fun _ st2 => compEnd m st.length st2 := rfl
theorem v_comp (m : Bool) (src tg : T) (own : List (Str × Nat)) (cond elt : T) :
    ev F (.comp m src tg own cond elt) env st = (evw F src env st).bind (compS F m tg cond elt (wipeE env (own.map (·.2)))) := by
  simp only [ev]; congr 1; funext w st1
  cases w with
  | fix xs =>
    show (compL _ st1.length xs _).bind _ = (compL (cturn F tg cond elt (wipeE env (own.map (·.2)))) st1.length xs _).bind _
    congr 2; funext x st; unfold cturn
    cases asgN tg x (wipeE env (own.map (·.2))) with
    | none => rfl
    | some env2 => simp only [cturnO]; congr 1; funext b st3; cases b <;> rfl
  | live l =>
    show (compR _ st1.length l fuel 0 _).bind _ = (compR (cturn F tg cond elt (wipeE env (own.map (·.2)))) st1.length l fuel 0 _).bind _
    congr 2; funext x st; unfold cturn
    cases asgN tg x (wipeE env (own.map (·.2))) with
    | none => rfl
    | some env2 => simp only [cturnO]; congr 1; funext b st3; cases b <;> rfl
  | zp xs l => rfl
end
section
variable {F : CallF} {env : Env} {st : Store}
theorem as_tnm (i : Nat) (d : D) : asg F (.tnm i) d env st = if i < env.length then some (env.set i (some d), st) else none := rfl
end

/-! ### numbers -/
section
variable (st : Store) (i j : Int)
theorem add_int (m : Bool) : binF m .Add (.int i) (.int j) st = .ok (.int (i + j)) st := rfl
theorem sub_int (m : Bool) : binF m .Sub (.int i) (.int j) st = .ok (.int (i - j)) st := rfl
theorem mul_int (m : Bool) (h : mulOk i j = true) : binF m .Mult (.int i) (.int j) st = .ok (.int (i * j)) st := by simp only [binF, mulF, if_pos h]
theorem div_int (m : Bool) (h : divOk j = true) : binF m .FloorDiv (.int i) (.int j) st = .ok (.int (i / j)) st := by simp only [binF, divF, if_pos h]
theorem mod_int (m : Bool) (h : 0 < j) : binF m .Mod (.int i) (.int j) st = .ok (.int (i % j)) st := by simp only [binF, modF, if_pos h]
theorem pow_int (m : Bool) (h : powOk i j = true) : binF m .Pow (.int i) (.int j) st = .ok (.int (i ^ j.toNat)) st := by simp only [binF, powF, if_pos h]
theorem shl_int (m : Bool) (h : powOk i j = true) : binF m .LShift (.int i) (.int j) st = .ok (.int (i * 2 ^ j.toNat)) st := by simp only [binF, shlF, if_pos h]
theorem shr_int (m : Bool) (h : 0 ≤ j) : binF m .RShift (.int i) (.int j) st = .ok (.int (i / 2 ^ j.toNat)) st := by simp only [binF, shrF, if_pos h]
theorem lt_int : cmpF .Lt (.int i) (.int j) st = some (decide (i < j)) := rfl
theorem le_int : cmpF .LtE (.int i) (.int j) st = some (decide (i ≤ j)) := rfl
theorem gt_int : cmpF .Gt (.int i) (.int j) st = some (decide (j < i)) := rfl
theorem ge_int : cmpF .GtE (.int i) (.int j) st = some (decide (j ≤ i)) := rfl
end
theorem log2_lt_of {a e : Nat} (h : a < 2 ^ e) (he : 0 < e) : a.log2 < e := by
  by_cases h0 : a = 0
  · subst h0; simpa using he
  · exact (Nat.log2_lt h0).mpr h
theorem mulOk_of {i j : Int} (h1 : -10 ^ 100 < i) (h2 : i < 10 ^ 100) (h3 : -10 ^ 100 < j) (h4 : j < 10 ^ 100) : mulOk i j = true := by
  have a : i.natAbs < 2 ^ 400 := by omega
  have b : j.natAbs < 2 ^ 400 := by omega
  have := log2_lt_of a (by omega)
  have := log2_lt_of b (by omega)
  simp only [mulOk, decide_eq_true_eq]; omega
theorem divOk_of {j : Int} (h1 : 0 < j) (h2 : j < 10 ^ 100) : divOk j = true := by
  have b : j.natAbs < 2 ^ 400 := by omega
  have := log2_lt_of b (by omega)
  simp only [divOk, Bool.and_eq_true, decide_eq_true_eq]; omega
theorem powOk_of {i j : Int} (h0 : 0 ≤ j) (h1 : j ≤ 1000000) (h2 : -2 ^ 64 < i) (h3 : i < 2 ^ 64) : powOk i j = true := by
  simp only [powOk, Bool.and_eq_true, decide_eq_true_eq]; omega

section
variable (st : Store) (i j : Int) (m : Bool)
theorem mul_o (h1 : -10 ^ 100 < i) (h2 : i < 10 ^ 100) (h3 : -10 ^ 100 < j) (h4 : j < 10 ^ 100) : binF m .Mult (.int i) (.int j) st = .ok (.int (i * j)) st := mul_int st i j m (mulOk_of h1 h2 h3 h4)
theorem div_o (h1 : 0 < j) (h2 : j < 10 ^ 100) : binF m .FloorDiv (.int i) (.int j) st = .ok (.int (i / j)) st := div_int st i j m (divOk_of h1 h2)
theorem mod_o (h1 : 0 < j) : binF m .Mod (.int i) (.int j) st = .ok (.int (i % j)) st := mod_int st i j m h1
theorem pow_o (h0 : 0 ≤ j) (h1 : j ≤ 1000000) (h2 : -2 ^ 64 < i) (h3 : i < 2 ^ 64) : binF m .Pow (.int i) (.int j) st = .ok (.int (i ^ j.toNat)) st := pow_int st i j m (powOk_of h0 h1 h2 h3)
theorem shl_o (h0 : 0 ≤ j) (h1 : j ≤ 1000000) (h2 : -2 ^ 64 < i) (h3 : i < 2 ^ 64) : binF m .LShift (.int i) (.int j) st = .ok (.int (i * 2 ^ j.toNat)) st := shl_int st i j m (powOk_of h0 h1 h2 h3)
theorem shr_o (h0 : 0 ≤ j) : binF m .RShift (.int i) (.int j) st = .ok (.int (i / 2 ^ j.toNat)) st := shr_int st i j m h0
end

/-! ### what stands in lists, and other things -/
theorem atI_of {α : Type} {xs : List α} {i : Int} (h0 : 0 ≤ i) (h : i < xs.length) : ∃ x, atI xs i = some x ∧ xs[i.toNat]? = some x := by
  have hl : i.toNat < xs.length := by omega
  refine ⟨xs[i.toNat], ?_, by simp [hl]⟩
  simp only [atI, ixN, if_pos h0, if_pos h, Option.bind_some]
  simp [hl]
theorem atI_nonneg {α : Type} {xs : List α} {i : Int} {x : α} (h0 : 0 ≤ i) (h : xs[i.toNat]? = some x) : atI xs i = some x := by
  have : i.toNat < xs.length := (List.getElem?_eq_some_iff.mp h).1
  simp only [atI, ixN, if_pos h0, if_pos (show i < xs.length by omega), Option.bind_some, h]
theorem atI_ofNat {α : Type} (xs : List α) (k : Nat) : atI xs (k : Int) = xs[k]? := by
  simp only [atI, ixN, if_pos (Int.natCast_nonneg k)]
  by_cases h : (k : Int) < xs.length
  · have h2 : k < xs.length := by omega
    simp [h2]
  · simp only [if_neg h, Option.bind_none]
    exact (List.getElem?_eq_none (by omega)).symm
theorem atI_lit {α : Type} (xs : List α) (k : Nat) : atI xs (no_index (OfNat.ofNat k) : Int) = xs[k]? := atI_ofNat xs k
theorem atI_zero {α : Type} (xs : List α) : atI xs 0 = xs[0]? := atI_ofNat xs 0
theorem atI_one {α : Type} (xs : List α) : atI xs 1 = xs[1]? := atI_ofNat xs 1
theorem ixN_ofNat (n k : Nat) : ixN n (k : Int) = if k < n then some k else none := by
  simp only [ixN, if_pos (Int.natCast_nonneg k)]
  by_cases h : k < n
  · rw [if_pos h, if_pos (by omega)]; simp
  · rw [if_neg h, if_neg (by omega)]
theorem ixN_0 (n : Nat) : ixN n 0 = if 0 < n then some 0 else none := ixN_ofNat n 0
theorem ixN_1 (n : Nat) : ixN n 1 = if 1 < n then some 1 else none := ixN_ofNat n 1
theorem ixN_2 (n : Nat) : ixN n 2 = if 2 < n then some 2 else none := ixN_ofNat n 2
theorem ixN_3 (n : Nat) : ixN n 3 = if 3 < n then some 3 else none := ixN_ofNat n 3
theorem atI_2 {α : Type} (xs : List α) : atI xs 2 = xs[2]? := atI_ofNat xs 2
theorem atI_3 {α : Type} (xs : List α) : atI xs 3 = xs[3]? := atI_ofNat xs 3
theorem atI_4 {α : Type} (xs : List α) : atI xs 4 = xs[4]? := atI_ofNat xs 4
theorem atI_5 {α : Type} (xs : List α) : atI xs 5 = xs[5]? := atI_ofNat xs 5
theorem atI_6 {α : Type} (xs : List α) : atI xs 6 = xs[6]? := atI_ofNat xs 6
theorem atI_7 {α : Type} (xs : List α) : atI xs 7 = xs[7]? := atI_ofNat xs 7
theorem atI_8 {α : Type} (xs : List α) : atI xs 8 = xs[8]? := atI_ofNat xs 8
theorem atI_9 {α : Type} (xs : List α) : atI xs 9 = xs[9]? := atI_ofNat xs 9
def subO {α : Type} (f : α → D) (o : Option α) (st : Store) : Res D := match o with
  | some d => .ok (f d) st
  | none => .err
@[simp] theorem subO_some {α : Type} (f : α → D) (d : α) (st : Store) : subO f (some d) st = .ok (f d) st := rfl
section
variable (st : Store) (i : Int)
theorem sub_tup (xs : List D) : subIx (.tup xs) (.int i) st = subO id (atI xs i) st := by
  simp only [subIx]; cases atI xs i <;> rfl
theorem sub_lst (xs : List D) : subIx (.lst xs) (.int i) st = subO id (atI xs i) st := by
  simp only [subIx, lstOf]; cases atI xs i <;> rfl
theorem sub_scr (xs : List Int) : subIx (.scr xs) (.int i) st = subO D.int (atI xs i) st := by
  simp only [subIx]; cases atI xs i <;> rfl
theorem sub_ref {l : Nat} {xs : List D} (h : lstOf st (.ref l) = some xs) : subIx (.ref l) (.int i) st = subO id (atI xs i) st := by
  simp only [subIx, h]; cases atI xs i <;> rfl
def subL (o : Option (List D)) (i : Int) (st : Store) : Res D := match o with
  | some xs => subO id (atI xs i) st
  | none => .err
theorem subL_some (xs : List D) : subL (some xs) i st = subO id (atI xs i) st := rfl
theorem sub_rf (l : Nat) : subIx (.ref l) (.int i) st = subL (lstOf st (.ref l)) i st := by
  simp only [subIx, subL]
  cases lstOf st (.ref l) with
  | none => rfl
  | some xs => simp only; cases atI xs i <;> rfl
def lenO (o : Option (List D)) (st : Store) : Res D := match o with
  | some xs => .ok (.int xs.length) st
  | none => .err
theorem lenO_some (xs : List D) : lenO (some xs) st = .ok (.int xs.length) st := rfl
theorem len_rf (m : Bool) (l : Nat) : bltF .len m [.ref l] st = lenO (lstOf st (.ref l)) st := by
  simp only [bltF, lenL, lenF, lenO] <;> cases lstOf st (.ref l) <;> rfl
theorem lstOf_ref (l : Nat) : lstOf st (.ref l) = st[l]?.join.map Cell.xs := by
  simp only [lstOf]; rcases st[l]? with _ | _ | _ <;> rfl
theorem lstOf_lst (xs : List D) : lstOf st (.lst xs) = some xs := rfl
theorem lstOf_tup (xs : List D) : lstOf st (.tup xs) = none := rfl
theorem xs_lst (xs : List D) : Cell.xs (.lst xs) = xs := rfl
theorem xs_fz (xs : List D) : Cell.xs (.fz xs) = xs := rfl
theorem len_tup (m : Bool) (xs : List D) : bltF .len m [.tup xs] st = .ok (.int xs.length) st := rfl
theorem len_lst (m : Bool) (xs : List D) : bltF .len m [.lst xs] st = .ok (.int xs.length) st := rfl
theorem len_scr (m : Bool) (xs : List Int) : bltF .len m [.scr xs] st = .ok (.int xs.length) st := rfl
theorem len_ref (m : Bool) {l : Nat} {xs : List D} (h : lstOf st (.ref l) = some xs) : bltF .len m [.ref l] st = .ok (.int xs.length) st := by
  simp only [bltF, lenL, lenF, h]
end
section
variable (m : Bool) (n : Nat) (st : Store)
theorem ce_non : callEnd m n .non st = .ok .non (st.take n) := rfl
theorem ce_bl (b : Bool) : callEnd m n (.bl b) st = .ok (.bl b) (st.take n) := rfl
theorem ce_int (i : Int) : callEnd m n (.int i) st = .ok (.int i) (st.take n) := rfl
theorem ce_str (i : Str) : callEnd m n (.str i) st = .ok (.str i) (st.take n) := rfl
theorem ce_tup (xs : List D) : callEnd m n (.tup xs) st = .ok (.tup xs) (st.take n) := rfl
theorem ce_lst (xs : List D) : callEnd m n (.lst xs) st = .ok (.lst xs) (st.take n) := rfl
theorem ce_dat {d : D} (h : d.isRef = false) : callEnd m n d st = .ok d (st.take n) := by
  cases d with
  | ref l => cases h
  | _ => rfl
theorem be_nx (e : Env) : bodyEnd (.nx e st) = .ok .non st := rfl
theorem be_rt (d : D) : bodyEnd (.rt d st) = .ok d st := rfl
end
/-! ### are two things alike -/
def val (st : Store) (d : D) : D := match lstOf st d with
  | some xs => .lst xs
  | none => d
def eqD (x y : D) : Option Bool := match x.py, y.py with
  | some p, some q => if SeqAt.shaped p && SeqAt.shaped q then some (PyData.eqv p q) else none
  | _, _ => none
theorem pyOf_val (st : Store) (d : D) : pyOf st d = (val st d).py := by
  unfold pyOf val
  cases lstOf st d with
  | none => rfl
  | some xs => simp only [D.py]
theorem eqF_val (st : Store) (x y : D) : eqF st x y = eqD (val st x) (val st y) := by
  simp only [eqF, eqD, pyOf_val] <;> rcases (val st x).py with _ | p <;> rcases (val st y).py with _ | q <;> rfl
section
variable (st : Store)
theorem eq_val (x y : D) : cmpF .Eq x y st = eqD (val st x) (val st y) := eqF_val st x y
theorem ne_val (x y : D) : cmpF .NotEq x y st = (eqD (val st x) (val st y)).map (!·) := by simp only [cmpF, eqF_val]
theorem val_non : val st .non = .non := rfl
theorem val_bl (b : Bool) : val st (.bl b) = .bl b := rfl
theorem val_int (b : Int) : val st (.int b) = .int b := rfl
theorem val_str (b : Str) : val st (.str b) = .str b := rfl
theorem val_tup (b : List D) : val st (.tup b) = .tup b := rfl
theorem val_lst (b : List D) : val st (.lst b) = .lst b := rfl
def valO (l : Nat) (o : Option (List D)) : D := match o with
  | some xs => .lst xs
  | none => .ref l
theorem valO_some (l : Nat) (xs : List D) : valO l (some xs) = .lst xs := rfl
theorem val_rf (l : Nat) : val st (.ref l) = valO l (lstOf st (.ref l)) := by
  unfold val valO
  cases lstOf st (.ref l) <;> rfl
theorem val_dat {d : D} (h : d.isRef = false) : val st d = d := by
  cases d with
  | ref l => cases h
  | _ => rfl
end
theorem eqD_int (i j : Int) : eqD (.int i) (.int j) = some (decide (i = j)) := by
  show some (i == j) = _
  congr 1
theorem eqD_bl (i j : Bool) : eqD (.bl i) (.bl j) = some (decide (i = j)) := by cases i <;> cases j <;> rfl
/-- plain data, not deep -/
def Pl (k : Nat) (d : D) : Prop := ∃ p, d.py = some p ∧ p.canLay0 = true ∧ p.depth ≤ k
def Pls (k : Nat) (ds : List D) : Prop := ∃ ps, pys ds = some ps ∧ PyData.canLayAll0 ps = true ∧ PyData.depthAll ps ≤ k
theorem Pl.le {k k' : Nat} {d : D} (h : Pl k d) (hk : k ≤ k') : Pl k' d := let ⟨p, a, b, c⟩ := h; ⟨p, a, b, Nat.le_trans c hk⟩
theorem Pl.int {k : Nat} (i : Int) : Pl k (.int i) := ⟨.int i, rfl, rfl, Nat.zero_le _⟩
theorem Pl.bl {k : Nat} (i : Bool) : Pl k (.bl i) := ⟨.bool i, rfl, rfl, Nat.zero_le _⟩
theorem Pl.non {k : Nat} : Pl k .non := ⟨.none, rfl, rfl, Nat.zero_le _⟩
theorem Pl.str {k : Nat} {s : Str} (h : PyData.strOk s = true) : Pl k (.str s) := ⟨.str s, rfl, by simpa [PyData.canLay0] using h, Nat.zero_le _⟩
theorem Pls.nil {k : Nat} : Pls k [] := ⟨[], rfl, rfl, Nat.zero_le _⟩
theorem Pls.cons {k : Nat} {d : D} {ds : List D} (h : Pl k d) (r : Pls k ds) : Pls k (d :: ds) := by
  obtain ⟨p, a, b, c⟩ := h
  obtain ⟨ps, a2, b2, c2⟩ := r
  refine ⟨p :: ps, by simp only [pys, a, a2], by simp only [PyData.canLayAll0, b, b2, Bool.and_self], ?_⟩
  simp only [PyData.depthAll]
  omega
theorem Pls.of {k : Nat} : ∀ {ds : List D}, (∀ d ∈ ds, Pl k d) → Pls k ds
  | [], _ => .nil
  | d :: ds, h => .cons (h d (by simp)) (Pls.of fun x hx => h x (by simp [hx]))
theorem Pl.tup {k : Nat} {ds : List D} (h : ∀ d ∈ ds, Pl k d) : Pl (k + 1) (.tup ds) := by
  obtain ⟨ps, a, b, c⟩ := Pls.of h
  exact ⟨.tuple ps, by simp only [D.py, a, Option.map_some], by simpa only [PyData.canLay0] using b, by simp only [PyData.depth]; omega⟩
theorem Pl.lst {k : Nat} {ds : List D} (h : ∀ d ∈ ds, Pl k d) : Pl (k + 1) (.lst ds) := by
  obtain ⟨ps, a, b, c⟩ := Pls.of h
  exact ⟨.list ps, by simp only [D.py, a, Option.map_some], by simpa only [PyData.canLay0] using b, by simp only [PyData.depth]; omega⟩
mutual
theorem eqv_refl : ∀ (p : PyData), p.canLay0 = true → PyData.eqv p p = true
  | .none, _ => rfl
  | .bool b, _ => by simp [PyData.eqv]
  | .int i, _ => by simp [PyData.eqv]
  | .str x, _ => by simp [PyData.eqv]
  | .list xs, h => by simp only [PyData.eqv]; exact eqvAll_refl xs (by simpa only [PyData.canLay0] using h)
  | .tuple xs, h => by simp only [PyData.eqv]; exact eqvAll_refl xs (by simpa only [PyData.canLay0] using h)
  | .dict _, h => by simp [PyData.canLay0] at h
theorem eqvAll_refl : ∀ (ps : List PyData), PyData.canLayAll0 ps = true → PyData.eqvAll ps ps = true
  | [], _ => rfl
  | p :: ps, h => by
    simp only [PyData.canLayAll0, Bool.and_eq_true] at h
    simp only [PyData.eqvAll, eqv_refl p h.1, eqvAll_refl ps h.2, Bool.and_self]
end
theorem eqD_of {x y : D} {p q : PyData} (hx : x.py = some p) (hy : y.py = some q) (lx : p.canLay0 = true) (ly : q.canLay0 = true) (dx : p.depth ≤ 64) (dy : q.depth ≤ 64) :
    eqD x y = some (PyData.eqv p q) := by
  simp only [eqD, hx, hy, SeqAt.shaped, lx, ly, dx, dy, decide_true, Bool.and_self, if_true]
theorem eqD_refl {d : D} (h : Pl 64 d) : eqD d d = some true := by
  obtain ⟨p, a, b, c⟩ := h
  rw [eqD_of a a b b c c, eqv_refl p b]
theorem eqD_nil {xs : List D} (h : Pl 64 (.lst xs)) : eqD (.lst xs) (.lst []) = some xs.isEmpty := by
  obtain ⟨p, a, b, c⟩ := h
  rw [eqD_of a (show (D.lst []).py = some (.list []) from rfl) b rfl c (by decide)]
  cases xs with
  | nil => simp only [D.py, pys, Option.map_some] at a; cases a; rfl
  | cons x xs =>
    simp only [D.py, pys] at a
    rcases h1 : x.py with _ | q
    · rw [h1] at a; cases a
    · rcases h2 : pys xs with _ | qs
      · rw [h1, h2] at a; cases a
      · rw [h1, h2] at a; cases a; rfl
theorem Pl.ints {k : Nat} (ns : List Int) : Pl (k + 1) (.lst (ns.map .int)) := .lst fun d hd => by
  obtain ⟨n, _, rfl⟩ := List.mem_map.mp hd
  exact .int n
theorem Pl.tints {k : Nat} (ns : List Int) : Pl (k + 1) (.tup (ns.map .int)) := .tup fun d hd => by
  obtain ⟨n, _, rfl⟩ := List.mem_map.mp hd
  exact .int n

/-! ### more -/
section
variable (st : Store)
def tupleO (o : Option (List D)) (st : Store) : Res D := match o with
  | some xs => .ok (.tup xs) st
  | none => .err
theorem tupleO_some (xs : List D) : tupleO (some xs) st = .ok (.tup xs) st := rfl
theorem tuple_rf (m : Bool) (l : Nat) : bltF .tuple m [.ref l] st = tupleO (lstOf st (.ref l)) st := by
  simp only [bltF, tupleL, tupleO] <;> cases lstOf st (.ref l) <;> rfl
theorem tuple_lst (m : Bool) (xs : List D) : bltF .tuple m [.lst xs] st = .ok (.tup xs) st := rfl
theorem tuple_tup (m : Bool) (xs : List D) : bltF .tuple m [.tup xs] st = .ok (.tup xs) st := rfl
def listO (m : Bool) (o : Option (List D)) (st : Store) : Res D := match o with
  | some xs => mk m xs st
  | none => .err
theorem listO_some (m : Bool) (xs : List D) : listO m (some xs) st = mk m xs st := rfl
theorem list_rf (m : Bool) (l : Nat) : bltF .list m [.ref l] st = listO m (lstOf st (.ref l)) st := by
  simp only [bltF, listL, listO] <;> cases lstOf st (.ref l) <;> rfl
theorem list_lst (m : Bool) (xs : List D) : bltF .list m [.lst xs] st = mk m xs st := rfl
theorem list_tup (m : Bool) (xs : List D) : bltF .list m [.tup xs] st = mk m xs st := rfl
theorem int_int (m : Bool) (i : Int) : bltF .int m [.int i] st = .ok (.int i) st := rfl
theorem str_str (m : Bool) (z : Str) : bltF .str m [.str z] st = .ok (.str z) st := rfl
theorem str_o (m : Bool) (i : Int) (h1 : -10 ^ 500 < i) (h2 : i < 10 ^ 500) : bltF .str m [.int i] st = .ok (.str (toString i)) st := by
  have a : i.natAbs < 2 ^ 1900 := by omega
  have := log2_lt_of a (by omega)
  simp only [bltF, strL, if_pos (show i.natAbs.log2 < 1920 by omega)]
theorem int_bl (m : Bool) (b : Bool) : bltF .int m [.bl b] st = .ok (.int (if b then 1 else 0)) st := rfl
def frzO (st : Store) (l : Nat) (o : Option Cell) : Res D := match o with
  | some (.lst xs) => .ok (.lst xs) (st.set l (some (.fz xs)))
  | some (.fz xs) => .ok (.lst xs) st
  | _ => .err
theorem frzO_lst (l : Nat) (xs : List D) : frzO st l (some (.lst xs)) = .ok (.lst xs) (st.set l (some (.fz xs))) := rfl
theorem frzO_fz (l : Nat) (xs : List D) : frzO st l (some (.fz xs)) = .ok (.lst xs) st := rfl
theorem frz_rf (l : Nat) : frzF (.ref l) st = frzO st l st[l]?.join := by
  simp only [frzF, frzO]; rcases st[l]? with _ | _ | _ | _ <;> rfl
theorem frz_dat {d : D} (h : d.isRef = false) : frzF d st = .ok d st := by
  cases d with
  | ref l => cases h
  | _ => rfl
end
theorem mid_get {α : Type} (R X : List α) (c : α) : (R ++ c :: X)[R.length]? = some c := by simp
theorem mid_set {α : Type} (R X : List α) (c d : α) : (R ++ c :: X).set R.length d = R ++ d :: X := by simp
theorem app_nil {α : Type} (R X : List α) (c : α) : (R ++ [c]) ++ X = R ++ c :: X := by simp
theorem mapnot (b : Bool) : Option.map (!·) (some b) = some (!b) := rfl

/-! ### loops -/
section
variable {body : D → Store → Res (Option D)} {n : Nat}
theorem compL_map {g : D → Option D} {st : Store} (hn : st.length = n) : ∀ (xs : List D) (acc : List D),
    (∀ x ∈ xs, ∀ acc, body x (st ++ [some (.lst acc)]) = .ok (g x) (st ++ [some (.lst acc)])) → (∀ x ∈ xs, ∀ d, g x = some d → d.isRef = false) →
    acc.length + xs.length ≤ sizeLine → compL body n xs (st ++ [some (.lst acc)]) = .ok () (st ++ [some (.lst (acc ++ xs.filterMap g))])
  | [], acc, _, _, _ => by simp [compL]
  | x :: xs, acc, h, hr, hs => by
    have h1 := h x (by simp) acc
    simp only [List.length_cons] at hs
    cases hg : g x with
    | none =>
      rw [hg] at h1
      simp only [compL, h1, List.filterMap_cons, hg]
      exact compL_map hn xs acc (fun y hy => h y (by simp [hy])) (fun y hy => hr y (by simp [hy])) (by omega)
    | some d =>
      rw [hg] at h1
      have e : (st ++ [some (Cell.lst acc)])[n]? = some (some (.lst acc)) := by rw [← hn]; simp
      have c : d.isRef = false ∧ acc.length < sizeLine := ⟨hr x (by simp) d hg, by omega⟩
      simp only [compL, h1, e, if_pos c, List.filterMap_cons, hg]
      have e2 : (st ++ [some (Cell.lst acc)]).set n (some (.lst (acc ++ [d]))) = st ++ [some (.lst (acc ++ [d]))] := by rw [← hn]; simp
      rw [e2, compL_map hn xs (acc ++ [d]) (fun y hy => h y (by simp [hy])) (fun y hy => hr y (by simp [hy])) (by simp; omega)]
      simp
theorem compL_inv (P : Nat → List D → Store → Prop) : ∀ (xs ys : List D) (acc : List D) (st : Store), st.length = n →
    (∀ x i acc st1, ys[i]? = some x → P i acc st1 → st1.length = n →
      ∃ o st2, body x (st1 ++ [some (.lst acc)]) = .ok o (st2 ++ [some (.lst acc)]) ∧ st2.length = n ∧ (∀ d, o = some d → d.isRef = false) ∧ P (i + 1) (acc ++ o.toList) st2) →
    acc.length + xs.length ≤ sizeLine → ∀ i, ys.drop i = xs → P i acc st →
    ∃ zs st2, compL body n xs (st ++ [some (.lst acc)]) = .ok () (st2 ++ [some (.lst zs)]) ∧ st2.length = n ∧ P (i + xs.length) zs st2
  | [], ys, acc, st, hn, _, _, i, _, hp => ⟨acc, st, by simp [compL], hn, by simpa using hp⟩
  | x :: xs, ys, acc, st, hn, step, hs, i, hd, hp => by
    have hi : ys[i]? = some x := by
      have := congrArg (fun l => l[0]?) hd
      simpa using this
    have hd2 : ys.drop (i + 1) = xs := by
      have := congrArg List.tail hd
      simpa using this
    obtain ⟨o, st2, h1, h2, h3, h4⟩ := step x i acc st hi hp hn
    simp only [List.length_cons] at hs
    have ei : i + (x :: xs).length = i + 1 + xs.length := by simp only [List.length_cons]; omega
    rw [ei]
    cases o with
    | none =>
      obtain ⟨zs, st3, e, h5, h6⟩ := compL_inv P xs ys acc st2 h2 step (by omega) (i + 1) hd2 (by simpa using h4)
      exact ⟨zs, st3, by simp only [compL, h1, e], h5, h6⟩
    | some d =>
      have e1 : (st2 ++ [some (Cell.lst acc)])[n]? = some (some (.lst acc)) := by rw [← h2]; simp
      have c : d.isRef = false ∧ acc.length < sizeLine := ⟨h3 d rfl, by omega⟩
      have e2 : (st2 ++ [some (Cell.lst acc)]).set n (some (.lst (acc ++ [d]))) = st2 ++ [some (.lst (acc ++ [d]))] := by rw [← h2]; simp
      obtain ⟨zs, st3, e, h5, h6⟩ := compL_inv P xs ys (acc ++ [d]) st2 h2 step (by simp; omega) (i + 1) hd2 (by simpa using h4)
      exact ⟨zs, st3, by simp only [compL, h1, e1, if_pos c, e2, e], h5, h6⟩
end
theorem compEnd_mk (m : Bool) (st : Store) (zs : List D) : compEnd m st.length (st ++ [some (.lst zs)]) = mk m zs st := by
  simp only [compEnd, callEnd]
  rw [if_neg (by omega)]
  simp
theorem compS_map {F : CallF} {m : Bool} {tg cond elt : T} {env : Env} {st : Store} {xs : List D} (g : D → Option D)
    (h : ∀ x ∈ xs, ∀ acc, cturn F tg cond elt env x (st ++ [some (.lst acc)]) = .ok (g x) (st ++ [some (.lst acc)]))
    (hr : ∀ x ∈ xs, ∀ d, g x = some d → d.isRef = false) (hs : xs.length ≤ sizeLine) :
    compS F m tg cond elt env (.fix xs) st = mk m (xs.filterMap g) st := by
  rw [compS_fix, compL_map rfl xs [] h hr (by simpa using hs), bind_ok, compEnd_mk]
  simp
theorem compS_inv {F : CallF} {m : Bool} {tg cond elt : T} {env : Env} {st : Store} {xs : List D} (P : Nat → List D → Store → Prop)
    (step : ∀ x i acc st1, xs[i]? = some x → P i acc st1 → st1.length = st.length →
      ∃ o st2, cturn F tg cond elt env x (st1 ++ [some (.lst acc)]) = .ok o (st2 ++ [some (.lst acc)]) ∧ st2.length = st.length ∧ (∀ d, o = some d → d.isRef = false) ∧ P (i + 1) (acc ++ o.toList) st2)
    (hs : xs.length ≤ sizeLine) (h0 : P 0 [] st) :
    ∃ zs st2, compS F m tg cond elt env (.fix xs) st = mk m zs st2 ∧ st2.length = st.length ∧ P xs.length zs st2 := by
  obtain ⟨zs, st2, e, hl, hp⟩ := compL_inv (body := cturn F tg cond elt env) P xs xs [] st rfl step (by simpa using hs) 0 rfl h0
  refine ⟨zs, st2, ?_, hl, by simpa using hp⟩
  rw [compS_fix, e, bind_ok, ← hl, compEnd_mk]
/-- a comprehension over a list of our own that stays as it is -/
theorem compR_eq {body : D → Store → Res (Option D)} {st : Store} {l : Nat} {xs : List D} (g : D → Option D) (hl : lstOf st (.ref l) = some xs)
    (h : ∀ x ∈ xs, ∀ acc, body x (st ++ [some (.lst acc)]) = .ok (g x) (st ++ [some (.lst acc)])) (hr : ∀ x ∈ xs, ∀ d, g x = some d → d.isRef = false) (hs : xs.length ≤ sizeLine) :
    ∀ (k i : Nat) (acc : List D), xs.length < i + k → i ≤ xs.length → acc.length ≤ i → compR body st.length l k i (st ++ [some (.lst acc)]) = .ok () (st ++ [some (.lst (acc ++ (xs.drop i).filterMap g))])
  | 0, i, acc, h1, h2, _ => absurd h1 (by omega)
  | k + 1, i, acc, h1, h2, h3 => by
    have hl' : ∀ X, lstOf (st ++ X) (.ref l) = some xs := by
      intro X
      rw [lstOf_ref] at hl ⊢
      by_cases hlt : l < st.length
      · rw [List.getElem?_append_left hlt]; exact hl
      · rw [List.getElem?_eq_none (by omega)] at hl; cases hl
    rw [compR_succ, hl']
    by_cases hi : i < xs.length
    · have hx := List.getElem?_eq_getElem hi
      have hm := List.getElem_mem hi
      simp only [hx, h _ hm]
      rw [List.drop_eq_getElem_cons hi, List.filterMap_cons]
      cases hg : g xs[i] with
      | none => exact compR_eq g hl h hr hs k (i + 1) acc (by omega) (by omega) (by omega)
      | some d =>
        have e1 : (st ++ [some (Cell.lst acc)])[st.length]? = some (some (.lst acc)) := by simp
        have e2 : (st ++ [some (Cell.lst acc)]).set st.length (some (.lst (acc ++ [d]))) = st ++ [some (.lst (acc ++ [d]))] := by simp
        have c : d.isRef = false ∧ acc.length < sizeLine := ⟨hr _ hm d hg, by omega⟩
        simp only [e1, if_pos c, e2]
        rw [compR_eq g hl h hr hs k (i + 1) (acc ++ [d]) (by omega) (by omega) (by simp; omega), List.append_assoc]
        rfl
    · have hx : xs[i]? = none := List.getElem?_eq_none (by omega)
      simp only [hx]
      rw [List.drop_eq_nil_of_le (by omega)]
      simp
theorem compS_live {F : CallF} {m : Bool} {tg cond elt : T} {env : Env} {st : Store} {l : Nat} {xs : List D} (g : D → Option D) (hl : lstOf st (.ref l) = some xs)
    (h : ∀ x ∈ xs, ∀ acc, cturn F tg cond elt env x (st ++ [some (.lst acc)]) = .ok (g x) (st ++ [some (.lst acc)])) (hr : ∀ x ∈ xs, ∀ d, g x = some d → d.isRef = false) (hs : xs.length ≤ sizeLine) :
    compS F m tg cond elt env (.live l) st = mk m (xs.filterMap g) st := by
  have e : compS F m tg cond elt env (.live l) st = (compR (cturn F tg cond elt env) st.length l fuel 0 (st ++ [some (.lst [])])).bind fun _ st2 => compEnd m st.length st2 := rfl
  rw [e, compR_eq g hl h hr hs fuel 0 [] (by simp only [fuel, sizeLine] at *; omega) (by omega) (by simp), bind_ok, compEnd_mk]
  simp
theorem forL_nil (body : D → Env → Store → SRes) (env : Env) (st : Store) : forL body [] env st = .nx env st := by simp only [forL]
theorem forL_nx {body : D → Env → Store → SRes} {x : D} {xs : List D} {env env' : Env} {st st' : Store} (h : body x env st = .nx env' st') : forL body (x :: xs) env st = forL body xs env' st' := by
  simp only [forL, h]
theorem forL_rt {body : D → Env → Store → SRes} {x d : D} {xs : List D} {env : Env} {st st' : Store} (h : body x env st = .rt d st') : forL body (x :: xs) env st = .rt d st' := by
  simp only [forL, h]
theorem forL_inv {body : D → Env → Store → SRes} (P : Nat → Env → Store → Prop) : ∀ (xs ys : List D) (i : Nat) (env : Env) (st : Store), ys.drop i = xs →
    (∀ x i env st, ys[i]? = some x → P i env st → ∃ env' st', (body x env st = .nx env' st' ∨ body x env st = .ct env' st') ∧ P (i + 1) env' st') →
    P i env st → ∃ env' st', forL body xs env st = .nx env' st' ∧ P (i + xs.length) env' st'
  | [], _, i, env, st, _, _, hp => ⟨env, st, rfl, by simpa using hp⟩
  | x :: xs, ys, i, env, st, hd, step, hp => by
    have hi : ys[i]? = some x := by
      have := congrArg (fun l => l[0]?) hd
      simpa using this
    have hd2 : ys.drop (i + 1) = xs := by
      have := congrArg List.tail hd
      simpa using this
    obtain ⟨env', st', h, hp2⟩ := step x i env st hi hp
    obtain ⟨e2, s2, h2, hp3⟩ := forL_inv P xs ys (i + 1) env' st' hd2 step hp2
    have ei : i + (x :: xs).length = i + 1 + xs.length := by simp only [List.length_cons]; omega
    rw [ei]
    rcases h with h | h <;> exact ⟨e2, s2, by simp only [forL, h, h2], hp3⟩
theorem forL_all {body : D → Env → Store → SRes} {xs : List D} {env : Env} {st : Store} (P : Nat → Env → Store → Prop)
    (step : ∀ x i env st, xs[i]? = some x → P i env st → ∃ env' st', (body x env st = .nx env' st' ∨ body x env st = .ct env' st') ∧ P (i + 1) env' st')
    (h0 : P 0 env st) : ∃ env' st', forL body xs env st = .nx env' st' ∧ P xs.length env' st' := by
  have := forL_inv P xs xs 0 env st rfl step h0
  simpa using this
theorem compS_mapT {F : CallF} {m : Bool} {tg cond elt : T} {env : Env} {st : Store} {xs : List D} (g : D → D)
    (h : ∀ x ∈ xs, ∀ acc, cturn F tg cond elt env x (st ++ [some (.lst acc)]) = .ok (some (g x)) (st ++ [some (.lst acc)]))
    (hr : ∀ x ∈ xs, (g x).isRef = false) (hs : xs.length ≤ sizeLine) :
    compS F m tg cond elt env (.fix xs) st = mk m (xs.map g) st := by
  rw [compS_map (fun x => some (g x)) h (fun x hx d e => by cases e; exact hr x hx) hs, List.filterMap_eq_map']
theorem boolsOf_map {α : Type} (xs : List α) (f : α → Bool) : boolsOf (xs.map fun x => D.bl (f x)) = some (xs.map f) := by
  induction xs with
  | nil => rfl
  | cons x xs ih => simp only [List.map_cons, boolsOf, ih, Option.map_some]
theorem intsOf_map {α : Type} (xs : List α) (f : α → Int) : intsOf (xs.map fun x => D.int (f x)) = some (xs.map f) := by
  induction xs with
  | nil => rfl
  | cons x xs ih => simp only [List.map_cons, intsOf, ih, Option.map_some]
theorem all_map {α : Type} (xs : List α) (f : α → Bool) (m : Bool) (st : Store) : bltF .all m [.lst (xs.map fun x => D.bl (f x))] st = .ok (.bl (xs.all f)) st := by
  simp only [bltF, allL, lstOf, Option.bind_some, boolsOf_map]
  simp [List.all_map]
theorem sum_map {α : Type} (xs : List α) (f : α → Int) (m : Bool) (st : Store) : bltF .sum m [.lst (xs.map fun x => D.int (f x))] st = .ok (.int (xs.map f).sum) st := by
  simp only [bltF, sumL, seqOf, lstOf, Option.bind_some, intsOf_map]
theorem sum_tints (xs : List Int) (m : Bool) (st : Store) : bltF .sum m [.tup (xs.map D.int)] st = .ok (.int xs.sum) st := by
  have := intsOf_map xs (fun x => x)
  rw [List.map_id'] at this
  simp only [bltF, sumL, seqOf, Option.bind_some, this]
theorem isi_dat {d : D} (h : d.isRef = false) {ty : String} (hk : isiK ty = true) (st : Store) : isiF d ty st = .ok (.bl (isiN (tyN d) ty)) st := by
  simp only [isiF, if_pos hk]
  cases d with
  | ref l => cases h
  | _ => rfl

theorem isi_non_int (st : Store) : isiF .non "int" st = .ok (.bl false) st := rfl
theorem isi_non_bool (st : Store) : isiF .non "bool" st = .ok (.bl false) st := rfl
theorem isi_non_str (st : Store) : isiF .non "str" st = .ok (.bl false) st := rfl
theorem isi_non_tuple (st : Store) : isiF .non "tuple" st = .ok (.bl false) st := rfl
theorem isi_non_list (st : Store) : isiF .non "list" st = .ok (.bl false) st := rfl
theorem isi_bl_int (b : Bool) (st : Store) : isiF (.bl b) "int" st = .ok (.bl true) st := rfl
theorem isi_bl_bool (b : Bool) (st : Store) : isiF (.bl b) "bool" st = .ok (.bl true) st := rfl
theorem isi_bl_str (b : Bool) (st : Store) : isiF (.bl b) "str" st = .ok (.bl false) st := rfl
theorem isi_bl_tuple (b : Bool) (st : Store) : isiF (.bl b) "tuple" st = .ok (.bl false) st := rfl
theorem isi_bl_list (b : Bool) (st : Store) : isiF (.bl b) "list" st = .ok (.bl false) st := rfl
theorem isi_int_int (b : Int) (st : Store) : isiF (.int b) "int" st = .ok (.bl true) st := rfl
theorem isi_int_bool (b : Int) (st : Store) : isiF (.int b) "bool" st = .ok (.bl false) st := rfl
theorem isi_int_str (b : Int) (st : Store) : isiF (.int b) "str" st = .ok (.bl false) st := rfl
theorem isi_int_tuple (b : Int) (st : Store) : isiF (.int b) "tuple" st = .ok (.bl false) st := rfl
theorem isi_int_list (b : Int) (st : Store) : isiF (.int b) "list" st = .ok (.bl false) st := rfl
theorem isi_str_int (b : Str) (st : Store) : isiF (.str b) "int" st = .ok (.bl false) st := rfl
theorem isi_str_bool (b : Str) (st : Store) : isiF (.str b) "bool" st = .ok (.bl false) st := rfl
theorem isi_str_str (b : Str) (st : Store) : isiF (.str b) "str" st = .ok (.bl true) st := rfl
theorem isi_str_tuple (b : Str) (st : Store) : isiF (.str b) "tuple" st = .ok (.bl false) st := rfl
theorem isi_str_list (b : Str) (st : Store) : isiF (.str b) "list" st = .ok (.bl false) st := rfl
theorem isi_tup_int (b : List D) (st : Store) : isiF (.tup b) "int" st = .ok (.bl false) st := rfl
theorem isi_tup_bool (b : List D) (st : Store) : isiF (.tup b) "bool" st = .ok (.bl false) st := rfl
theorem isi_tup_str (b : List D) (st : Store) : isiF (.tup b) "str" st = .ok (.bl false) st := rfl
theorem isi_tup_tuple (b : List D) (st : Store) : isiF (.tup b) "tuple" st = .ok (.bl true) st := rfl
theorem isi_tup_list (b : List D) (st : Store) : isiF (.tup b) "list" st = .ok (.bl false) st := rfl
theorem isi_lst_int (b : List D) (st : Store) : isiF (.lst b) "int" st = .ok (.bl false) st := rfl
theorem isi_lst_bool (b : List D) (st : Store) : isiF (.lst b) "bool" st = .ok (.bl false) st := rfl
theorem isi_lst_str (b : List D) (st : Store) : isiF (.lst b) "str" st = .ok (.bl false) st := rfl
theorem isi_lst_tuple (b : List D) (st : Store) : isiF (.lst b) "tuple" st = .ok (.bl false) st := rfl
theorem isi_lst_list (b : List D) (st : Store) : isiF (.lst b) "list" st = .ok (.bl true) st := rfl
theorem isi_scr_int (b : List Int) (st : Store) : isiF (.scr b) "int" st = .ok (.bl false) st := rfl
theorem isi_scr_bool (b : List Int) (st : Store) : isiF (.scr b) "bool" st = .ok (.bl false) st := rfl
theorem isi_scr_str (b : List Int) (st : Store) : isiF (.scr b) "str" st = .ok (.bl false) st := rfl
theorem isi_scr_tuple (b : List Int) (st : Store) : isiF (.scr b) "tuple" st = .ok (.bl false) st := rfl
theorem isi_scr_list (b : List Int) (st : Store) : isiF (.scr b) "list" st = .ok (.bl true) st := rfl
theorem isi_dct_int (st : Store) : isiF .dct "int" st = .ok (.bl false) st := rfl
theorem isi_dct_bool (st : Store) : isiF .dct "bool" st = .ok (.bl false) st := rfl
theorem isi_dct_str (st : Store) : isiF .dct "str" st = .ok (.bl false) st := rfl
theorem isi_dct_tuple (st : Store) : isiF .dct "tuple" st = .ok (.bl false) st := rfl
theorem isi_dct_list (st : Store) : isiF .dct "list" st = .ok (.bl false) st := rfl
section
variable (st : Store)
theorem is_bl (a b : Bool) : cmpF .Is (.bl a) (.bl b) st = some (decide (a = b)) := rfl
theorem isn_bl (a b : Bool) : cmpF .IsNot (.bl a) (.bl b) st = some (!decide (a = b)) := rfl
theorem is_non (x : D) : cmpF .Is x .non st = some (isNon x) := by cases x <;> rfl
theorem isn_non (x : D) : cmpF .IsNot x .non st = some (!isNon x) := by cases x <;> rfl
theorem isNon_non : isNon .non = true := rfl
theorem isNon_bl (a : Bool) : isNon (.bl a) = false := rfl
theorem isNon_int (a : Int) : isNon (.int a) = false := rfl
theorem isNon_str (a : Str) : isNon (.str a) = false := rfl
theorem isNon_tup (a : List D) : isNon (.tup a) = false := rfl
theorem isNon_lst (a : List D) : isNon (.lst a) = false := rfl
theorem isNon_ref (a : Nat) : isNon (.ref a) = false := rfl
theorem add_tup (m : Bool) (a b : List D) (h : a.length + b.length ≤ 16777216) : binF m .Add (.tup a) (.tup b) st = .ok (.tup (a ++ b)) st := by
  simp only [binF, addF, sizeLine]; exact if_pos h
theorem add_lst (m : Bool) (a b : List D) (h : a.length + b.length ≤ 16777216) : binF m .Add (.lst a) (.lst b) st = mk m (a ++ b) st := by
  simp only [binF, addF, lstOf, sizeLine]; exact if_pos h
end
theorem slc_tup (m : Bool) (xs : List D) (lo hi : Option Int) (st : Store) : slcF m (.tup xs) lo hi st = .ok (.tup (cutD xs lo hi)) st := rfl
theorem slc_lst (m : Bool) (xs : List D) (lo hi : Option Int) (st : Store) : slcF m (.lst xs) lo hi st = mk m (cutD xs lo hi) st := rfl
theorem cut_to (xs : List D) (k : Nat) : cutD xs none (some (k : Int)) = xs.take k := by
  simp only [cutD, HT.sIx_none, HT.sIx_nat, List.drop_zero, Nat.sub_zero]
  by_cases h : k ≤ xs.length
  · rw [Nat.min_eq_left h]
  · rw [Nat.min_eq_right (by omega), List.take_of_length_le (Nat.le_refl _), List.take_of_length_le (by omega)]
theorem cut_mid (xs : List D) (j k : Nat) (h1 : j ≤ k) (h2 : k ≤ xs.length) : cutD xs (some (j : Int)) (some (k : Int)) = (xs.drop j).take (k - j) := by
  simp only [cutD, HT.sIx_nat]
  rw [Nat.min_eq_left h2, Nat.min_eq_left (show j ≤ xs.length by omega)]
theorem rngD_zero (lo : Int) : rngD lo 0 = [] := rfl
theorem rngD_succ (lo : Int) (n : Nat) : rngD lo (n + 1) = .int lo :: rngD (lo + 1) n := by
  simp only [rngD, List.range_succ_eq_map, List.map_cons, List.map_map]
  congr 1
  · simp
  · apply List.map_congr_left
    intro k _
    simp only [Function.comp]
    congr 1
    omega
section
variable (st : Store)
def appO (l : Nat) (e : D) (c : Option Cell) : Res D := match c with
  | some (.lst xs) => if e.isRef = false ∧ xs.length < sizeLine then .ok .non (st.set l (some (.lst (xs ++ [e])))) else .err
  | _ => .err
theorem appO_lst (l : Nat) (e : D) (xs : List D) : appO st l e (some (.lst xs)) = if e.isRef = false ∧ xs.length < sizeLine then .ok .non (st.set l (some (.lst (xs ++ [e])))) else .err := rfl
theorem app_rf (l : Nat) (e : D) : mthF .append (.ref l) [e] st = appO st l e st[l]?.join := by
  simp only [mthF, appO] <;> rcases st[l]? with _ | _ | _ | _ <;> rfl
def revO (l : Nat) (c : Option Cell) : Res D := match c with
  | some (.lst xs) => .ok .non (st.set l (some (.lst xs.reverse)))
  | _ => .err
theorem revO_lst (l : Nat) (xs : List D) : revO st l (some (.lst xs)) = .ok .non (st.set l (some (.lst xs.reverse))) := rfl
theorem rev_rf (l : Nat) : mthF .reverse (.ref l) [] st = revO st l st[l]?.join := by
  simp only [mthF, revO] <;> rcases st[l]? with _ | _ | _ | _ <;> rfl
theorem min_int (m : Bool) (i j : Int) : bltF .min m [.int i, .int j] st = .ok (.int (if j < i then j else i)) st := rfl
theorem max_int (m : Bool) (i j : Int) : bltF .max m [.int i, .int j] st = .ok (.int (if j > i then j else i)) st := rfl
theorem max_lst (m : Bool) (n : Int) (ns : List Int) : bltF .max m [.lst ((n :: ns).map D.int)] st = .ok (.int (ns.foldl max n)) st := by
  have := intsOf_map (n :: ns) (fun x => x)
  rw [List.map_id'] at this
  simp only [bltF, maxL, mmL, lstOf, this]
  rfl
theorem min_lst (m : Bool) (n : Int) (ns : List Int) : bltF .min m [.lst ((n :: ns).map D.int)] st = .ok (.int (ns.foldl min n)) st := by
  have := intsOf_map (n :: ns) (fun x => x)
  rw [List.map_id'] at this
  simp only [bltF, minL, mmL, lstOf, this]
  rfl
theorem sorted_lst (m : Bool) (ns : List Int) : bltF .sorted m [.lst (ns.map D.int)] st = mk m ((srtI ns).map .int) st := by
  have := intsOf_map ns (fun x => x)
  rw [List.map_id'] at this
  simp only [bltF, sortedL, lstOf, this]
theorem sorted_rf (m : Bool) (l : Nat) (ns : List Int) (h : lstOf st (.ref l) = some (ns.map D.int)) : bltF .sorted m [.ref l] st = mk m ((srtI ns).map .int) st := by
  have := intsOf_map ns (fun x => x)
  rw [List.map_id'] at this
  simp only [bltF, sortedL, h, this]
end
section
variable (F : CallF) (env : Env) (st : Store)
theorem x_sraise (c : Nat) : ex F (.sraise c) env st = .exc ⟨c, none⟩ env st := rfl
theorem x_stry (b h : T) (c i : Nat) : ex F (.stry b c i h) env st = tryK i c h (ex F b env st) := rfl
theorem try_nx (i c : Nat) (h : T) : tryK i c h (.nx env st) = .nx env st := rfl
theorem try_rt (i c : Nat) (h : T) (d : D) : tryK i c h (.rt d st) = .rt d st := rfl
theorem try_exc (i c x : Nat) (h : T) : tryK i c h (.exc ⟨x, none⟩ env st) = if i < env.length then (if subC x c = true then wipeH i (hs x h (env.set i none) st) else .exc ⟨x, none⟩ env st) else .err := rfl
theorem wipeH_nx (i : Nat) : wipeH i (.nx env st) = .nx (env.set i none) st := rfl
theorem hs_nil (x : Nat) : hs x .nil env st = .nx env st := rfl
theorem hs_cons (x : Nat) (s ss : T) : hs x (.cons s ss) env st = (hs x s env st).andThen (hs x ss) := rfl
theorem hs_set (x i : Nat) (e : T) : hs x (.sset (.tnm i) e) env st = (hv x e env st).thenS env (putK i env) := rfl
def hap2 (l : D) (env : Env) (d : D) (st : Store) : SRes := (mthF .append l [d] st).thenS env (expK env)
theorem hap2_eq (l d : D) : hap2 l env d st = (mthF .append l [d] st).thenS env (expK env) := rfl
def hap1 (x : Nat) (e : T) (env : Env) (l : D) (o : Option (List D)) (st : Store) : SRes := match o with
  | none => .err
  | some _ => (hv x e env st).thenS env (hap2 l env)
theorem hap1_some (x : Nat) (e : T) (l : D) (xs : List D) : hap1 x e env l (some xs) st = (hv x e env st).thenS env (hap2 l env) := rfl
def hap0 (x : Nat) (e : T) (env : Env) (l : D) (st : Store) : SRes := hap1 x e env l (lstOf st l) st
theorem hap0_eq (x : Nat) (e : T) (l : D) : hap0 x e env l st = hap1 x e env l (lstOf st l) st := rfl
theorem hs_app (x i : Nat) (e : T) : hs x (.sexp (.mth .append (.var i) (.cons e .nil))) env st = (hv x (.var i) env st).thenS env (hap0 x e env) := by
  simp only [hs]; congr 1
theorem hv_isx (x : Nat) (cs : List Nat) : hv x (.isx cs) env st = .ok (.bl (cs.any (subC x))) st := by simp only [hv]
theorem hv_var (x i : Nat) : hv x (.var i) env st = optR (env[i]?).join st := by
  simp only [hv]
  rcases env[i]? with _ | _ | _ <;> rfl
theorem hv_lst (x : Nat) (m : Bool) (es : T) : hv x (.lst m es) env st = (hvs x es env st).bind (lstF m) := by simp only [hv]
theorem hvs_nil (x : Nat) : hvs x .nil env st = .ok [] st := by simp only [hvs]
def hcK (x : Nat) (es : T) (env : Env) (d : D) (st : Store) : Res (List D) := (hvs x es env st).bind (consK2 d)
theorem hcK_eq (x : Nat) (es : T) (d : D) : hcK x es env d st = (hvs x es env st).bind (consK2 d) := rfl
theorem hvs_cons (x : Nat) (e es : T) : hvs x (.cons e es) env st = (hv x e env st).bind (hcK x es env) := by simp only [hvs]; rfl
theorem be_exc (x : Exn) : bodyEnd (.exc x env st) = .exc x st := rfl
def rvK (m : Bool) (o : Option (List D)) (st : Store) : Res D := match o with
  | some xs => mk m xs.reverse st
  | none => .err
theorem rvK_some (m : Bool) (xs : List D) : rvK m (some xs) st = mk m xs.reverse st := rfl
def rvK1 (m : Bool) (x : D) (st : Store) : Res D := revF m x st
theorem rvK1_lst (m : Bool) (xs : List D) : rvK1 m (.lst xs) st = rvK m (some xs) st := rfl
theorem rvK1_ref (m : Bool) (l : Nat) : rvK1 m (.ref l) st = rvK m (lstOf st (.ref l)) st := by
  simp only [rvK1, revF, rvK] <;> cases lstOf st (.ref l) <;> rfl
theorem rvK1_tup (m : Bool) (xs : List D) : rvK1 m (.tup xs) st = .ok (.tup xs.reverse) st := rfl
theorem v_rev (m : Bool) (a : T) : ev F (.rev m a) env st = (ev F a env st).bind (rvK1 m) := by
  simp only [ev]; congr 1
theorem in_tup (x : D) (xs : List D) (h : flatD x = true) (hs : xs.all flatD = true) : cmpF .In x (.tup xs) st = some (xs.any fun z => eqFl z x) := by
  simp only [cmpF, inF, seqOf]; exact if_pos ⟨h, hs⟩
theorem nin_tup (x : D) (xs : List D) (h : flatD x = true) (hs : xs.all flatD = true) : cmpF .NotIn x (.tup xs) st = some (!xs.any fun z => eqFl z x) := by
  simp only [cmpF, inF, seqOf]
  rw [if_pos ⟨h, hs⟩]
  rfl
end
/-! ### two names at once; list(range(..)); clear; tuples put in order -/
section
variable (F : CallF) (env : Env) (st : Store)
def parK2 (i j : Nat) (x : D) (env : Env) (y : D) (st : Store) : SRes := if i < env.length then (if j < env.length then .nx ((env.set i (some x)).set j (some y)) st else .err) else .err
theorem parK2_eq (i j : Nat) (x y : D) : parK2 i j x env y st = if i < env.length then (if j < env.length then .nx ((env.set i (some x)).set j (some y)) st else .err) else .err := rfl
def parK1 (F : CallF) (i j : Nat) (b : T) (env : Env) (x : D) (st : Store) : SRes := (ev F b env st).thenS env (parK2 i j x env)
theorem parK1_eq (i j : Nat) (b : T) (x : D) : parK1 F i j b env x st = (ev F b env st).thenS env (parK2 i j x env) := rfl
theorem x_spar (i j : Nat) (a b : T) : ex F (.spar i j a b) env st = (ev F a env st).thenS env (parK1 F i j b env) := by
  simp only [ex]
  congr 1
  funext x st1
  simp only [parK1]
  congr 1
  funext y st2
  simp only [parK2]
  by_cases hi : i < env.length <;> by_cases hj : j < env.length <;> simp [hi, hj]
theorem v_suq (m : Bool) (a : T) : ev F (.suq m a) env st = (ev F a env st).bind (suqF m) := by
  simp only [ev]
theorem suq_ints (m : Bool) (ns : List Int) (h : ns.length + 1 < 4096) : suqF m (.lst (ns.map D.int)) st = mk m ((uqI ns).map .int) st := by
  have e : intsOf (ns.map D.int) = some ns := by
    have := intsOf_map ns (fun x => x)
    rw [List.map_id'] at this
    exact this
  simp only [suqF, lstOf, e]
  rw [if_pos h]
theorem v_mmd (g : Bool) (a : T) : ev F (.mmd g a) env st = (ev F a env st).bind (mmdF g) := by
  simp only [ev]
theorem mmd_ints (g : Bool) (ns : List Int) : mmdF g (.lst (ns.map D.int)) st = .ok (mmV g ns) st := by
  have e : intsOf (ns.map D.int) = some ns := by
    have := intsOf_map ns (fun x => x)
    rw [List.map_id'] at this
    exact this
  simp only [mmdF, lstOf, e]
def cmp4D (op'' : CmpOp) (z u : D) (st : Store) : Res D := optB (cmpF op'' z u st) st
def cmp4C (F : CallF) (op'' : CmpOp) (d : T) (env : Env) (z : D) (o : Option Bool) (st : Store) : Res D := match o with
  | some true => (ev F d env st).bind (cmpK2 op'' z)
  | some false => .ok (.bl false) st
  | none => .err
theorem cmp4C_t (op'' : CmpOp) (d : T) (z : D) : cmp4C F op'' d env z (some true) st = (ev F d env st).bind (cmpK2 op'' z) := rfl
theorem cmp4C_f (op'' : CmpOp) (d : T) (z : D) : cmp4C F op'' d env z (some false) st = .ok (.bl false) st := rfl
def cmp4B2 (F : CallF) (op' op'' : CmpOp) (d : T) (env : Env) (y z : D) (st : Store) : Res D := cmp4C F op'' d env z (cmpF op' y z st) st
theorem cmp4B2_eq (op' op'' : CmpOp) (d : T) (y z : D) : cmp4B2 F op' op'' d env y z st = cmp4C F op'' d env z (cmpF op' y z st) st := rfl
def cmp4B (F : CallF) (op' op'' : CmpOp) (c d : T) (env : Env) (y : D) (o : Option Bool) (st : Store) : Res D := match o with
  | some true => (ev F c env st).bind (cmp4B2 F op' op'' d env y)
  | some false => .ok (.bl false) st
  | none => .err
theorem cmp4B_t (op' op'' : CmpOp) (c d : T) (y : D) : cmp4B F op' op'' c d env y (some true) st = (ev F c env st).bind (cmp4B2 F op' op'' d env y) := rfl
theorem cmp4B_f (op' op'' : CmpOp) (c d : T) (y : D) : cmp4B F op' op'' c d env y (some false) st = .ok (.bl false) st := rfl
def cmp4A2 (F : CallF) (op op' op'' : CmpOp) (c d : T) (env : Env) (x y : D) (st : Store) : Res D := cmp4B F op' op'' c d env y (cmpF op x y st) st
theorem cmp4A2_eq (op op' op'' : CmpOp) (c d : T) (x y : D) : cmp4A2 F op op' op'' c d env x y st = cmp4B F op' op'' c d env y (cmpF op x y st) st := rfl
def cmp4A (F : CallF) (op op' op'' : CmpOp) (b c d : T) (env : Env) (x : D) (st : Store) : Res D := (ev F b env st).bind (cmp4A2 F op op' op'' c d env x)
theorem cmp4A_eq (op op' op'' : CmpOp) (b c d : T) (x : D) : cmp4A F op op' op'' b c d env x st = (ev F b env st).bind (cmp4A2 F op op' op'' c d env x) := rfl
theorem v_cmp4 (op op' op'' : CmpOp) (a b c d : T) : ev F (.cmp4 op op' op'' a b c d) env st = (ev F a env st).bind (cmp4A F op op' op'' b c d env) := by
  simp only [ev]; congr 1
theorem v_lrng (m : Bool) (a : T) : ev F (.lrng m a) env st = (ev F a env st).bind (lrngF m) := by
  simp only [ev]
theorem lrng_n (m : Bool) (n : Nat) (h : n ≤ 16777216) : lrngF m (.int (n : Nat)) st = mk m (rngD 0 n) st := by
  simp only [lrngF]
  rw [if_pos (by simp only [rngOk, Bool.and_eq_true, decide_eq_true_eq]; omega), Int.toNat_natCast]
def clrO (l : Nat) (c : Option Cell) : Res D := match c with
  | some (.lst _) => .ok .non (st.set l (some (.lst [])))
  | _ => .err
theorem clrO_lst (l : Nat) (xs : List D) : clrO st l (some (.lst xs)) = .ok .non (st.set l (some (.lst []))) := rfl
theorem clr_rf (l : Nat) : mthF .clear (.ref l) [] st = clrO st l st[l]?.join := by
  simp only [mthF, clrO] <;> rcases st[l]? with _ | _ | _ | _ <;> rfl
theorem intsOf_ints (ns : List Int) : intsOf (ns.map D.int) = some ns := by
  have := intsOf_map ns (fun x => x)
  rw [List.map_id'] at this
  exact this
theorem tupsOf_tups : ∀ {nss : List (List Int)}, (∀ ns ∈ nss, ns ≠ []) → tupsOf (nss.map tupD) = some nss
  | [], _ => rfl
  | ns :: nss, h => by
    have ih := tupsOf_tups fun n hn => h n (List.mem_cons_of_mem _ hn)
    cases ns with
    | nil => exact absurd rfl (h [] List.mem_cons_self)
    | cons x ns =>
      have e := intsOf_ints (x :: ns)
      rw [List.map_cons] at e
      simp only [List.map_cons, tupD, tupsOf, e]
      rw [ih]
theorem sortedL_tups (m : Bool) (x : D) (nss : List (List Int)) (h : ∀ ns ∈ nss, ns ≠ []) (hl : lstOf st x = some (nss.map tupD)) : bltF .sorted m [x] st = mk m ((srtT nss).map tupD) st := by
  simp only [bltF, sortedL, hl]
  cases nss with
  | nil => rfl
  | cons ns nss =>
    have e : intsOf (List.map tupD (ns :: nss)) = none := rfl
    rw [e, tupsOf_tups h]
end
section
variable (F : CallF) (env : Env) (st : Store)
def isi2K (ty ty' : String) (x : D) (st : Store) : Res D := isi2F x ty ty' st
theorem isi2K_eq (ty ty' : String) (x : D) : isi2K ty ty' x st = isi2F x ty ty' st := rfl
theorem v_isi2 (a : T) (ty ty' : String) : ev F (.isi2 a ty ty') env st = (ev F a env st).bind (isi2K ty ty') := by
  simp only [ev]; congr 1
theorem is2_non : isi2F .non "int" "str" st = .ok (.bl false) st := rfl
theorem is2_bl (b : Bool) : isi2F (.bl b) "int" "str" st = .ok (.bl true) st := rfl
theorem is2_int (b : Int) : isi2F (.int b) "int" "str" st = .ok (.bl true) st := rfl
theorem is2_str (b : Str) : isi2F (.str b) "int" "str" st = .ok (.bl true) st := rfl
theorem is2_tup (b : List D) : isi2F (.tup b) "int" "str" st = .ok (.bl false) st := rfl
theorem is2_lst (b : List D) : isi2F (.lst b) "int" "str" st = .ok (.bl false) st := rfl
def insO (l : Nat) (i : Int) (e : D) (c : Option Cell) : Res D := match c with
  | some (.lst xs) => if e.isRef = false ∧ xs.length < sizeLine ∧ 0 ≤ i ∧ i < 2 ^ 62 then .ok .non (st.set l (some (.lst (xs.take i.toNat ++ [e] ++ xs.drop i.toNat)))) else .err
  | _ => .err
theorem insO_lst (l : Nat) (i : Int) (e : D) (xs : List D) : insO st l i e (some (.lst xs)) = if e.isRef = false ∧ xs.length < sizeLine ∧ 0 ≤ i ∧ i < 2 ^ 62 then .ok .non (st.set l (some (.lst (xs.take i.toNat ++ [e] ++ xs.drop i.toNat)))) else .err := rfl
theorem ins_rf (l : Nat) (i : Int) (e : D) : mthF .insert (.ref l) [.int i, e] st = insO st l i e st[l]?.join := by
  simp only [mthF, insO] <;> rcases st[l]? with _ | _ | _ | _ <;> rfl
theorem count_of {o : D} {ns : List Int} (k : Int) (h : lstOf st o = some (ns.map .int)) : mthF .count o [.int k] st = .ok (.int (ns.count k : Nat)) st := by
  simp only [mthF, h, Option.bind_some, intsOf_ints]
theorem index_of {o : D} {ns : List Int} {k : Int} {j : Nat} (h : lstOf st o = some (ns.map .int)) (hj : idxI k ns = some j) : mthF .index o [.int k] st = .ok (.int (j : Nat)) st := by
  simp only [mthF, h, Option.bind_some, intsOf_ints, hj]
theorem gt_tups (ns ms : List Int) : cmpF .Gt (.tup (ns.map .int)) (.tup (ms.map .int)) st = some (HT.lexLt ms ns) := by
  simp only [cmpF, gtF, intsOf_ints]
theorem ge_tups (ns ms : List Int) : cmpF .GtE (.tup (ns.map .int)) (.tup (ms.map .int)) st = some (!HT.lexLt ns ms) := by
  simp only [cmpF, geF, intsOf_ints]
theorem le_tups (ns ms : List Int) : cmpF .LtE (.tup (ns.map .int)) (.tup (ms.map .int)) st = some (!HT.lexLt ms ns) := by
  simp only [cmpF, leF, intsOf_ints]
theorem lt_tups (ns ms : List Int) : cmpF .Lt (.tup (ns.map .int)) (.tup (ms.map .int)) st = some (HT.lexLt ns ms) := by
  simp only [cmpF, ltF, intsOf_ints]
end
section
variable (F : CallF) (env : Env) (st : Store)
def augO (x y : D) (o : Option Store) (env : Env) : SRes := match o with
  | some st4 => .nx env st4
  | none => .err
theorem augO_some (x y : D) (st4 : Store) : augO x y (some st4) env = .nx env st4 := rfl
def augK3 (x y : D) (v : Int) (env : Env) (d : D) (st : Store) : SRes := match d with
  | .int w => augO x y (setF x y (.int (v + w)) st) env
  | _ => .err
theorem augK3_int (x y : D) (v w : Int) : augK3 x y v env (.int w) st = augO x y (setF x y (.int (v + w)) st) env := rfl
def augK2 (F : CallF) (e : T) (x y : D) (env : Env) (o : Option Int) (st : Store) : SRes := match o with
  | some v => (ev F e env st).thenS env (augK3 x y v env)
  | none => .err
theorem augK2_some (e : T) (x y : D) (v : Int) : augK2 F e x y env (some v) st = (ev F e env st).thenS env (augK3 x y v env) := rfl
def augK1 (F : CallF) (e : T) (x : D) (env : Env) (y : D) (st : Store) : SRes := augK2 F e x y env (augG x y st) st
theorem augK1_eq (e : T) (x y : D) : augK1 F e x env y st = augK2 F e x y env (augG x y st) st := rfl
def augK0 (F : CallF) (i e : T) (env : Env) (x : D) (st : Store) : SRes := (ev F i env st).thenS env (augK1 F e x env)
theorem augK0_eq (i e : T) (x : D) : augK0 F i e env x st = (ev F i env st).thenS env (augK1 F e x env) := rfl
theorem x_saug (a i e : T) : ex F (.saug a i e) env st = (ev F a env st).thenS env (augK0 F i e env) := rfl
def augC (c : Option Cell) (k : Int) : Option Int := match c with
  | some (.lst xs) => match atI xs k with
    | some (.int v) => some v
    | _ => none
  | _ => none
theorem augG_rf (l : Nat) (k : Int) : augG (.ref l) (.int k) st = augC st[l]?.join k := by
  simp only [augG, augC] <;> rcases st[l]? with _ | _ | _ | _ <;> rfl
theorem augC_some {xs : List D} {k v : Int} (h : atI xs k = some (.int v)) : augC (some (.lst xs)) k = some v := by
  simp only [augC, h]
end
theorem cf_at' {Fs : List Fn} {n f N k : Nat} {fn : Fn} {b : T} {ds : List D} {st : Store} (h : Fs[f]? = some fn) (hb : fn.body = b) (hN : fn.N.length = N) (hk : fn.ps.length = k) (hl : ds.length = k) :
    cf Fs (n + 1) f ds st = bodyEnd (ex (cf Fs n) b (startE N k ds) st) := by
  rw [cf_at h (by rw [hl, hk]), hb, hN, hk]
/-- a comprehension over whole numbers -/
theorem comp_ints {F : CallF} {m : Bool} {tg cond elt : T} {env : Env} {st : Store} {ns : List Int} (p : Int → Bool) (g : Int → D) (hr : ∀ x, (g x).isRef = false)
    (h : ∀ x ∈ ns, ∀ acc, cturn F tg cond elt env (.int x) (st ++ [some (.lst acc)]) = .ok (if p x = true then some (g x) else none) (st ++ [some (.lst acc)])) (hs : ns.length ≤ sizeLine) :
    compS F m tg cond elt env (.fix (ns.map .int)) st = mk m ((ns.filter p).map g) st := by
  have hf : ∀ ns : List Int, (ns.map D.int).filterMap (fun d => match d with
      | .int x => if p x = true then some (g x) else none
      | _ => none) = (ns.filter p).map g := by
    intro ns
    induction ns with
    | nil => rfl
    | cons x xs ih =>
      simp only [List.map_cons, List.filterMap_cons, List.filter_cons]
      by_cases hp : p x = true
      · simp only [if_pos hp, List.map_cons, ih]
      · simp only [if_neg hp, ih]
  rw [compS_map (fun d => match d with
      | .int x => if p x = true then some (g x) else none
      | _ => none) (fun x hx acc => ?_) (fun x hx d e => ?_) (by simpa using hs), hf]
  · obtain ⟨y, hy, rfl⟩ := List.mem_map.mp hx
    exact h y hy acc
  · obtain ⟨y, hy, rfl⟩ := List.mem_map.mp hx
    simp only at e
    split at e
    · cases e; exact hr y
    · cases e
/-- a loop that goes on while a test holds -/
theorem while_t {c : Env → Store → Res D} {b : Env → Store → SRes} {n : Nat} {env env' : Env} {st st1 st' : Store} (h : c env st = .ok (.bl true) st1) (hb : b env st1 = .nx env' st') : whileL c b (n + 1) env st = whileL c b n env' st' := by
  simp only [whileL, h, thenS_ok, hb]
theorem while_f {c : Env → Store → Res D} {b : Env → Store → SRes} {n : Nat} {env : Env} {st st1 : Store} (h : c env st = .ok (.bl false) st1) : whileL c b (n + 1) env st = .nx env st1 := by
  simp only [whileL, h, thenS_ok]
end Zn

local macro_rules | `(tactic| simp! [$ts,*]) => `(tactic| (try simp -implicitDefEqProofs only [Int.reduceToNat, Int.reducePow, Int.reduceMul, Int.reduceAdd, Int.reduceSub, Int.reduceNeg, Int.reduceLT, Int.reduceLE, Zn.x_nil, Zn.x_cons, Zn.x_sif, Zn.sifK_t, Zn.sifK_f, Zn.x_sset1, Zn.putK_eq, Zn.x_sset2, Zn.setK_eq, Zn.setK1_eq, Zn.setK2_eq, Zn.x_ttp, Zn.ttpK_eq, Zn.okS_ok, Zn.setF_eq, Zn.setG_some, Zn.x_sexp, Zn.expK_eq, Zn.x_sret, Zn.x_sretn, Zn.x_sbrk, Zn.x_scnt, Zn.x_spass, Zn.x_sfor, Zn.walkS_fix, Zn.walkS_live, Zn.v_var, Zn.v_con, Zn.v_gi, Zn.v_bin, Zn.binK_eq, Zn.binK2_eq, Zn.v_neg, Zn.v_cmp, Zn.cmpK_eq, Zn.cmpK2_eq, Zn.v_cmp2, Zn.cmp2K_eq, Zn.cmp2K2_eq, Zn.cmp3K_t, Zn.cmp3K_f, Zn.v_bop, Zn.vB_one, Zn.vB_and, Zn.andK_t, Zn.andK_f, Zn.vB_or, Zn.orK_t, Zn.orK_f, Zn.v_nt, Zn.ntK_bl, Zn.v_ite, Zn.iteK_t, Zn.iteK_f, Zn.v_tup, Zn.v_lst, Zn.v_dct1, Zn.dctK_eq, Zn.dctK2_eq, Zn.v_sub, Zn.subK_eq, Zn.subK2_eq, Zn.v_slc, Zn.slcK_eq, Zn.slcK2_eq, Zn.slcK3_eq, Zn.v_call, Zn.callK_eq, Zn.v_blt, Zn.v_isi, Zn.isiK1_eq, Zn.v_frz, Zn.v_mth, Zn.mthK_eq, Zn.mthK1_some, Zn.mthK2_eq, Zn.vs_nil, Zn.vs_cons, Zn.consK_eq, Zn.consK2_eq, Zn.vo_no, Zn.vo_so, Zn.vt_no, Zn.vt_so, Zn.bK_bl, Zn.vw_sit, Zn.vw_srng, Zn.vw_senum, Zn.vw_srev, Zn.rvW_lst, Zn.vw_szip, Zn.zipK_eq, Zn.zipK2_eq, Zn.walkS_zp, Zn.str_str, Zn.v_comp, Zn.cturn_eq, Zn.cturnO_some, Zn.eltK_t, Zn.eltK_f, Zn.someK_eq, Zn.asgN_tnm, Zn.asgN_ttp, Zn.asgN_nil, Zn.asgN_cons, Zn.wipe_nil, Zn.wipe_cons, Zn.as_tnm, Zn.bind_ok, Zn.bind_exc, Zn.bind_err, Zn.thenS_ok, Zn.thenS_exc, Zn.thenS_err, Zn.andThen_nx, Zn.andThen_rt, Zn.andThen_bk, Zn.andThen_ct, Zn.andThen_exc, Zn.andThen_err, Zn.optB_some, Zn.optR_some, Zn.subO_some, Zn.asgS_some, Zn.asgO_some, Zn.negF_int, Zn.oI_int, Zn.enW_tup, Zn.enW_lst, Option.bind_some, if_true, if_false, ite_true, ite_false, Zn.as_ttp, Zn.as_ttpl, Zn.as_nil, Zn.as_cons, Zn.isRef_non, Zn.isRef_bl, Zn.isRef_int, Zn.isRef_str, Zn.isRef_tup, Zn.isRef_lst, Zn.isRef_scr, Zn.isRef_dct, Zn.isRef_ref, Zn.sub_rf, Zn.subL_some, Zn.len_rf, Zn.lenO_some, Zn.ixN_0, Zn.ixN_1, Zn.ixN_2, Zn.ixN_3, Zn.ixN_ofNat, Zn.atI_2, Zn.atI_3, Zn.atI_4, Zn.atI_5, Zn.atI_6, Zn.atI_7, Zn.atI_8, Zn.atI_9, Zn.add_int, Zn.sub_int, Zn.lt_int, Zn.le_int, Zn.gt_int, Zn.ge_int, Zn.sub_tup, Zn.sub_lst, Zn.sub_scr, Zn.len_tup, Zn.len_lst, Zn.len_scr, Zn.lstOf_ref, Zn.lstOf_lst, Zn.xs_lst, Zn.xs_fz, Zn.ce_non, Zn.ce_bl, Zn.ce_int, Zn.ce_str, Zn.ce_tup, Zn.ce_lst, Zn.be_nx, Zn.be_rt, Zn.isi_non_int, Zn.isi_non_bool, Zn.isi_non_str, Zn.isi_non_tuple, Zn.isi_non_list, Zn.isi_bl_int, Zn.isi_bl_bool, Zn.isi_bl_str, Zn.isi_bl_tuple, Zn.isi_bl_list, Zn.isi_int_int, Zn.isi_int_bool, Zn.isi_int_str, Zn.isi_int_tuple, Zn.isi_int_list, Zn.isi_str_int, Zn.isi_str_bool, Zn.isi_str_str, Zn.isi_str_tuple, Zn.isi_str_list, Zn.isi_tup_int, Zn.isi_tup_bool, Zn.isi_tup_str, Zn.isi_tup_tuple, Zn.isi_tup_list, Zn.isi_lst_int, Zn.isi_lst_bool, Zn.isi_lst_str, Zn.isi_lst_tuple, Zn.isi_lst_list, Zn.isi_scr_int, Zn.isi_scr_bool, Zn.isi_scr_str, Zn.isi_scr_tuple, Zn.isi_scr_list, Zn.isi_dct_int, Zn.isi_dct_bool, Zn.isi_dct_str, Zn.isi_dct_tuple, Zn.isi_dct_list, Zn.eq_val, Zn.ne_val, Zn.val_non, Zn.val_bl, Zn.val_int, Zn.val_str, Zn.val_tup, Zn.val_lst, Zn.val_rf, Zn.valO_some, Zn.eqD_int, Zn.eqD_bl, Zn.mapnot, Zn.tuple_rf, Zn.tupleO_some, Zn.tuple_lst, Zn.tuple_tup, Zn.list_rf, Zn.listO_some, Zn.list_lst, Zn.list_tup, Zn.int_int, Zn.int_bl, Zn.frz_rf, Zn.frzO_lst, Zn.frzO_fz, Zn.mid_get, Zn.mid_set, Zn.app_nil, List.take_left, Zn.mk_true, Zn.mk_false, Zn.tupF, Zn.lstF, Zn.dctF, PySem.sizeLine, Nat.reducePow, Nat.reduceLeDiff, List.all_cons, List.all_nil, Bool.and_self, Bool.and_true, Bool.true_and, and_self, and_true, true_and, Zn.x_sraise, Zn.x_stry, Zn.try_nx, Zn.try_rt, Zn.try_exc, Zn.wipeH_nx, Zn.hs_nil, Zn.hs_cons, Zn.hs_set, Zn.hs_app, Zn.hap0_eq, Zn.hap1_some, Zn.hap2_eq, Zn.hv_isx, Zn.hv_var, Zn.hv_lst, Zn.hvs_nil, Zn.hcK_eq, Zn.hvs_cons, Zn.be_exc, Zn.rvK_some, Zn.rvK1_lst, Zn.rvK1_ref, Zn.rvK1_tup, Zn.v_rev, Zn.slc_tup, Zn.slc_lst, Zn.app_rf, Zn.appO_lst, Zn.rev_rf, Zn.revO_lst, Zn.v_isi2, Zn.isi2K_eq, Zn.is2_non, Zn.is2_bl, Zn.is2_int, Zn.is2_str, Zn.is2_tup, Zn.is2_lst, Zn.ins_rf, Zn.insO_lst, Zn.x_saug, Zn.augK0_eq, Zn.augK1_eq, Zn.augK2_some, Zn.augK3_int, Zn.augO_some, Zn.augG_rf, Zn.x_spar, Zn.parK1_eq, Zn.parK2_eq, Zn.v_lrng, Zn.v_suq, Zn.v_mmd, Zn.v_cmp4, Zn.cmp4A_eq, Zn.cmp4A2_eq, Zn.cmp4B_t, Zn.cmp4B_f, Zn.cmp4B2_eq, Zn.cmp4C_t, Zn.cmp4C_f, Zn.clr_rf, Zn.clrO_lst, Zn.min_int, Zn.max_int, Zn.sorted_lst, Zn.is_bl, Zn.isn_bl, Zn.is_non, Zn.isn_non, Zn.isNon_non, Zn.isNon_bl, Zn.isNon_int, Zn.isNon_str, Zn.isNon_tup, Zn.isNon_lst, Zn.isNon_ref, List.cons_append, List.nil_append, id, List.getElem?_cons_zero, List.getElem?_cons_succ, List.set_cons_zero, List.set_cons_succ, List.length_cons, List.length_nil, List.length_set, Option.join_some, Option.map_some, Zn.startE, List.map_cons, List.map_nil, List.replicate_succ, List.replicate_zero, List.cons_append, List.nil_append, List.take_succ_cons, List.take_zero, List.take_length, Zn.atI_zero, Zn.atI_one, Zn.atI_ofNat, Nat.reduceAdd, Nat.reduceSub, Nat.reduceLT, Nat.reduceLeDiff, Nat.zero_lt_succ, Nat.lt_add_one, decide_true, decide_false, Bool.not_true, Bool.not_false, $ts,*]))
local macro_rules | `(tactic| walk_at "zl") => `(tactic| ((try simp only [List.length_append, List.length_cons, List.length_nil, List.length_map, List.length_replicate, List.length_range]); omega))
local macro_rules | `(tactic| walk_at "zo") => `(tactic| first | (rw [Zn.mod_o]; rotate_left; omega) | (rw [Zn.mul_o]; rotate_left; omega; omega; omega; omega) | (rw [Zn.div_o]; rotate_left; omega; omega) | (rw [Zn.shl_o]; rotate_left; omega; omega; omega; omega) | (rw [Zn.shr_o]; rotate_left; omega) | (rw [Zn.add_tup]; rotate_left; walk_at "zl") | (rw [Zn.add_lst]; rotate_left; walk_at "zl") | (rw [Zn.pow_o]; rotate_left; omega; omega; omega; omega) | (rw [Zn.str_o]; rotate_left; omega; omega))

namespace Zn
open PySem PySem.Spec PyProof.Rows L2
namespace PA
def t_cell : T :=
  (.cons (.sif (.cmp .Lt (.var 1) (.blt .len false (.cons (.var 0) .nil))) (.cons (.sret (.sub (.var 0) (.var 1))) .nil) .nil) (.cons (.sset (.tnm 2) (.bin false .Add (.bin false .Mult (.con (.int 31)) (.var 1)) (.con (.int 5)))) (.cons (.sif (.cmp .Gt (.blt .len false (.cons (.var 0) .nil)) (.con (.int 0))) (.cons (.sset (.tnm 2) (.bin false .Add (.var 2) (.bin false .Mult (.bin false .Mod (.sub (.var 0) (.bin false .Mod (.bin false .Add (.bin false .Mult (.con (.int 7)) (.var 1)) (.con (.int 3))) (.blt .len false (.cons (.var 0) .nil)))) (.con (.int 2147483629))) (.con (.int 48271))))) .nil) .nil) (.cons (.sret (.bin false .Mod (.bin false .Mult (.var 2) (.var 2)) (.con (.int 2147483587)))) .nil))))
def f_cell : Fn := ⟨"_law_cell", ["_law_script", "_law_k"], ["_law_script", "_law_k", "_law_number"], t_cell⟩
def t_take (i_cell : Nat) : T :=
  (.cons (.sif (.cmp .Gt (.sub (.var 0) (.con (.int 2))) (.con (.int 0))) (.cons (.sset (.tnm 4) (.bin false .Mod (.sub (.var 0) (.con (.int 2))) (.var 1))) (.cons (.sset (.tix (.var 0) (.con (.int 2))) (.bin false .FloorDiv (.sub (.var 0) (.con (.int 2))) (.var 1))) (.cons (.sret (.var 4)) .nil))) .nil) (.cons (.sset (.tnm 2) (.call i_cell false (.cons (.sub (.var 0) (.con (.int 0))) (.cons (.sub (.var 0) (.con (.int 1))) .nil)))) (.cons (.sset (.tix (.var 0) (.con (.int 1))) (.bin false .Add (.sub (.var 0) (.con (.int 1))) (.con (.int 1)))) (.cons (.sif (.cmp .GtE (.var 2) (.bin false .Pow (.con (.int 10)) (.con (.int 18)))) (.cons (.sset (.tix (.var 0) (.con (.int 2))) (.bin false .FloorDiv (.var 2) (.var 1))) (.cons (.sret (.bin false .Mod (.var 2) (.var 1))) .nil)) .nil) (.cons (.sset (.tnm 3) (.bin false .Mod (.bin false .Mult (.bin false .Add (.bin false .Add (.bin false .Mod (.var 2) (.con (.int 2147483629))) (.bin false .Mult (.con (.int 7919)) (.sub (.var 0) (.con (.int 1))))) (.con (.int 1))) (.con (.int 48271))) (.con (.int 2147483647)))) (.cons (.sset (.tnm 3) (.bin false .Mod (.bin false .Mult (.bin false .Add (.var 3) (.sub (.var 0) (.con (.int 1)))) (.bin false .Add (.bin false .Mod (.var 3) (.con (.int 65521))) (.con (.int 3)))) (.con (.int 2147483629)))) (.cons (.sif (.cmp .Gt (.var 1) (.bin false .Pow (.con (.int 10)) (.con (.int 8)))) (.cons (.sret (.bin false .Mod (.bin false .Pow (.bin false .FloorDiv (.var 3) (.con (.int 11))) (.con (.int 6))) (.var 1))) .nil) .nil) (.cons (.sret (.bin false .Mod (.bin false .FloorDiv (.var 3) (.con (.int 11))) (.var 1))) .nil))))))))
def f_take (i_cell : Nat) : Fn := ⟨"_law_take", ["_law_pen", "_law_size"], ["_law_pen", "_law_size", "_law_cell_here", "_law_number", "_law_found"], t_take i_cell⟩

theorem cell_ok {Fs : List Fn} {n i : Nat} (hF : Fs[i]? = some f_cell) (ns : List Int) (k : Nat) (hk : k < 10 ^ 30) :
    ∃ v : Int, ∀ st : Store, cf Fs (n + 1) i [.scr ns, .int k] st = .ok (.int v) st := by
  by_cases h1 : (k : Int) < ns.length
  · obtain ⟨v, hv, _⟩ := atI_of (xs := ns) (i := k) (by omega) h1
    rw [atI_ofNat] at hv
    exact ⟨v, fun st => by rw [cf_at hF rfl]; simp only [f_cell, t_cell]; simp! [h1, hv]⟩
  · by_cases h2 : (0 : Int) < ns.length
    · have hx : 0 ≤ (7 * (k : Int) + 3) % ns.length := Int.emod_nonneg _ (by omega)
      have hy : (7 * (k : Int) + 3) % ns.length < ns.length := Int.emod_lt_of_pos _ h2
      obtain ⟨v, hv, _⟩ := atI_of hx hy
      refine ⟨(31 * (k : Int) + 5 + v % 2147483629 * 48271) * (31 * (k : Int) + 5 + v % 2147483629 * 48271) % 2147483587, fun st => ?_⟩
      rw [cf_at hF rfl]; simp only [f_cell, t_cell]
      ((try simp! [h1, h2, hv]); (repeat (walk_at "zo"; try simp! [h1, h2, hv])))
    · refine ⟨(31 * (k : Int) + 5) * (31 * (k : Int) + 5) % 2147483587, fun st => ?_⟩
      rw [cf_at hF rfl]; simp only [f_cell, t_cell]
      ((try simp! [h1, h2]); (repeat (walk_at "zo"; try simp! [h1, h2])))

def pen (ns : List Int) (k : Nat) (p : Int) : Option Cell := some (.lst [.scr ns, .int k, .int p])
theorem take_ok {Fs : List Fn} {n i ic : Nat} (hF : Fs[i]? = some (f_take ic)) (hc : Fs[ic]? = some f_cell) (ns : List Int) (k : Nat) (p : Int) (hk : k < 10 ^ 30) (R : Store) (m : Int) (hm : 0 < m) (hm2 : m < 10 ^ 100) :
    ∃ (v : Int) (k' : Nat) (p' : Int), cf Fs (n + 2) i [.ref 0, .int m] (pen ns k p :: R) = .ok (.int v) (pen ns k' p' :: R) ∧ 0 ≤ v ∧ v < m ∧ k' ≤ k + 1 := by
  rw [cf_at hF rfl]
  simp only [f_take, t_take, pen]
  have hv : ∀ x : Int, 0 ≤ x % m ∧ x % m < m := fun x => ⟨Int.emod_nonneg _ (by omega), Int.emod_lt_of_pos _ hm⟩
  by_cases h1 : 0 < p
  · ((try simp! [h1]); (repeat (walk_at "zo"; try simp! [h1])))
    exact ⟨_, _, _, rfl, (hv p).1, (hv p).2, by omega⟩
  · obtain ⟨c, hc⟩ := cell_ok (n := n) hc ns k hk
    by_cases h2 : (1000000000000000000 : Int) ≤ c
    · ((try simp! [h1, hc, h2]); (repeat (walk_at "zo"; try simp! [h1, hc, h2])))
      exact ⟨c % m, k + 1, c / m, rfl, (hv c).1, (hv c).2, by omega⟩
    · by_cases h3 : (100000000 : Int) < m
      · ((try simp! [h1, hc, h2, h3]); (repeat (walk_at "zo"; try simp! [h1, hc, h2, h3])))
        exact ⟨_, k + 1, p, rfl, (hv _).1, (hv _).2, by omega⟩
      · ((try simp! [h1, hc, h2, h3]); (repeat (walk_at "zo"; try simp! [h1, hc, h2, h3])))
        exact ⟨_, k + 1, p, rfl, (hv _).1, (hv _).2, by omega⟩
def t__law_bounds (i__law_take : Nat) : T :=
  (.cons (.sset (.tnm 1) (.sub (.lst false (.cons (.call i__law_take false (.cons (.var 0) (.cons (.con (.int 41)) .nil))) (.cons (.con (.int 0)) (.cons (.con (.int 1)) (.cons (.con (.int 2)) (.cons (.con (.int 3)) (.cons (.con (.int 4)) (.cons (.con (.int 5)) (.cons (.con (.int 8)) .nil))))))))) (.call i__law_take false (.cons (.var 0) (.cons (.con (.int 8)) .nil))))) (.cons (.sset (.tnm 2) (.call i__law_take false (.cons (.var 0) (.cons (.con (.int 4)) .nil)))) (.cons (.sif (.cmp .Eq (.var 2) (.con (.int 0))) (.cons (.sret (.tup (.cons (.bin false .Add (.bin false .Sub (.call i__law_take false (.cons (.var 0) (.cons (.bin false .Sub (.bin false .Mult (.con (.int 2)) (.bin false .Pow (.con (.int 10)) (.con (.int 40)))) (.con (.int 1))) .nil))) (.bin false .Pow (.con (.int 10)) (.con (.int 40)))) (.con (.int 1))) (.cons (.var 1) .nil)))) .nil) .nil) (.cons (.sif (.cmp .Eq (.var 2) (.con (.int 1))) (.cons (.sret (.tup (.cons (.con (.int 0)) (.cons (.var 1) .nil)))) .nil) .nil) (.cons (.sret (.tup (.cons (.bin false .Sub (.call i__law_take false (.cons (.var 0) (.cons (.con (.int 99)) .nil))) (.con (.int 49))) (.cons (.var 1) .nil)))) .nil)))))
def f__law_bounds (i__law_take : Nat) : Fn := ⟨"_law_bounds", ["_law_pen"], ["_law_pen", "_law_levels", "_law_way"], t__law_bounds i__law_take⟩


theorem atI_mem {α : Type} {xs : List α} {i : Int} (h0 : 0 ≤ i) (h : i < xs.length) : ∃ x, atI xs i = some x ∧ x ∈ xs := by
  obtain ⟨x, h1, h2⟩ := atI_of h0 h
  exact ⟨x, h1, List.mem_of_getElem? h2⟩
theorem bounds_ok {Fs : List Fn} {n i it ic : Nat} (hF : Fs[i]? = some (f__law_bounds it)) (ht : Fs[it]? = some (f_take ic)) (hc : Fs[ic]? = some f_cell) (ns : List Int) (k : Nat) (p : Int) (hk : k < 10 ^ 29) (R : Store) :
    ∃ (low : Int) (L k' : Nat) (p' : Int), cf Fs (n + 3) i [.ref 0] (pen ns k p :: R) = .ok (.tup [.int low, .int L]) (pen ns k' p' :: R) ∧ L ≤ 40 ∧ -10 ^ 40 < low ∧ low < 10 ^ 40 ∧ k' ≤ k + 4 := by
  have take := fun (k : Nat) (p : Int) (hk : k < 10 ^ 30) (R : Store) (m : Int) (hm : 0 < m) (hm2 : m < 10 ^ 100) => take_ok (n := n) ht hc ns k p hk R m hm hm2
  rw [cf_at hF rfl]; simp only [f__law_bounds, t__law_bounds]
  obtain ⟨v, k1, p1, e1, hv0, hv1, hk1⟩ := take k p (by omega) R 41 (by omega) (by omega)
  obtain ⟨t, k2, p2, e2, ht0, ht1, hk2⟩ := take k1 p1 (by omega) R 8 (by omega) (by omega)
  obtain ⟨w, k3, p3, e3, hw0, hw1, hk3⟩ := take k2 p2 (by omega) R 4 (by omega) (by omega)
  obtain ⟨x, hx, hxm⟩ := atI_mem (xs := [D.int v, .int 0, .int 1, .int 2, .int 3, .int 4, .int 5, .int 8]) ht0 ht1
  obtain ⟨L, rfl, hL⟩ : ∃ L : Nat, x = .int L ∧ L ≤ 40 := by
    simp only [List.mem_cons, List.not_mem_nil, or_false] at hxm
    rcases hxm with rfl | rfl | rfl | rfl | rfl | rfl | rfl | rfl
    · exact ⟨v.toNat, by rw [Int.toNat_of_nonneg hv0], by omega⟩
    · exact ⟨0, rfl, by omega⟩
    · exact ⟨1, rfl, by omega⟩
    · exact ⟨2, rfl, by omega⟩
    · exact ⟨3, rfl, by omega⟩
    · exact ⟨4, rfl, by omega⟩
    · exact ⟨5, rfl, by omega⟩
    · exact ⟨8, rfl, by omega⟩
  by_cases w0 : w = 0
  · subst w0
    obtain ⟨u, k4, p4, e4, hu0, hu1, hk4⟩ := take k3 p3 (by omega) R 19999999999999999999999999999999999999999 (by omega) (by omega)
    ((try simp! [e1, e2, e3, hx, e4]); (repeat (walk_at "zo"; try simp! [e1, e2, e3, hx, e4])))
    exact ⟨_, L, k4, p4, rfl, hL, by omega, by omega, by omega⟩
  · by_cases w1 : w = 1
    · subst w1
      simp! [e1, e2, e3, hx, show decide ((1 : Int) = 0) = false from rfl]
      exact ⟨0, L, k3, p3, rfl, hL, by omega, by omega, by omega⟩
    · obtain ⟨u, k4, p4, e4, hu0, hu1, hk4⟩ := take k3 p3 (by omega) R 99 (by omega) (by omega)
      simp! [e1, e2, e3, hx, e4, w0, w1]
      exact ⟨_, L, k4, p4, rfl, hL, by omega, by omega, by omega⟩
theorem draw_ints {F : CallF} {m : Bool} {tg elt : T} {env : Env} {ns : List Int} {lo hi : Int} (c : Nat) (xs : List D) (k : Nat) (p : Int) (R : Store) (hk : k + c * xs.length < 10 ^ 29) (hs : xs.length ≤ sizeLine)
    (h : ∀ x ∈ xs, ∀ k p R, k < 10 ^ 29 → ∃ (v : Int) (k' : Nat) (p' : Int), cturn F tg .no elt env x (pen ns k p :: R) = .ok (some (.int v)) (pen ns k' p' :: R) ∧ lo ≤ v ∧ v < hi ∧ k' ≤ k + c) :
    ∃ (ms : List Int) (k' : Nat) (p' : Int), compS F m tg .no elt env (.fix xs) (pen ns k p :: R) = mk m (ms.map .int) (pen ns k' p' :: R) ∧ ms.length = xs.length ∧ (∀ v ∈ ms, lo ≤ v ∧ v < hi) ∧ k' ≤ k + c * xs.length := by
  obtain ⟨zs, st2, e, _, k2, p2, ms, rfl, rfl, hk2, hms, hml⟩ := compS_inv (F := F) (m := m) (tg := tg) (cond := .no) (elt := elt) (env := env) (st := pen ns k p :: R) (xs := xs)
    (fun i acc st => ∃ k2 p2 ms, acc = List.map D.int ms ∧ st = pen ns k2 p2 :: R ∧ k2 ≤ k + c * i ∧ (∀ v ∈ ms, lo ≤ v ∧ v < hi) ∧ ms.length = i)
    (by
      rintro x i acc st1 hx ⟨k2, p2, ms, rfl, rfl, hk2, hms, hml⟩ hl
      have hi : i < xs.length := (List.getElem?_eq_some_iff.mp hx).1
      have hc : c * i ≤ c * xs.length := Nat.mul_le_mul_left c (by omega)
      obtain ⟨v, k3, p3, e3, hv0, hv1, hk3⟩ := h x (List.mem_of_getElem? hx) k2 p2 (R ++ [some (.lst (List.map D.int ms))]) (by omega)
      have hcs : c * (i + 1) = c * i + c := Nat.mul_succ c i
      refine ⟨some (.int v), pen ns k3 p3 :: R, e3, rfl, fun d h => by cases h; rfl, k3, p3, ms ++ [v], by simp, rfl, by omega, ?_, by simp [hml]⟩
      intro w hw
      rcases List.mem_append.mp hw with hw | hw
      · exact hms w hw
      · rw [List.mem_singleton.mp hw]; exact ⟨hv0, hv1⟩)
    hs ⟨k, p, [], rfl, rfl, by omega, by simp, rfl⟩
  exact ⟨ms, k2, p2, e, hml, hms, hk2⟩
theorem rngD_len (lo : Int) (n : Nat) : (rngD lo n).length = n := by simp [rngD]
end PA
end Zn

/-! PB: what the program's own small defs come to. -/
namespace Zn.PB
open PySem PySem.Spec PyProof.Rows L2 Zn
def t_top_of : T :=
  (.cons (.sret (.bin false .Sub (.bin false .Add (.sub (.var 0) (.con (.int 0))) (.bin false .LShift (.con (.int 1)) (.sub (.var 0) (.con (.int 1))))) (.con (.int 1)))) .nil)
def f_top_of : Fn := ⟨"top_of", ["bounds"], ["bounds"], t_top_of⟩
def b_span_of_1 : T := (.cons (.sset (.tnm 2) (.bin false .RShift (.var 2) (.con (.int 1)))) (.cons (.sset (.tnm 4) (.bin false .Add (.var 4) (.bin false .Mult (.var 3) (.var 2)))) .nil))
def t_span_of : T :=
  (.cons (.sset (.ttp (.cons (.tnm 4) (.cons (.tnm 5) .nil))) (.var 0)) (.cons (.sset (.tnm 2) (.bin false .LShift (.con (.int 1)) (.var 5))) (.cons (.sfor (.sit (.var 1)) (.tnm 3) b_span_of_1) (.cons (.sret (.tup (.cons (.var 4) (.cons (.bin false .Sub (.bin false .Add (.var 4) (.var 2)) (.con (.int 1))) .nil)))) .nil))))
def f_span_of : Fn := ⟨"span_of", ["bounds", "way"], ["bounds", "way", "size", "mark", "low", "levels"], t_span_of⟩

theorem pow2 {e : Nat} (h : e ≤ 60) : 0 < (2 : Int) ^ e ∧ (2 : Int) ^ e ≤ 1152921504606846976 := by
  have h1 : (2 : Nat) ^ e ≤ 2 ^ 60 := Nat.pow_le_pow_right (by omega) h
  have h2 : 0 < (2 : Nat) ^ e := Nat.pow_pos (by omega)
  have h3 : ((2 ^ e : Nat) : Int) = (2 : Int) ^ e := by simp
  omega
theorem pow2_half (e : Nat) : (2 : Int) ^ (e + 1) / 2 = 2 ^ e := by
  rw [Int.pow_succ]; omega
def Bd (low : Int) (L : Nat) : D := .tup [.int low, .int L]
theorem top_ok {Fs : List Fn} {n i : Nat} (hF : Fs[i]? = some f_top_of) (low : Int) (L : Nat) (hL : L ≤ 60) (st : Store) :
    cf Fs (n + 1) i [Bd low L] st = .ok (.int (low + 2 ^ L - 1)) st := by
  rw [cf_at hF rfl]; simp only [f_top_of, t_top_of, Bd]
  ((try simp! []); (repeat (walk_at "zo"; try simp! [])))
  simp
/-- where a way leads -/
def lowOf : Int → Nat → List Int → Int
  | low, _, [] => low
  | low, e, m :: ms => lowOf (low + m * 2 ^ (e - 1)) (e - 1) ms
def Marks (ms : List Int) : Prop := ∀ m ∈ ms, m = 0 ∨ m = 1
theorem Marks.tl {m : Int} {ms : List Int} (h : Marks (m :: ms)) : (m = 0 ∨ m = 1) ∧ Marks ms := ⟨h m (by simp), fun x hx => h x (by simp [hx])⟩
theorem span_loop (F : CallF) (st : Store) (A B Lv : Option D) : ∀ (ms : List Int) (low : Int) (e : Nat) (mk : Option D), ms.length ≤ e → Marks ms → e ≤ 60 →
    ∃ mk', forL (turn F (.tnm 3) b_span_of_1) (ms.map D.int) [A, B, some (.int (2 ^ e)), mk, some (.int low), Lv] st = .nx [A, B, some (.int (2 ^ (e - ms.length))), mk', some (.int (lowOf low e ms)), Lv] st
  | [], low, e, mk, _, _, _ => ⟨mk, by simp [forL, lowOf]⟩
  | m :: ms, low, e, mk, hl, hm, he => by
    simp only [List.length_cons] at hl
    obtain ⟨e, rfl⟩ : ∃ e', e = e' + 1 := ⟨e - 1, by omega⟩
    have hp := pow2 (e := e) (by omega)
    obtain ⟨mk', h⟩ := span_loop F st A B Lv ms (low + m * 2 ^ e) e (some (.int m)) (by omega) hm.tl.2 (by omega)
    have h01 := hm.tl.1
    refine ⟨mk', ?_⟩
    have : turn F (.tnm 3) b_span_of_1 (.int m) [A, B, some (.int (2 ^ (e + 1))), mk, some (.int low), Lv] st = .nx [A, B, some (.int (2 ^ e)), some (.int m), some (.int (low + m * 2 ^ e)), Lv] st := by
      simp only [turn, b_span_of_1]
      ((try simp! [pow2_half]); (repeat (walk_at "zo"; try simp! [pow2_half])))
    simp only [List.map_cons, forL, this, h, lowOf, List.length_cons, Nat.add_sub_cancel]
    rw [show e + 1 - (ms.length + 1) = e - ms.length by omega]
theorem span_ok {Fs : List Fn} {n i : Nat} (hF : Fs[i]? = some f_span_of) (low : Int) (L : Nat) (hL : L ≤ 60) (ms : List Int) (hm : Marks ms) (hl : ms.length ≤ L) (st : Store) :
    cf Fs (n + 1) i [Bd low L, .tup (ms.map .int)] st = .ok (.tup [.int (lowOf low L ms), .int (lowOf low L ms + 2 ^ (L - ms.length) - 1)]) st := by
  rw [cf_at hF rfl]; simp only [f_span_of, t_span_of, Bd]
  have h1 : (1 : Int) * 2 ^ ((L : Int)).toNat = 2 ^ L := by simp
  obtain ⟨mk', h⟩ := span_loop (cf Fs n) st (some (.tup [.int low, .int L])) (some (.tup (ms.map .int))) (some (.int L)) ms low L none hl hm hL
  ((try simp! [wkOf, h1, h]); (repeat (walk_at "zo"; try simp! [wkOf, h1, h])))
def t_ahead : T :=
  (.cons (.sset (.tnm 3) (.blt .sum false (.cons (.slc false (.var 0) .no (.so (.var 2))) .nil))) (.cons (.sif (.cmp .Eq (.var 1) (.con (.int 1))) (.cons (.sret (.var 3)) .nil) .nil) (.cons (.sret (.bin false .Sub (.var 2) (.var 3))) .nil)))
def f_ahead : Fn := ⟨"ahead", ["marks", "mark", "place"], ["marks", "mark", "place", "ones"], t_ahead⟩
def b_crossed_1 : T := (.cons (.sif (.cmp .Eq (.var 5) (.con (.int 1))) (.cons (.sset (.tnm 3) (.bin false .Add (.var 3) (.con (.int 1)))) .nil) (.cons (.sset (.tnm 4) (.bin false .Add (.var 4) (.var 3))) .nil)) .nil)
def t_crossed : T :=
  (.cons (.sset (.tnm 3) (.con (.int 0))) (.cons (.sset (.tnm 4) (.con (.int 0))) (.cons (.sfor (.sit (.slc false (.var 0) (.so (.var 1)) (.so (.var 2)))) (.tnm 5) b_crossed_1) (.cons (.sret (.var 4)) .nil))))
def f_crossed : Fn := ⟨"crossed", ["marks", "start", "end"], ["marks", "start", "end", "ones", "found", "mark"], t_crossed⟩


theorem ahead_ok {Fs : List Fn} {n i : Nat} (hF : Fs[i]? = some f_ahead) (ms : List Int) (mark : Int) (p : Nat) (st : Store) :
    cf Fs (n + 1) i [.tup (ms.map .int), .int mark, .int p] st = .ok (.int (if mark = 1 then (ms.take p).sum else p - (ms.take p).sum)) st := by
  rw [cf_at hF rfl]; simp only [f_ahead, t_ahead]
  simp! [cut_to]
  rw [← List.map_take, sum_tints]
  by_cases h : mark = 1
  · subst h
    simp! []
  · simp! [h]
/-- how many are no 1 -/
def zc : List Int → Int
  | [] => 0
  | m :: ms => (if m = 1 then 0 else 1) + zc ms
def oc : List Int → Int
  | [] => 0
  | m :: ms => (if m = 1 then 1 else 0) + oc ms
def cx : List Int → Int
  | [] => 0
  | m :: ms => (if m = 1 then zc ms else 0) + cx ms
theorem zc_app : ∀ a b : List Int, zc (a ++ b) = zc a + zc b
  | [], b => by simp [zc]
  | m :: a, b => by simp only [List.cons_append, zc, zc_app a b]; omega
theorem oc_app : ∀ a b : List Int, oc (a ++ b) = oc a + oc b
  | [], b => by simp [oc]
  | m :: a, b => by simp only [List.cons_append, oc, oc_app a b]; omega
theorem cx_app : ∀ a b : List Int, cx (a ++ b) = cx a + cx b + oc a * zc b
  | [], b => by simp [cx, oc]
  | m :: a, b => by
    simp only [List.cons_append, cx, oc, cx_app a b, zc_app]
    by_cases h : m = 1
    · simp only [if_pos h, Int.add_mul, Int.one_mul] <;> omega
    · simp only [if_neg h, Int.zero_add, Int.zero_mul] <;> omega
theorem oc_zc : ∀ a : List Int, oc a + zc a = a.length
  | [] => rfl
  | m :: a => by
    have := oc_zc a
    simp only [oc, zc, List.length_cons]
    by_cases h : m = 1
    · simp only [if_pos h]; omega
    · simp only [if_neg h]; omega
theorem oc_nn : ∀ a : List Int, 0 ≤ oc a
  | [] => by simp [oc]
  | m :: a => by
    have := oc_nn a
    simp only [oc]
    by_cases h : m = 1
    · simp only [if_pos h]; omega
    · simp only [if_neg h]; omega
theorem zc_nn : ∀ a : List Int, 0 ≤ zc a
  | [] => by simp [zc]
  | m :: a => by
    have := zc_nn a
    simp only [zc]
    by_cases h : m = 1
    · simp only [if_pos h]; omega
    · simp only [if_neg h]; omega
theorem sum_oc : ∀ (a : List Int), Marks a → a.sum = oc a
  | [], _ => rfl
  | m :: a, h => by
    have := sum_oc a h.tl.2
    rcases h.tl.1 with rfl | rfl <;> simp [oc, this]
theorem crossed_loop (F : CallF) (st : Store) (A B C : Option D) : ∀ (ms : List Int) (o f : Int) (mk : Option D),
    ∃ mk', forL (turn F (.tnm 5) b_crossed_1) (ms.map D.int) [A, B, C, some (.int o), some (.int f), mk] st = .nx [A, B, C, some (.int (o + oc ms)), some (.int (f + o * zc ms + cx ms)), mk'] st
  | [], o, f, mk => ⟨mk, by simp [forL, oc, zc, cx]⟩
  | m :: ms, o, f, mk => by
    by_cases h : m = 1
    · obtain ⟨mk', e⟩ := crossed_loop F st A B C ms (o + 1) f (some (.int m))
      refine ⟨mk', ?_⟩
      have : turn F (.tnm 5) b_crossed_1 (.int m) [A, B, C, some (.int o), some (.int f), mk] st = .nx [A, B, C, some (.int (o + 1)), some (.int f), some (.int m)] st := by
        simp only [turn, b_crossed_1]
        simp! [h]
      simp only [List.map_cons, forL, this, e, oc, zc, cx, if_pos h]
      rw [show o + (1 + oc ms) = o + 1 + oc ms by omega, show f + o * (0 + zc ms) + (zc ms + cx ms) = f + (o + 1) * zc ms + cx ms by rw [Int.add_mul, Int.one_mul, Int.zero_add]; omega]
    · obtain ⟨mk', e⟩ := crossed_loop F st A B C ms o (f + o) (some (.int m))
      refine ⟨mk', ?_⟩
      have : turn F (.tnm 5) b_crossed_1 (.int m) [A, B, C, some (.int o), some (.int f), mk] st = .nx [A, B, C, some (.int o), some (.int (f + o)), some (.int m)] st := by
        simp only [turn, b_crossed_1]
        simp! [h]
      simp only [List.map_cons, forL, this, e, oc, zc, cx, if_neg h]
      rw [show o + (0 + oc ms) = o + oc ms by omega, show f + o * (1 + zc ms) + (0 + cx ms) = f + o + o * zc ms + cx ms by rw [Int.mul_add, Int.mul_one]; omega]
def sg (ms : List Int) (j n : Nat) : List Int := (ms.drop j).take n
theorem crossed_ok {Fs : List Fn} {n i : Nat} (hF : Fs[i]? = some f_crossed) (ms : List Int) (j k : Nat) (h1 : j ≤ k) (h2 : k ≤ ms.length) (st : Store) :
    cf Fs (n + 1) i [.tup (ms.map .int), .int j, .int k] st = .ok (.int (cx (sg ms j (k - j)))) st := by
  rw [cf_at hF rfl]; simp only [f_crossed, t_crossed]
  have hc : cutD (ms.map .int) (some (j : Int)) (some (k : Int)) = (sg ms j (k - j)).map .int := by
    rw [cut_mid _ _ _ h1 (by simpa using h2), sg, List.map_take, List.map_drop]
  obtain ⟨mk', e⟩ := crossed_loop (cf Fs n) st (some (.tup (ms.map .int))) (some (.int j)) (some (.int k)) (sg ms j (k - j)) 0 0 none
  simp! [hc, wkOf, e, Int.zero_mul, Int.zero_add]
theorem sg_succ {ms : List Int} {j n : Nat} {v : Int} (h : ms[j]? = some v) : sg ms j (n + 1) = v :: sg ms (j + 1) n := by
  obtain ⟨hj, rfl⟩ := List.getElem?_eq_some_iff.mp h
  rw [sg, List.drop_eq_getElem_cons hj, List.take_succ_cons]; rfl
theorem sg_split (ms : List Int) (j a b : Nat) : sg ms j (a + b) = sg ms j a ++ sg ms (j + a) b := by
  simp only [sg, List.take_add, List.drop_drop]
theorem sg_len (ms : List Int) (j n : Nat) (h : j + n ≤ ms.length) : (sg ms j n).length = n := by
  simp only [sg, List.length_take, List.length_drop]; omega
theorem take_sg (ms : List Int) (j n : Nat) : ms.take (j + n) = ms.take j ++ sg ms j n := by
  rw [sg, List.take_add]
theorem Marks.sub {ms l : List Int} (h : Marks ms) (hs : ∀ x ∈ l, x ∈ ms) : Marks l := fun x hx => h x (hs x hx)
theorem sg_mem {ms : List Int} {j n : Nat} {x : Int} (h : x ∈ sg ms j n) : x ∈ ms := List.mem_of_mem_drop (List.mem_of_mem_take h)
end Zn.PB

/-! PT: rows, and trees that part them by halves. -/
namespace Zn.PT
open PySem PySem.Spec PyProof.Rows L2 Zn Zn.PB
def e__law_row_1 (i__law_take : Nat) : T := (.call i__law_take false (.cons (.var 0) (.cons (.var 3) .nil)))
def b__law_row_2 (i__law_take : Nat) : T := (.cons (.sif (.cmp .Eq (.var 5) (.con (.int 0))) (.cons (.sexp (.mth .append (.var 7) (.cons (.bin false .Add (.sub (.var 1) (.con (.int 0))) (.call i__law_take false (.cons (.var 0) (.cons (.var 3) .nil)))) .nil))) .nil) (.cons (.sif (.cmp .Eq (.var 5) (.con (.int 3))) (.cons (.sexp (.mth .append (.var 7) (.cons (.bin false .Add (.sub (.var 1) (.con (.int 0))) (.bin false .Mod (.bin false .Add (.sub (.var 6) (.con (.int 0))) (.call i__law_take false (.cons (.var 0) (.cons (.con (.int 5)) .nil)))) (.var 3))) .nil))) .nil) (.cons (.sexp (.mth .append (.var 7) (.cons (.bin false .Add (.sub (.var 1) (.con (.int 0))) (.sub (.var 6) (.call i__law_take false (.cons (.var 0) (.cons (.blt .len false (.cons (.var 6) .nil)) .nil))))) .nil))) .nil)) .nil)) .nil)
def t__law_row (i__law_take : Nat) : T :=
  (.cons (.sset (.tnm 3) (.bin false .LShift (.con (.int 1)) (.sub (.var 1) (.con (.int 1))))) (.cons (.sset (.tnm 4) (.call i__law_take false (.cons (.var 0) (.cons (.con (.int 13)) .nil)))) (.cons (.sif (.cmp .Eq (.call i__law_take false (.cons (.var 0) (.cons (.con (.int 8)) .nil))) (.con (.int 5))) (.cons (.sset (.tnm 4) (.call i__law_take false (.cons (.var 0) (.cons (.bin false .Add (.var 2) (.con (.int 1))) .nil)))) .nil) .nil) (.cons (.sset (.tnm 5) (.call i__law_take false (.cons (.var 0) (.cons (.con (.int 4)) .nil)))) (.cons (.sset (.tnm 6) (.comp false (.srng 1 (.cons (.bin false .Add (.con (.int 1)) (.call i__law_take false (.cons (.var 0) (.cons (.con (.int 4)) .nil)))) .nil)) (.tnm 8) [("_law_k", 8)] .no (e__law_row_1 i__law_take))) (.cons (.sset (.tnm 7) (.lst true .nil)) (.cons (.sfor (.srng 1 (.cons (.var 4) .nil)) (.tnm 8) (b__law_row_2 i__law_take)) (.cons (.sif (.cmp .Eq (.var 5) (.con (.int 2))) (.cons (.sset (.tnm 7) (.blt .sorted true (.cons (.var 7) .nil))) .nil) .nil) (.cons (.sret (.var 7)) .nil)))))))))
def f__law_row (i__law_take : Nat) : Fn := ⟨"_law_row", ["_law_pen", "_law_bounds_here", "_law_greatest"], ["_law_pen", "_law_bounds_here", "_law_greatest", "_law_size", "_law_many", "_law_way", "_law_few", "_law_row_here", "_law_k"], t__law_row i__law_take⟩
def e__law_tree_1 (i__law_tree : Nat) : T := (.blt .int false (.cons (.cmp .GtE (.var 6) (.var 3)) .nil))
def q__law_tree_2 (i__law_tree : Nat) : T := (.cmp .Lt (.var 6) (.var 3))
def q__law_tree_3 (i__law_tree : Nat) : T := (.cmp .GtE (.var 6) (.var 3))
def t__law_tree (i__law_tree : Nat) : T :=
  (.cons (.sif (.cmp .Eq (.var 2) (.lst false .nil)) (.cons (.sret (.con .non)) .nil) .nil) (.cons (.sif (.cmp .Eq (.var 1) (.con (.int 0))) (.cons (.sret (.tup (.cons (.con (.str "many")) (.cons (.blt .len false (.cons (.var 2) .nil)) .nil)))) .nil) .nil) (.cons (.sset (.tnm 3) (.bin false .Add (.var 0) (.bin false .LShift (.con (.int 1)) (.bin false .Sub (.var 1) (.con (.int 1)))))) (.cons (.sset (.tnm 4) (.blt .tuple false (.cons (.comp false (.sit (.var 2)) (.tnm 6) [("_law_number", 6)] .no (e__law_tree_1 i__law_tree)) .nil))) (.cons (.sset (.tnm 5) (.call i__law_tree false (.cons (.var 0) (.cons (.bin false .Sub (.var 1) (.con (.int 1))) (.cons (.comp false (.sit (.var 2)) (.tnm 6) [("_law_number", 6)] (.so (q__law_tree_2 i__law_tree)) (.var 6)) .nil))))) (.cons (.sret (.tup (.cons (.con (.str "part")) (.cons (.var 4) (.cons (.var 5) (.cons (.call i__law_tree false (.cons (.var 3) (.cons (.bin false .Sub (.var 1) (.con (.int 1))) (.cons (.comp false (.sit (.var 2)) (.tnm 6) [("_law_number", 6)] (.so (q__law_tree_3 i__law_tree)) (.var 6)) .nil)))) .nil)))))) .nil))))))
def f__law_tree (i__law_tree : Nat) : Fn := ⟨"_law_tree", ["_law_low", "_law_levels", "_law_row_here"], ["_law_low", "_law_levels", "_law_row_here", "_law_half", "_law_marks", "_law_lower", "_law_number"], t__law_tree i__law_tree⟩
def t_size_of : T :=
  (.cons (.sif (.cmp .Is (.var 0) (.con .non)) (.cons (.sret (.con (.int 0))) .nil) .nil) (.cons (.sif (.cmp .Eq (.sub (.var 0) (.con (.int 0))) (.con (.str "many"))) (.cons (.sret (.sub (.var 0) (.con (.int 1)))) .nil) .nil) (.cons (.sret (.blt .len false (.cons (.sub (.var 0) (.con (.int 1))) .nil))) .nil)))
def f_size_of : Fn := ⟨"size_of", ["tree"], ["tree"], t_size_of⟩
def t_halved (i_span_of : Nat) : T :=
  (.cons (.sret (.tup (.cons (.sub (.call i_span_of false (.cons (.var 0) (.cons (.tup (.cons (.var 1) .nil)) .nil))) (.con (.int 0))) (.cons (.bin false .Sub (.sub (.var 0) (.con (.int 1))) (.con (.int 1))) .nil)))) .nil)
def f_halved (i_span_of : Nat) : Fn := ⟨"halved", ["bounds", "mark"], ["bounds", "mark"], t_halved i_span_of⟩
def e_row_of_1 (i_row_of i_halved i_top_of : Nat) : T := (.call i_row_of false (.cons (.call i_halved false (.cons (.var 0) (.cons (.var 5) .nil))) (.cons (.sub (.var 1) (.bin false .Add (.con (.int 2)) (.var 5))) .nil)))
def b_row_of_2 (i_row_of i_halved i_top_of : Nat) : T := (.cons (.sexp (.mth .append (.var 4) (.cons (.sub (.sub (.var 2) (.var 5)) (.sub (.var 3) (.var 5))) .nil))) (.cons (.sset (.tix (.var 3) (.var 5)) (.bin false .Add (.sub (.var 3) (.var 5)) (.con (.int 1)))) .nil))
def t_row_of (i_row_of i_halved i_top_of : Nat) : T :=
  (.cons (.sif (.cmp .Is (.var 1) (.con .non)) (.cons (.sret (.lst true .nil)) .nil) .nil) (.cons (.sif (.cmp .Eq (.sub (.var 1) (.con (.int 0))) (.con (.str "many"))) (.cons (.sret (.bin true .Mult (.lst false (.cons (.call i_top_of false (.cons (.var 0) .nil)) .nil)) (.sub (.var 1) (.con (.int 1))))) .nil) .nil) (.cons (.sset (.tnm 2) (.comp false (.sit (.tup (.cons (.con (.int 0)) (.cons (.con (.int 1)) .nil)))) (.tnm 5) [("mark", 5)] .no (e_row_of_1 i_row_of i_halved i_top_of))) (.cons (.sset (.tnm 3) (.lst true (.cons (.con (.int 0)) (.cons (.con (.int 0)) .nil)))) (.cons (.sset (.tnm 4) (.lst true .nil)) (.cons (.sfor (.sit (.sub (.var 1) (.con (.int 1)))) (.tnm 5) (b_row_of_2 i_row_of i_halved i_top_of)) (.cons (.sret (.var 4)) .nil)))))))
def f_row_of (i_row_of i_halved i_top_of : Nat) : Fn := ⟨"row_of", ["bounds", "tree"], ["bounds", "tree", "rows", "gone", "found", "mark"], t_row_of i_row_of i_halved i_top_of⟩
def w_number_at_1 (i_ahead i_span_of i_size_of : Nat) : T := (.cmp .Eq (.sub (.var 1) (.con (.int 0))) (.con (.str "part")))
def b_number_at_2 (i_ahead i_span_of i_size_of : Nat) : T := (.cons (.sset (.tnm 4) (.sub (.sub (.var 1) (.con (.int 1))) (.var 2))) (.cons (.sset (.tnm 2) (.call i_ahead false (.cons (.sub (.var 1) (.con (.int 1))) (.cons (.var 4) (.cons (.var 2) .nil))))) (.cons (.sset (.tnm 1) (.sub (.var 1) (.bin false .Add (.con (.int 2)) (.var 4)))) (.cons (.sset (.tnm 3) (.bin false .Add (.var 3) (.tup (.cons (.var 4) .nil)))) .nil))))
def t_number_at (rs : T) (i_ahead i_span_of i_size_of : Nat) : T :=
  (.cons (.sif (.bop .Or (.cons (.cmp .Lt (.var 2) (.con (.int 0))) (.cons (.cmp .GtE (.var 2) (.call i_size_of false (.cons (.var 1) .nil))) .nil))) (.cons rs .nil) .nil) (.cons (.sset (.tnm 3) (.tup .nil)) (.cons (.swhile (w_number_at_1 i_ahead i_span_of i_size_of) (b_number_at_2 i_ahead i_span_of i_size_of)) (.cons (.sret (.sub (.call i_span_of false (.cons (.var 0) (.cons (.var 3) .nil))) (.con (.int 0)))) .nil))))
def f_number_at (rs : T) (i_ahead i_span_of i_size_of : Nat) : Fn := ⟨"number_at", ["bounds", "tree", "place"], ["bounds", "tree", "place", "way", "mark"], t_number_at rs i_ahead i_span_of i_size_of⟩

/-! ### the tree of a row, in plain -/
def bit (h x : Int) : Int := if h ≤ x then 1 else 0
theorem bit01 (h x : Int) : bit h x = 0 ∨ bit h x = 1 := by unfold bit; split <;> simp
def treeD : Nat → Int → List Int → D
  | 0, _, row => if row = [] then .non else .tup [.str "many", .int row.length]
  | L + 1, low, row => if row = [] then .non else .tup [.str "part", .tup ((row.map (bit (low + 2 ^ L))).map .int), treeD L low (row.filter fun x => decide (x < low + 2 ^ L)), treeD L (low + 2 ^ L) (row.filter fun x => decide (low + 2 ^ L ≤ x))]
theorem tree_nil (L : Nat) (low : Int) : treeD L low [] = .non := by cases L <;> simp [treeD]
theorem tree_zero (low : Int) {row : List Int} (h : row ≠ []) : treeD 0 low row = .tup [.str "many", .int row.length] := by simp [treeD, h]
theorem tree_succ (L : Nat) (low : Int) {row : List Int} (h : row ≠ []) : treeD (L + 1) low row = .tup [.str "part", .tup ((row.map (bit (low + 2 ^ L))).map .int), treeD L low (row.filter fun x => decide (x < low + 2 ^ L)), treeD L (low + 2 ^ L) (row.filter fun x => decide (low + 2 ^ L ≤ x))] := by simp [treeD, h]
theorem tree_noref (L : Nat) (low : Int) (row : List Int) : (treeD L low row).isRef = false := by
  by_cases h : row = []
  · rw [h, tree_nil]; rfl
  · cases L with
    | zero => rw [tree_zero _ h]; rfl
    | succ L => rw [tree_succ _ _ h]; rfl
theorem str_many : PyData.strOk "many" = true := by decide +kernel
theorem str_part : PyData.strOk "part" = true := by decide +kernel
theorem tree_pl : ∀ (L : Nat) (low : Int) (row : List Int), Pl (L + 2) (treeD L low row)
  | 0, low, row => by
    by_cases h : row = []
    · rw [h, tree_nil]; exact .non
    · rw [tree_zero _ h]
      refine .tup fun d hd => ?_
      simp only [List.mem_cons, List.not_mem_nil, or_false] at hd
      rcases hd with rfl | rfl
      · exact .str str_many
      · exact .int _
  | L + 1, low, row => by
    by_cases h : row = []
    · rw [h, tree_nil]; exact .non
    · rw [tree_succ _ _ h]
      refine .tup fun d hd => ?_
      simp only [List.mem_cons, List.not_mem_nil, or_false] at hd
      rcases hd with rfl | rfl | rfl | rfl
      · exact .str str_part
      · exact .tints _
      · exact tree_pl L _ _
      · exact tree_pl L _ _
theorem eqD_many : eqD (.str "many") (.str "many") = some true := by decide +kernel
theorem eqD_part_many : eqD (.str "part") (.str "many") = some false := by decide +kernel
theorem eqD_part : eqD (.str "part") (.str "part") = some true := by decide +kernel
theorem eqD_many_part : eqD (.str "many") (.str "part") = some false := by decide +kernel

theorem eqD_ee : eqD (.lst []) (.lst []) = some true := by decide +kernel
theorem wk_lst' (xs : List D) (st : Store) : wkOf (.lst xs) st = .ok (.fix xs) st := rfl
theorem tk_len (st : Store) : st.take st.length = st := List.take_length
section
variable (F : CallF) (st : Store) (i : Nat) (h : Int) (row : List Int) (hr : row.length ≤ 100000) (a b c d e : Option D)
include hr
theorem tree_c1 : compS F false (.tnm 6) .no (e__law_tree_1 i) [a, b, c, some (.int h), d, e, none] (.fix (row.map .int)) st = .ok (.lst ((row.map (bit h)).map .int)) st := by
  rw [comp_ints (fun _ => true) (fun x => .int (bit h x)) (fun _ => rfl) (fun x _ acc => ?_) (by simp only [sizeLine]; omega)]
  · rw [List.filter_eq_self.mpr (fun _ _ => rfl), List.map_map]; rfl
  · simp! [e__law_tree_1, bit]
    by_cases q : h ≤ x <;> simp [q]
theorem tree_c2 : compS F false (.tnm 6) (.so (q__law_tree_2 i)) (.var 6) [a, b, c, some (.int h), d, e, none] (.fix (row.map .int)) st = .ok (.lst ((row.filter fun x => decide (x < h)).map .int)) st := by
  rw [comp_ints (fun x => decide (x < h)) (fun x => .int x) (fun _ => rfl) (fun x _ acc => ?_) (by simp only [sizeLine]; omega)]
  · rfl
  · by_cases q : x < h
    · simp! [q__law_tree_2, q]
    · simp! [q__law_tree_2, q]
      simp
theorem tree_c3 : compS F false (.tnm 6) (.so (q__law_tree_3 i)) (.var 6) [a, b, c, some (.int h), d, e, none] (.fix (row.map .int)) st = .ok (.lst ((row.filter fun x => decide (h ≤ x)).map .int)) st := by
  rw [comp_ints (fun x => decide (h ≤ x)) (fun x => .int x) (fun _ => rfl) (fun x _ acc => ?_) (by simp only [sizeLine]; omega)]
  · rfl
  · by_cases q : h ≤ x
    · simp! [q__law_tree_3, q]
    · simp! [q__law_tree_3, q]
      simp
end
theorem tree_ok {Fs : List Fn} {n i : Nat} {fn : Fn} (hF : Fs[i]? = some fn) (hb : fn.body = t__law_tree i) (hN : fn.N.length = 7) (hk : fn.ps.length = 3) : ∀ (L : Nat) (low : Int) (row : List Int) (st : Store), L ≤ 60 → row.length ≤ 100000 →
    cf Fs (n + L + 1) i [.int low, .int L, .lst (row.map .int)] st = .ok (treeD L low row) st
  | L, low, row, st, hL, hr => by
    rw [cf_at' hF hb hN hk rfl]; simp only [t__law_tree]
    have e0 := eqD_nil (Pl.ints (k := 63) row)
    by_cases h : row = []
    · subst h
      rw [tree_nil]
      simp! [eqD_ee]
    · have e1 : (row.map D.int).isEmpty = false := by cases row with
        | nil => exact absurd rfl h
        | cons _ _ => rfl
      match L, hL with
      | 0, _ =>
        rw [tree_zero _ h]
        simp! [e0, e1, List.length_map, show decide (((0 : Nat) : Int) = 0) = true from rfl]
      | L + 1, hL =>
        rw [tree_succ _ _ h]
        have ih1 := tree_ok hF hb hN hk (n := n) L low (row.filter fun x => decide (x < low + 2 ^ L)) st (by omega) (Nat.le_trans (List.length_filter_le _ _) hr)
        have ih2 := tree_ok hF hb hN hk (n := n) L (low + 2 ^ L) (row.filter fun x => decide (low + 2 ^ L ≤ x)) st (by omega) (Nat.le_trans (List.length_filter_le _ _) hr)
        have hc : decide (((L + 1 : Nat) : Int) = 0) = false := by simp; omega
        have hm : ((L + 1 : Nat) : Int) - 1 = (L : Int) := by omega
        have hd : n + (L + 1) = n + L + 1 := rfl
        simp! [e0, e1, hc, hm, hd]
        ((try simp! [hm, wk_lst', tree_c1 _ _ _ _ _ hr, tree_c2 _ _ _ _ _ hr, tree_c3 _ _ _ _ _ hr, Int.toNat_natCast, Int.one_mul, ih1, ih2, ce_dat _ _ _ (tree_noref _ _ _), tk_len, tree_noref]); (repeat (walk_at "zo"; try simp! [hm, wk_lst', tree_c1 _ _ _ _ _ hr, tree_c2 _ _ _ _ _ hr, tree_c3 _ _ _ _ _ hr, Int.toNat_natCast, Int.one_mul, ih1, ih2, ce_dat _ _ _ (tree_noref _ _ _), tk_len, tree_noref])))

theorem size_ok {Fs : List Fn} {n i : Nat} (hF : Fs[i]? = some f_size_of) (L : Nat) (low : Int) (row : List Int) (st : Store) : cf Fs (n + 1) i [treeD L low row] st = .ok (.int row.length) st := by
  rw [cf_at hF rfl]; simp only [f_size_of, t_size_of]
  by_cases h : row = []
  · subst h
    rw [tree_nil]
    simp! []
    rfl
  · cases L with
    | zero => rw [tree_zero _ h]; simp! [eqD_many]
    | succ L => rw [tree_succ _ _ h]; simp! [eqD_part_many, List.length_map]
theorem halved_ok {Fs : List Fn} {n i j : Nat} (hF : Fs[i]? = some (f_halved j)) (hj : Fs[j]? = some f_span_of) (low : Int) (L : Nat) (hL : L + 1 ≤ 60) (m : Int) (hm : m = 0 ∨ m = 1) (st : Store) :
    cf Fs (n + 2) i [Bd low (L + 1), .int m] st = .ok (Bd (low + m * 2 ^ L) L) st := by
  rw [cf_at hF rfl]; simp only [f_halved, t_halved]
  have hs := span_ok (Fs := Fs) (n := n) hj low (L + 1) hL [m] (fun x hx => by rw [List.mem_singleton.mp hx]; exact hm) (by simp) st
  simp only [List.map_cons, List.map_nil] at hs
  have hw : lowOf low (L + 1) [m] = low + m * 2 ^ L := rfl
  simp! [hs]
  simp only [Bd]
  simp! [hw]
  rw [show ((L + 1 : Nat) : Int) - 1 = (L : Int) by omega]
theorem mid_get1 {α : Type} (R X : List α) (c d : α) : (R ++ c :: d :: X)[R.length + 1]? = some d := by
  rw [List.getElem?_append_right (by omega)]
  simp
theorem mid_set1 {α : Type} (R X : List α) (c d e : α) : (R ++ c :: d :: X).set (R.length + 1) e = R ++ c :: e :: X := by
  rw [List.set_append, if_neg (by omega)]
  simp
theorem filt_get (p : Int → Bool) (pre post : List Int) (x : Int) (h : p x = true) : ((pre ++ x :: post).filter p)[(pre.filter p).length]? = some x := by
  rw [List.filter_append, List.filter_cons, if_pos h, List.getElem?_append_right (Nat.le_refl _)]
  simp
theorem row_loop (F : CallF) (st : Store) (A B : Option D) (i1 i2 i3 : Nat) (h : Int) (row : List Int) (hr : row.length ≤ 100000) : ∀ (post pre : List Int) (mk : Option D), row = pre ++ post →
    ∃ mk', forL (turn F (.tnm 5) (b_row_of_2 i1 i2 i3)) ((post.map (bit h)).map .int)
        [A, B, some (.lst [.lst ((row.filter fun x => decide (x < h)).map .int), .lst ((row.filter fun x => decide (h ≤ x)).map .int)]), some (.ref st.length), some (.ref (st.length + 1)), mk]
        (st ++ [some (.lst [.int ((pre.filter fun x => decide (x < h)).length : Nat), .int ((pre.filter fun x => decide (h ≤ x)).length : Nat)]), some (.lst (pre.map .int))]) =
      .nx [A, B, some (.lst [.lst ((row.filter fun x => decide (x < h)).map .int), .lst ((row.filter fun x => decide (h ≤ x)).map .int)]), some (.ref st.length), some (.ref (st.length + 1)), mk']
        (st ++ [some (.lst [.int ((row.filter fun x => decide (x < h)).length : Nat), .int ((row.filter fun x => decide (h ≤ x)).length : Nat)]), some (.lst (row.map .int))])
  | [], pre, mk, e => by
    rw [List.append_nil] at e
    subst e
    exact ⟨mk, rfl⟩
  | x :: post, pre, mk, e => by
    obtain ⟨mk', ih⟩ := row_loop F st A B i1 i2 i3 h row hr post (pre ++ [x]) (some (.int (bit h x))) (by simp [e])
    refine ⟨mk', ?_⟩
    rw [List.map_cons, List.map_cons]
    have hl : pre.length < 16777216 := by rw [e] at hr; simp at hr; omega
    have step : turn F (.tnm 5) (b_row_of_2 i1 i2 i3) (.int (bit h x))
        [A, B, some (.lst [.lst ((row.filter fun x => decide (x < h)).map .int), .lst ((row.filter fun x => decide (h ≤ x)).map .int)]), some (.ref st.length), some (.ref (st.length + 1)), mk]
        (st ++ [some (.lst [.int ((pre.filter fun x => decide (x < h)).length : Nat), .int ((pre.filter fun x => decide (h ≤ x)).length : Nat)]), some (.lst (pre.map .int))]) =
      .nx [A, B, some (.lst [.lst ((row.filter fun x => decide (x < h)).map .int), .lst ((row.filter fun x => decide (h ≤ x)).map .int)]), some (.ref st.length), some (.ref (st.length + 1)), some (.int (bit h x))]
        (st ++ [some (.lst [.int (((pre ++ [x]).filter fun x => decide (x < h)).length : Nat), .int (((pre ++ [x]).filter fun x => decide (h ≤ x)).length : Nat)]), some (.lst ((pre ++ [x]).map .int))]) := by
      simp only [turn, b_row_of_2]
      by_cases q : h ≤ x
      · have hb : bit h x = 1 := by simp [bit, q]
        have g := filt_get (fun x => decide (h ≤ x)) pre post x (by simp [q])
        rw [← e] at g
        have g' : ((row.filter fun x => decide (h ≤ x)).map D.int)[(pre.filter fun x => decide (h ≤ x)).length]? = some (.int x) := by rw [List.getElem?_map, g]; rfl
        simp! [hb, mid_get1, mid_get, mid_set1, mid_set, g', List.length_map, hl]
        simp [List.filter_append, q, show ¬ x < h by omega]
      · have hb : bit h x = 0 := by simp [bit, q]
        have g := filt_get (fun x => decide (x < h)) pre post x (by simp; omega)
        rw [← e] at g
        have g' : ((row.filter fun x => decide (x < h)).map D.int)[(pre.filter fun x => decide (x < h)).length]? = some (.int x) := by rw [List.getElem?_map, g]; rfl
        simp! [hb, mid_get1, mid_get, mid_set1, mid_set, g', List.length_map, hl]
        simp [List.filter_append, q, show x < h by omega]
    rw [forL_nx step, ih]
/-- in the bounds -/
def InB (low : Int) (L : Nat) (row : List Int) : Prop := ∀ x ∈ row, low ≤ x ∧ x < low + 2 ^ L
theorem InB.lo {low : Int} {L : Nat} {row : List Int} (h : InB low (L + 1) row) : InB low L (row.filter fun x => decide (x < low + 2 ^ L)) := fun x hx => by
  have := List.mem_filter.mp hx
  exact ⟨(h x this.1).1, by simpa using this.2⟩
theorem InB.hi {low : Int} {L : Nat} {row : List Int} (h : InB low (L + 1) row) : InB (low + 2 ^ L) L (row.filter fun x => decide (low + 2 ^ L ≤ x)) := fun x hx => by
  have := List.mem_filter.mp hx
  have h2 := (h x this.1).2
  rw [Int.pow_succ] at h2
  exact ⟨by simpa using this.2, by omega⟩
theorem InB.zero {low : Int} : ∀ {row : List Int}, InB low 0 row → row = List.replicate row.length low
  | [], _ => rfl
  | x :: row, h => by
    have h1 := h x (by simp)
    have e : x = low := by simp at h1; omega
    rw [List.length_cons, List.replicate_succ, ← InB.zero (row := row) fun y hy => h y (by simp [hy]), e]
theorem ce_ref (m : Bool) (st : Store) (c : Cell) (xs : List D) : callEnd m st.length (.ref (st.length + 1)) (st ++ [some c, some (.lst xs)]) = mk m xs st := by
  simp only [callEnd]
  rw [if_neg (by omega), mid_get1]
  simp
theorem ce_new (m : Bool) (st : Store) (xs : List D) : callEnd m st.length (.ref st.length) (st ++ [some (.lst xs)]) = mk m xs st := compEnd_mk m st xs
theorem mul_lst (m : Bool) (a : List D) (k : Nat) (st : Store) (h : a.length * k ≤ 16777216) (hk : k < 2 ^ 60) : binF m .Mult (.lst a) (.int k) st = mk m (List.replicate k a).flatten st := by
  simp only [binF, mulF, lstOf, sizeLine, Int.toNat_natCast]
  exact if_pos ⟨by omega, by omega, h⟩
theorem rep_one {α : Type} (a : α) : ∀ k, (List.replicate k [a]).flatten = List.replicate k a
  | 0 => rfl
  | k + 1 => by rw [List.replicate_succ, List.replicate_succ, List.flatten_cons, rep_one a k]; rfl
theorem ce_bd (m : Bool) (k : Nat) (low : Int) (L : Nat) (st : Store) : callEnd m k (Bd low L) st = .ok (Bd low L) (st.take k) := rfl
theorem bd_eq (low : Int) (L : Nat) : Bd low L = .tup [.int low, .int L] := rfl
theorem row_of_ok {Fs : List Fn} {n i j k q : Nat} (hF : Fs[i]? = some (f_row_of i j k)) (hj : Fs[j]? = some (f_halved q)) (hq : Fs[q]? = some f_span_of) (hk : Fs[k]? = some f_top_of) : ∀ (L : Nat) (low : Int) (row : List Int) (m : Bool) (st : Store), L ≤ 60 → row.length ≤ 100000 → InB low L row →
    (cf Fs (n + L + 3) i [Bd low L, treeD L low row] st).bind (callEnd m st.length) = mk m (row.map .int) st
  | L, low, row, m, st, hL, hr, hb => by
    rw [cf_at hF rfl]; simp only [f_row_of, t_row_of]
    by_cases h : row = []
    · subst h
      rw [tree_nil]
      simp! [ce_new]
    · match L, hL, hb with
      | 0, _, hb =>
        rw [tree_zero _ h]
        have ht := top_ok (Fs := Fs) (n := n + 1) hk low 0 (by omega) st
        simp! [eqD_many, ht, tk_len]
        rw [mul_lst _ _ _ _ (by simp; omega) (by omega), rep_one]
        have e : List.map D.int row = List.replicate row.length (D.int low) := by
          conv => lhs; rw [hb.zero]
          rw [List.map_replicate]
        simp! [ce_new]
        rw [e, show low + 1 - 1 = low by omega]
      | L + 1, hL, hb =>
        rw [tree_succ _ _ h]
        have hd : n + (L + 1) + 2 = n + L + 3 := by omega
        have ih1 := fun st => row_of_ok hF hj hq hk (n := n) L low (row.filter fun x => decide (x < low + 2 ^ L)) false st (by omega) (Nat.le_trans (List.length_filter_le _ _) hr) hb.lo
        have ih2 := fun st => row_of_ok hF hj hq hk (n := n) L (low + 2 ^ L) (row.filter fun x => decide (low + 2 ^ L ≤ x)) false st (by omega) (Nat.le_trans (List.length_filter_le _ _) hr) hb.hi
        have h0 : ∀ st, cf Fs (n + L + 3) j [Bd low (L + 1), .int 0] st = .ok (Bd low L) st := fun st => by
          have := halved_ok (Fs := Fs) (n := n + L + 1) hj hq low L hL 0 (.inl rfl) st
          rw [Int.zero_mul, Int.add_zero] at this
          exact this
        have h1 : ∀ st, cf Fs (n + L + 3) j [Bd low (L + 1), .int 1] st = .ok (Bd (low + 2 ^ L) L) st := fun st => by
          have := halved_ok (Fs := Fs) (n := n + L + 1) hj hq low L hL 1 (.inr rfl) st
          rw [Int.one_mul] at this
          exact this
        simp! [eqD_part_many, hd]
        have wk : wkOf (D.tup [.int 0, .int 1]) st = .ok (.fix [.int 0, .int 1]) st := rfl
        have cc : ∀ a b c d : Option D, compS (cf Fs (n + L + 3)) false (T.tnm 5) T.no (e_row_of_1 i j k) [some (Bd low (L + 1)), some (.tup [.str "part", .tup ((row.map (bit (low + 2 ^ L))).map .int), treeD L low (row.filter fun x => decide (x < low + 2 ^ L)), treeD L (low + 2 ^ L) (row.filter fun x => decide (low + 2 ^ L ≤ x))]), a, b, c, d] (.fix [.int 0, .int 1]) st =
            .ok (.lst [.lst ((row.filter fun x => decide (x < low + 2 ^ L)).map .int), .lst ((row.filter fun x => decide (low + 2 ^ L ≤ x)).map .int)]) st := by
          intro a b c d
          rw [compS_mapT (fun x => if x matches .int 0 then .lst ((row.filter fun x => decide (x < low + 2 ^ L)).map .int) else .lst ((row.filter fun x => decide (low + 2 ^ L ≤ x)).map .int)) (fun x hx acc => ?_) (fun x hx => ?_) (by simp [sizeLine])]
          · rfl
          · simp only [List.mem_cons, List.not_mem_nil, or_false] at hx
            rcases hx with rfl | rfl
            · simp! [e_row_of_1, h0, tk_len, ce_bd, ih1]
            · simp! [e_row_of_1, h1, tk_len, ce_bd, ih2]
              rfl
          · simp only [List.mem_cons, List.not_mem_nil, or_false] at hx
            rcases hx with rfl | rfl <;> rfl
        simp! [wk, cc, List.length_append, List.append_assoc]
        obtain ⟨mk', lp⟩ := row_loop (cf Fs (n + L + 3)) st (some (Bd low (L + 1))) (some (.tup [.str "part", .tup ((row.map (bit (low + 2 ^ L))).map .int), treeD L low (row.filter fun x => decide (x < low + 2 ^ L)), treeD L (low + 2 ^ L) (row.filter fun x => decide (low + 2 ^ L ≤ x))])) i j k (low + 2 ^ L) row hr row [] none rfl
        simp only [List.filter_nil, List.length_nil, List.map_nil, show ((0 : Nat) : Int) = 0 from rfl] at lp
        simp! [wkOf, lp, ce_ref]

/-! ### the number at a place -/
theorem sum_bits (h : Int) : ∀ row : List Int, ((row.map (bit h)).sum : Int) = ((row.filter fun x => decide (h ≤ x)).length : Nat)
  | [] => rfl
  | x :: row => by
    rw [List.map_cons, List.sum_cons, sum_bits h row, List.filter_cons]
    by_cases q : h ≤ x
    · simp [bit, q]; omega
    · simp [bit, q]
theorem len_filt (h : Int) : ∀ row : List Int, ((row.filter fun x => decide (x < h)).length : Nat) + (row.filter fun x => decide (h ≤ x)).length = row.length
  | [] => rfl
  | x :: row => by
    have ih := len_filt h row
    rw [List.filter_cons, List.filter_cons]
    by_cases q : h ≤ x
    · simp [q, show ¬ x < h by omega]; omega
    · simp [q, show x < h by omega]; omega
/-- where the p-th is in its half -/
theorem at_half (h : Int) (row : List Int) (p : Nat) (x : Int) (hx : row[p]? = some x) :
    (if bit h x = 1 then (row.filter fun x => decide (h ≤ x))[((row.take p).map (bit h)).sum.toNat]? = some x else (row.filter fun x => decide (x < h))[(((p : Int) - ((row.take p).map (bit h)).sum)).toNat]? = some x) ∧
      0 ≤ ((row.take p).map (bit h)).sum ∧ ((row.take p).map (bit h)).sum ≤ p := by
  obtain ⟨hp, ex⟩ := List.getElem?_eq_some_iff.mp hx
  have er : row = row.take p ++ x :: row.drop (p + 1) := by
    rw [← ex, List.getElem_cons_drop, List.take_append_drop]
  have hl : (row.take p).length = p := by rw [List.length_take]; omega
  have s1 := sum_bits h (row.take p)
  have s2 := len_filt h (row.take p)
  refine ⟨?_, by omega, by omega⟩
  by_cases q : h ≤ x
  · rw [if_pos (by simp [bit, q]), s1]
    have g := filt_get (fun x => decide (h ≤ x)) (row.take p) (row.drop (p + 1)) x (by simp [q])
    rw [← er] at g
    simpa using g
  · rw [if_neg (by simp [bit, q])]
    have g := filt_get (fun x => decide (x < h)) (row.take p) (row.drop (p + 1)) x (by simp; omega)
    rw [← er] at g
    rw [show ((p : Int) - ((row.take p).map (bit h)).sum).toNat = ((row.take p).filter fun x => decide (x < h)).length by omega]
    exact g
theorem low_snoc : ∀ (ms : List Int) (low : Int) (e : Nat) (m : Int), lowOf low e (ms ++ [m]) = lowOf low e ms + m * 2 ^ (e - ms.length - 1)
  | [], low, e, m => by simp [lowOf]
  | k :: ms, low, e, m => by
    simp only [List.cons_append, lowOf, low_snoc ms, List.length_cons]
    rw [show e - 1 - ms.length - 1 = e - (ms.length + 1) - 1 by omega]
theorem num_loop {Fs : List Fn} {n ia i2 i3 : Nat} (ha : Fs[ia]? = some f_ahead) (low0 : Int) (L0 : Nat) (hL0 : L0 ≤ 60) (x : Int) (st : Store) : ∀ (L : Nat) (low : Int) (row ms : List Int) (p fl : Nat) (mk : Option D), row[p]? = some x → InB low L row → Marks ms → ms.length + L = L0 → lowOf low0 L0 ms = low → row.length ≤ 100000 → L < fl →
    ∃ ms' low' row' p' mk', whileL (ev (cf Fs (n + 1)) (w_number_at_1 ia i2 i3)) (ex (cf Fs (n + 1)) (b_number_at_2 ia i2 i3)) fl [some (Bd low0 L0), some (treeD L low row), some (.int p), some (.tup (ms.map .int)), mk] st =
      .nx [some (Bd low0 L0), some (treeD 0 low' row'), some (.int p'), some (.tup (ms'.map .int)), mk'] st ∧ Marks ms' ∧ ms'.length = L0 ∧ lowOf low0 L0 ms' = x
  | 0, low, row, ms, p, fl, mk, hx, hb, hm, hl, hlow, hr, hf => by
    obtain ⟨fl, rfl⟩ : ∃ f, fl = f + 1 := ⟨fl - 1, by omega⟩
    have hne : row ≠ [] := fun e => by rw [e] at hx; simp at hx
    refine ⟨ms, low, row, p, mk, ?_, hm, by omega, ?_⟩
    · refine while_f ?_
      rw [tree_zero _ hne]
      simp! [w_number_at_1, eqD_many_part]
    · have := hb x (List.mem_of_getElem? hx)
      simp at this
      omega
  | L + 1, low, row, ms, p, fl, mk, hx, hb, hm, hl, hlow, hr, hf => by
    obtain ⟨fl, rfl⟩ : ∃ f, fl = f + 1 := ⟨fl - 1, by omega⟩
    have hne : row ≠ [] := fun e => by rw [e] at hx; simp at hx
    obtain ⟨hp, ex⟩ := List.getElem?_eq_some_iff.mp hx
    have hat := at_half (low + 2 ^ L) row p x hx
    have hg : ((row.map (bit (low + 2 ^ L))).map D.int)[p]? = some (.int (bit (low + 2 ^ L) x)) := by rw [List.getElem?_map, List.getElem?_map, hx]; rfl
    have hah := ahead_ok (Fs := Fs) (n := n) ha (row.map (bit (low + 2 ^ L))) (bit (low + 2 ^ L) x) p st
    rw [← List.map_take] at hah
    have hml : ms.length ≤ 60 := by omega
    obtain ⟨S, hS⟩ : ∃ S : Int, S = ((row.take p).map (bit (low + 2 ^ L))).sum := ⟨_, rfl⟩
    rw [← hS] at hat hah
    obtain ⟨hat1, hat2, hat3⟩ := hat
    have hp2 : (2 : Int) ^ (L + 1) = 2 * 2 ^ L := by rw [Int.pow_succ]; omega
    have hls := low_snoc ms low0 L0
    rw [hlow, show L0 - ms.length - 1 = L by omega] at hls
    rcases bit01 (low + 2 ^ L) x with hbit | hbit
    · rw [hbit] at hat1 hah hg
      rw [if_neg (by omega)] at hat1 hah
      obtain ⟨P, hP⟩ : ∃ P : Nat, (P : Int) = (p : Int) - S := ⟨((p : Int) - S).toNat, by omega⟩
      rw [← hP] at hah hat1
      rw [Int.toNat_natCast] at hat1
      obtain ⟨ms', low', row', p', mk', ih, r⟩ := num_loop (i2 := i2) (i3 := i3) ha low0 L0 hL0 x st L low (row.filter fun x => decide (x < low + 2 ^ L)) (ms ++ [0]) P fl (some (.int 0)) hat1 hb.lo
        (fun y hy => by rcases List.mem_append.mp hy with h | h; exact hm y h; rw [List.mem_singleton.mp h]; exact .inl rfl) (by simp; omega) (by rw [hls]; simp) (Nat.le_trans (List.length_filter_le _ _) hr) (by omega)
      refine ⟨ms', low', row', p', mk', ?_, r⟩
      rw [← ih]
      refine while_t (st1 := st) ?_ ?_
      · rw [tree_succ _ _ hne]
        simp! [w_number_at_1, eqD_part]
      · rw [tree_succ _ _ hne]
        simp! [b_number_at_2, hg, hah, tk_len]
        ((try simp! []); (repeat (walk_at "zo"; try simp! [])))
        simp
    · rw [hbit] at hat1 hah hg
      rw [if_pos rfl] at hat1 hah
      obtain ⟨P, hP⟩ : ∃ P : Nat, (P : Int) = S := ⟨S.toNat, by omega⟩
      rw [← hP] at hah hat1
      rw [Int.toNat_natCast] at hat1
      obtain ⟨ms', low', row', p', mk', ih, r⟩ := num_loop (i2 := i2) (i3 := i3) ha low0 L0 hL0 x st L (low + 2 ^ L) (row.filter fun x => decide (low + 2 ^ L ≤ x)) (ms ++ [1]) P fl (some (.int 1)) hat1 hb.hi
        (fun y hy => by rcases List.mem_append.mp hy with h | h; exact hm y h; rw [List.mem_singleton.mp h]; exact .inr rfl) (by simp; omega) (by rw [hls]; simp) (Nat.le_trans (List.length_filter_le _ _) hr) (by omega)
      refine ⟨ms', low', row', p', mk', ?_, r⟩
      rw [← ih]
      refine while_t (st1 := st) ?_ ?_
      · rw [tree_succ _ _ hne]
        simp! [w_number_at_1, eqD_part]
      · rw [tree_succ _ _ hne]
        simp! [b_number_at_2, hg, hah, tk_len]
        ((try simp! []); (repeat (walk_at "zo"; try simp! [])))
        simp
theorem num_ok {Fs : List Fn} {n i ia i2 i3 : Nat} {rs : T} (hF : Fs[i]? = some (f_number_at rs ia i2 i3)) (ha : Fs[ia]? = some f_ahead) (h2 : Fs[i2]? = some f_span_of) (h3 : Fs[i3]? = some f_size_of) (low : Int) (L : Nat) (hL : L ≤ 60) (row : List Int) (hr : row.length ≤ 100000) (hb : InB low L row) (p : Nat) (x : Int) (hx : row[p]? = some x) (st : Store) :
    cf Fs (n + 2) i [Bd low L, treeD L low row, .int p] st = .ok (.int x) st := by
  rw [cf_at hF rfl]; simp only [f_number_at, t_number_at]
  obtain ⟨hp, ex⟩ := List.getElem?_eq_some_iff.mp hx
  have hs := size_ok (Fs := Fs) (n := n) h3 L low row st
  have c1 : decide ((p : Int) < 0) = false := decide_eq_false (by omega)
  have c2 : decide ((row.length : Int) ≤ (p : Int)) = false := decide_eq_false (by omega)
  obtain ⟨ms', low', row', p', mk', lp, hm, hl, hlow⟩ := num_loop (Fs := Fs) (n := n) (i2 := i2) (i3 := i3) ha low L hL x st L low row [] p fuel none hx hb (by simp [Marks]) (by simp) rfl hr (by simp only [fuel]; omega)
  have hsp := span_ok (Fs := Fs) (n := n) h2 low L hL ms' hm (by omega) st
  rw [hlow] at hsp
  rw [List.map_nil] at lp
  simp! [hs, c1, c2, tk_len, x_swhile, lp, hsp]
theorem num_no {Fs : List Fn} {n i ia i2 i3 : Nat} (hF : Fs[i]? = some (f_number_at (.sraise 2) ia i2 i3)) (h3 : Fs[i3]? = some f_size_of) (low : Int) (L : Nat) (row : List Int) (p : Int) (hp : p < 0 ∨ row.length ≤ p) (st : Store) :
    cf Fs (n + 2) i [Bd low L, treeD L low row, .int p] st = .exc ⟨2, none⟩ st := by
  rw [cf_at hF rfl]; simp only [f_number_at, t_number_at]
  have hs := size_ok (Fs := Fs) (n := n) h3 L low row st
  by_cases c1 : p < 0
  · simp! [c1]
  · have c2 : decide ((row.length : Int) ≤ p) = true := decide_eq_true (by omega)
    simp! [hs, c1, c2, tk_len]

/-! ### a row is drawn -/
theorem ce_at (m : Bool) (k l : Nat) (st : Store) (xs : List D) (h : k ≤ l) (hc : st[l]? = some (some (.lst xs))) : callEnd m k (.ref l) st = mk m xs (st.take k) := by
  simp only [callEnd, hc]
  rw [if_neg (by omega)]
theorem InB.snoc {low : Int} {L : Nat} {row : List Int} {v : Int} (h : InB low L row) (h1 : low ≤ v) (h2 : v < low + 2 ^ L) : InB low L (row ++ [v]) := fun x hx => by
  rcases List.mem_append.mp hx with hx | hx
  · exact h x hx
  · rw [List.mem_singleton.mp hx]; exact ⟨h1, h2⟩
theorem row_turn {Fs : List Fn} {n it ic : Nat} (ht : Fs[it]? = some (PA.f_take ic)) (hc : Fs[ic]? = some PA.f_cell) (ns : List Int) (k : Nat) (p : Int) (hk : k < 10 ^ 29) (R : Store) (low : Int) (L : Nat) (hL : L ≤ 60) (way : Int) (few acc : List Int)
    (hfew : ∀ x ∈ few, 0 ≤ x ∧ x < 2 ^ L) (hf0 : few ≠ []) (hfl : few.length ≤ 4) (ha : acc.length < 1000) (j : Int) (g a b : Option D) :
    ∃ v k' p', turn (cf Fs (n + 2)) (.tnm 8) (b__law_row_2 it) (.int j) [some (.ref 0), some (Bd low L), g, some (.int (2 ^ L)), a, some (.int way), some (.lst (few.map .int)), some (.ref (R.length + 1)), b] (PA.pen ns k p :: (R ++ [some (.lst (acc.map .int))])) =
      .nx [some (.ref 0), some (Bd low L), g, some (.int (2 ^ L)), a, some (.int way), some (.lst (few.map .int)), some (.ref (R.length + 1)), some (.int j)] (PA.pen ns k' p' :: (R ++ [some (.lst ((acc ++ [v]).map .int))])) ∧ low ≤ v ∧ v < low + 2 ^ L ∧ k' ≤ k + 1 := by
  have take := fun (m : Int) (hm : 0 < m) (hm2 : m < 10 ^ 100) => PA.take_ok (n := n) ht hc ns k p (by omega) (R ++ [some (.lst (acc.map .int))]) m hm hm2
  have hp := pow2 hL
  have hl : (acc.map D.int).length < 16777216 := by rw [List.length_map]; omega
  simp only [turn, b__law_row_2, Bd]
  by_cases w0 : way = 0
  · obtain ⟨v, k', p', e, h0, h1, h2⟩ := take (2 ^ L) hp.1 (by omega)
    refine ⟨low + v, k', p', ?_, by omega, by omega, h2⟩
    subst w0
    simp! [e, mid_get, mid_set, hl, List.map_append]
  · by_cases w3 : way = 3
    · obtain ⟨v, k', p', e, h0, h1, h2⟩ := take 5 (by omega) (by omega)
      obtain ⟨f0, few', rfl⟩ : ∃ f0 few', few = f0 :: few' := by
        cases few with
        | nil => exact absurd rfl hf0
        | cons x xs => exact ⟨x, xs, rfl⟩
      have hm0 := Int.emod_nonneg (f0 + v) (show (2 : Int) ^ L ≠ 0 by omega)
      have hm1 := Int.emod_lt_of_pos (f0 + v) hp.1
      refine ⟨low + (f0 + v) % 2 ^ L, k', p', ?_, by omega, by omega, h2⟩
      subst w3
      simp! [e, w0, show decide ((3 : Int) = 0) = false from rfl]
      rw [mod_o _ _ _ _ hp.1]
      simp! [mid_get, mid_set, hl, List.map_append]
    · have hf1 : 0 < few.length := List.length_pos_iff.mpr hf0
      obtain ⟨v, k', p', e, h0, h1, h2⟩ := take (few.length : Int) (by omega) (by omega)
      obtain ⟨x, hx, hxm⟩ := PA.atI_mem (xs := few.map D.int) h0 (by simpa using h1)
      obtain ⟨y, hy, rfl⟩ := List.mem_map.mp hxm
      have := hfew y hy
      refine ⟨low + y, k', p', ?_, by omega, by omega, h2⟩
      simp! [List.length_map, e, w0, w3, hx, mid_get, mid_set, List.map_append]
      rw [if_pos (by omega)]
      simp! []
theorem tk_pen (c : Option Cell) (R X : Store) : (c :: (R ++ X)).take (R.length + 1) = c :: R := by
  rw [List.take_succ_cons, List.take_left]
theorem row_ok {Fs : List Fn} {n i it ic : Nat} {fn : Fn} (hF : Fs[i]? = some fn) (hb : fn.body = t__law_row it) (hN : fn.N.length = 9) (hkk : fn.ps.length = 3) (ht : Fs[it]? = some (PA.f_take ic)) (hc : Fs[ic]? = some PA.f_cell) (ns : List Int) (k : Nat) (p : Int) (hk : k < 10 ^ 28) (R : Store) (low : Int) (L : Nat) (hL : L ≤ 60) (G : Nat) (hG : G ≤ 100) (m : Bool) :
    ∃ (ms : List Int) (k' : Nat) (p' : Int), (cf Fs (n + 3) i [.ref 0, Bd low L, .int G] (PA.pen ns k p :: R)).bind (callEnd m (R.length + 1)) = mk m (ms.map .int) (PA.pen ns k' p' :: R) ∧ InB low L ms ∧ ms.length ≤ 12 + G ∧ k' ≤ k + 300 := by
  have take := fun (k : Nat) (p : Int) (hk : k < 10 ^ 30) (R : Store) (m : Int) (hm : 0 < m) (hm2 : m < 10 ^ 100) => PA.take_ok (n := n) ht hc ns k p hk R m hm hm2
  have hp := pow2 hL
  rw [cf_at' hF hb hN hkk rfl]; simp only [t__law_row]
  obtain ⟨v, k1, p1, e1, hv0, hv1, hk1⟩ := take k p (by omega) R 13 (by omega) (by omega)
  obtain ⟨w, k2, p2, e2, hw0, hw1, hk2⟩ := take k1 p1 (by omega) R 8 (by omega) (by omega)
  have h1L : (1 : Int) * 2 ^ ((L : Int)).toNat = 2 ^ L := by simp
  have fin : ∀ (N : Nat) (k3 : Nat) (p3 : Int), N ≤ 12 + G → k3 ≤ k + 3 → ∃ (ms : List Int) (k' : Nat) (p' : Int),
      (bodyEnd (ex (cf Fs (n + 2)) (.cons (.sset (.tnm 5) (.call it false (.cons (.var 0) (.cons (.con (.int 4)) .nil)))) (.cons (.sset (.tnm 6) (.comp false (.srng 1 (.cons (.bin false .Add (.con (.int 1)) (.call it false (.cons (.var 0) (.cons (.con (.int 4)) .nil)))) .nil)) (.tnm 8) [("_law_k", 8)] .no (e__law_row_1 it))) (.cons (.sset (.tnm 7) (.lst true .nil)) (.cons (.sfor (.srng 1 (.cons (.var 4) .nil)) (.tnm 8) (b__law_row_2 it)) (.cons (.sif (.cmp .Eq (.var 5) (.con (.int 2))) (.cons (.sset (.tnm 7) (.blt .sorted true (.cons (.var 7) .nil))) .nil) .nil) (.cons (.sret (.var 7)) .nil))))))
        [some (.ref 0), some (Bd low L), some (.int G), some (.int (2 ^ L)), some (.int N), none, none, none, none] (PA.pen ns k3 p3 :: R))).bind (callEnd m (R.length + 1)) = mk m (ms.map .int) (PA.pen ns k' p' :: R) ∧ InB low L ms ∧ ms.length ≤ 12 + G ∧ k' ≤ k + 300 := by
    intro N k3 p3 hN hk3
    obtain ⟨way, k4, p4, e4, hy0, hy1, hk4⟩ := take k3 p3 (by omega) R 4 (by omega) (by omega)
    obtain ⟨f, k5, p5, e5, hf0, hf1, hk5⟩ := take k4 p4 (by omega) R 4 (by omega) (by omega)
    have hr1 : rngOk (1 + f) = true := by simp only [rngOk, Bool.and_eq_true, decide_eq_true_eq]; omega
    have hrN : rngOk (N : Int) = true := by simp only [rngOk, Bool.and_eq_true, decide_eq_true_eq]; omega
    obtain ⟨few, k6, p6, e6, hfl, hfew, hk6⟩ := PA.draw_ints (F := cf Fs (n + 2)) (m := false) (tg := .tnm 8) (elt := e__law_row_1 it) (env := [some (.ref 0), some (Bd low L), some (.int G), some (.int (2 ^ L)), some (.int N), some (.int way), none, none, none]) (ns := ns) (lo := 0) (hi := 2 ^ L) 1 (rngD 0 (1 + f).toNat) k5 p5 R
      (by rw [PA.rngD_len]; omega) (by rw [PA.rngD_len]; simp only [sizeLine]; omega)
      (fun y hy k p R hk => by
        obtain ⟨v, k', p', h, h0, h1, h2⟩ := take k p (by omega) R (2 ^ L) hp.1 (by omega)
        refine ⟨v, k', p', ?_, h0, h1, h2⟩
        simp! [e__law_row_1, h])
    rw [PA.rngD_len] at hfl hk6
    have hne : few ≠ [] := fun e => by rw [e] at hfl; simp at hfl; omega
    obtain ⟨env, st, e7, acc, k7, p7, b, rfl, rfl, hac, hal, hk7⟩ := forL_all (body := turn (cf Fs (n + 2)) (T.tnm 8) (b__law_row_2 it)) (xs := rngD 0 N) (env := [some (.ref 0), some (Bd low L), some (.int G), some (.int (2 ^ L)), some (.int N), some (.int way), some (.lst (few.map .int)), some (.ref (R.length + 1)), none]) (st := PA.pen ns k6 p6 :: (R ++ [some (.lst [])]))
      (fun i env st => ∃ (acc : List Int) (k : Nat) (p : Int) (b : Option D), env = [some (.ref 0), some (Bd low L), some (.int G), some (.int (2 ^ L)), some (.int N), some (.int way), some (.lst (few.map .int)), some (.ref (R.length + 1)), b] ∧ st = PA.pen ns k p :: (R ++ [some (.lst (acc.map .int))]) ∧ InB low L acc ∧ acc.length = i ∧ k ≤ k6 + i) (by
        rintro y i env st hy ⟨acc, k7, p7, b, rfl, rfl, hac, hal, hk7⟩
        have hi : i < N := by simpa [rngD] using (List.getElem?_eq_some_iff.mp hy).1
        obtain ⟨j, rfl⟩ : ∃ j : Int, y = .int j := by
          simp only [rngD] at hy
          obtain ⟨q, _, rfl⟩ := List.mem_map.mp (List.mem_of_getElem? hy)
          exact ⟨_, rfl⟩
        obtain ⟨v, k8, p8, h, h0, h1, h2⟩ := row_turn (n := n) ht hc ns k7 p7 (by omega) R low L hL way few acc hfew hne (by omega) (by omega) j (some (.int G)) (some (.int N)) b
        exact ⟨_, _, .inl h, acc ++ [v], k8, p8, _, rfl, rfl, hac.snoc h0 h1, by simp [hal], by omega⟩) ⟨[], k6, p6, none, rfl, rfl, by simp [InB], rfl, by omega⟩
    rw [PA.rngD_len] at hal hk7
    by_cases w2 : way = 2
    · have hpm := srtI_perm acc
      refine ⟨srtI acc, k7, p7, ?_, fun x hx => hac x (hpm.mem_iff.mp hx), by rw [hpm.length_eq]; omega, by omega⟩
      subst w2
      simp! [e4, e5, rngF, rng1F, hr1, e6, hrN, Int.toNat_natCast, e7]
      rw [sorted_rf _ _ _ acc (by simp! [mid_get])]
      simp! []
      rw [ce_at _ _ _ _ ((srtI acc).map .int) (by simp only [List.length_cons, List.length_append]; omega) (by simp)]
      simp only [List.append_assoc, tk_pen]
    · refine ⟨acc, k7, p7, ?_, hac, by omega, by omega⟩
      simp! [e4, e5, rngF, rng1F, hr1, e6, hrN, Int.toNat_natCast, e7, w2]
      rw [ce_at _ _ _ _ (acc.map .int) (by omega) (by simp! [mid_get])]
      simp only [tk_pen]
  by_cases h5 : w = 5
  · obtain ⟨u, k3, p3, e3, hu0, hu1, hk3⟩ := take k2 p2 (by omega) R ((G : Int) + 1) (by omega) (by omega)
    obtain ⟨ms, k', p', h, r⟩ := fin u.toNat k3 p3 (by omega) (by omega)
    refine ⟨ms, k', p', ?_, r⟩
    rw [← h, Int.toNat_of_nonneg hu0]
    subst h5
    simp! [bd_eq]
    ((try simp! [h1L, e1, e2, e3, bd_eq]); (repeat (walk_at "zo"; try simp! [h1L, e1, e2, e3, bd_eq])))
  · obtain ⟨ms, k', p', h, r⟩ := fin v.toNat k2 p2 (by omega) (by omega)
    refine ⟨ms, k', p', ?_, r⟩
    rw [← h, Int.toNat_of_nonneg hv0]
    simp! [bd_eq]
    ((try simp! [h1L, e1, e2, h5, bd_eq]); (repeat (walk_at "zo"; try simp! [h1L, e1, e2, h5, bd_eq])))
end Zn.PT

/-! PU: ways, and the tree that the program makes of a row. -/
namespace Zn.PT
open PySem PySem.Spec PyProof.Rows L2 Zn Zn.PB
def t_where (i_top_of : Nat) : T :=
  (.cons (.sif (.cmp .Lt (.var 1) (.sub (.var 0) (.con (.int 0)))) (.cons (.sret (.con (.str "below"))) .nil) .nil) (.cons (.sif (.cmp .Gt (.var 1) (.call i_top_of false (.cons (.var 0) .nil))) (.cons (.sret (.con (.str "above"))) .nil) .nil) (.cons (.sret (.con (.str "within"))) .nil)))
def f_where (i_top_of : Nat) : Fn := ⟨"where", ["bounds", "number"], ["bounds", "number"], t_where i_top_of⟩
def e_way_of_1 (i_where : Nat) : T := (.bin false .BitAnd (.bin false .RShift (.var 2) (.var 3)) (.con (.int 1)))
def t_way_of (rs : T) (i_where : Nat) : T :=
  (.cons (.sif (.cmp .NotEq (.call i_where false (.cons (.var 0) (.cons (.var 1) .nil))) (.con (.str "within"))) (.cons rs .nil) .nil) (.cons (.sset (.tnm 2) (.bin false .Sub (.var 1) (.sub (.var 0) (.con (.int 0))))) (.cons (.sret (.blt .tuple false (.cons (.comp false (.srng 3 (.cons (.bin false .Sub (.sub (.var 0) (.con (.int 1))) (.con (.int 1))) (.cons (.neg (.con (.int 1))) (.cons (.neg (.con (.int 1))) .nil)))) (.tnm 3) [("level", 3)] .no (e_way_of_1 i_where)) .nil))) .nil)))
def f_way_of (rs : T) (i_where : Nat) : Fn := ⟨"way_of", ["bounds", "number"], ["bounds", "number", "rest", "level"], t_way_of rs i_where⟩
def e_grown_1 (i_grown : Nat) : T := (.sub (.var 6) (.var 1))
def q_grown_2 (i_grown : Nat) : T := (.cmp .Eq (.sub (.var 6) (.var 1)) (.var 5))
def e_grown_3 (i_grown : Nat) : T := (.comp false (.sit (.var 0)) (.tnm 6) [("way", 6)] (.so (q_grown_2 i_grown)) (.var 6))
def t_grown (i_grown : Nat) : T :=
  (.cons (.sif (.cmp .Eq (.var 0) (.lst false .nil)) (.cons (.sret (.con .non)) .nil) .nil) (.cons (.sif (.cmp .Eq (.var 1) (.var 2)) (.cons (.sret (.tup (.cons (.con (.str "many")) (.cons (.blt .len false (.cons (.var 0) .nil)) .nil)))) .nil) .nil) (.cons (.sset (.tnm 3) (.blt .tuple false (.cons (.comp false (.sit (.var 0)) (.tnm 6) [("way", 6)] .no (e_grown_1 i_grown)) .nil))) (.cons (.sset (.tnm 4) (.comp false (.sit (.tup (.cons (.con (.int 0)) (.cons (.con (.int 1)) .nil)))) (.tnm 5) [("mark", 5)] .no (e_grown_3 i_grown))) (.cons (.sret (.tup (.cons (.con (.str "part")) (.cons (.var 3) (.cons (.call i_grown false (.cons (.sub (.var 4) (.con (.int 0))) (.cons (.bin false .Add (.var 1) (.con (.int 1))) (.cons (.var 2) .nil)))) (.cons (.call i_grown false (.cons (.sub (.var 4) (.con (.int 1))) (.cons (.bin false .Add (.var 1) (.con (.int 1))) (.cons (.var 2) .nil)))) .nil)))))) .nil)))))
def f_grown (i_grown : Nat) : Fn := ⟨"grown", ["ways", "depth", "levels"], ["ways", "depth", "levels", "marks", "halves", "mark", "way"], t_grown i_grown⟩
def e_tree_of_1 (i_grown i_way_of : Nat) : T := (.call i_way_of false (.cons (.var 0) (.cons (.var 2) .nil)))
def t_tree_of (i_grown i_way_of : Nat) : T :=
  (.cons (.sret (.call i_grown false (.cons (.comp false (.sit (.var 1)) (.tnm 2) [("number", 2)] .no (e_tree_of_1 i_grown i_way_of)) (.cons (.con (.int 0)) (.cons (.sub (.var 0) (.con (.int 1))) .nil))))) .nil)
def f_tree_of (i_grown i_way_of : Nat) : Fn := ⟨"tree_of", ["bounds", "row"], ["bounds", "row", "number"], t_tree_of i_grown i_way_of⟩

theorem eqD_ww : eqD (.str "within") (.str "within") = some true := by decide +kernel
theorem eqD_bw : eqD (.str "below") (.str "within") = some false := by decide +kernel
theorem eqD_aw : eqD (.str "above") (.str "within") = some false := by decide +kernel
theorem where_ok {Fs : List Fn} {n i it : Nat} (hF : Fs[i]? = some (f_where it)) (ht : Fs[it]? = some f_top_of) (low : Int) (L : Nat) (hL : L ≤ 60) (x : Int) (st : Store) :
    cf Fs (n + 2) i [Bd low L, .int x] st = .ok (.str (if x < low then "below" else if low + 2 ^ L ≤ x then "above" else "within")) st := by
  rw [cf_at hF rfl]; simp only [f_where, t_where]
  have h := top_ok (Fs := Fs) (n := n) ht low L hL st
  rw [bd_eq] at h ⊢
  by_cases c1 : x < low
  · simp! [c1]
  · by_cases c2 : low + 2 ^ L ≤ x
    · have c3 : decide (low + 2 ^ L - 1 < x) = true := decide_eq_true (by omega)
      simp! [c1, h, tk_len, c2, c3]
    · have c3 : decide (low + 2 ^ L - 1 < x) = false := decide_eq_false (by omega)
      simp! [c1, h, tk_len, c2, c3]
/-- the way of a number: its figures by two -/
def wayL (L : Nat) (r : Int) : List Int := (List.range L).map fun k => r / 2 ^ (L - 1 - k) % 2
def wayD (L : Nat) (low x : Int) : D := .tup ((wayL L (x - low)).map .int)
theorem way_ok {Fs : List Fn} {n i iw it : Nat} {rs : T} (hF : Fs[i]? = some (f_way_of rs iw)) (hw : Fs[iw]? = some (f_where it)) (ht : Fs[it]? = some f_top_of) (low : Int) (L : Nat) (hL : L ≤ 60) (x : Int) (h1 : low ≤ x) (h2 : x < low + 2 ^ L) (st : Store) :
    cf Fs (n + 3) i [Bd low L, .int x] st = .ok (wayD L low x) st := by
  rw [cf_at hF rfl]; simp only [f_way_of, t_way_of]
  have h := where_ok (Fs := Fs) (n := n) hw ht low L hL x st
  rw [if_neg (by omega), if_neg (by omega)] at h
  have hr : rngOk ((L : Int) - 1) = true := by simp only [rngOk, Bool.and_eq_true, decide_eq_true_eq]; omega
  have hn : ((L : Int) - 1 - -1).toNat = L := by omega
  have hc : compS (cf Fs (n + 2)) false (.tnm 3) .no (e_way_of_1 iw) [some (.tup [.int low, .int L]), some (.int x), some (.int (x - low)), none] (.fix ((List.range L).map fun (k : Nat) => .int ((L : Int) - 1 - k))) st = .ok (.lst ((wayL L (x - low)).map .int)) st := by
    rw [compS_mapT (fun d => match d with
      | .int e => .int ((x - low) / 2 ^ e.toNat % 2)
      | d => .non) (fun y hy acc => ?_) (fun y hy => ?_) (by simp only [sizeLine, List.length_map, List.length_range]; omega)]
    · rw [mk_false, List.map_map]
      congr 2
      simp only [wayL, List.map_map]
      apply List.map_congr_left
      intro k hk
      have := List.mem_range.mp hk
      simp only [Function.comp]
      rw [show ((L : Int) - 1 - k).toNat = L - 1 - k by omega]
    · obtain ⟨k, hk, rfl⟩ := List.mem_map.mp hy
      have := List.mem_range.mp hk
      simp! [e_way_of_1]
      rw [shr_o _ _ _ _ (by omega)]
      simp! []
      simp only [binF, andF, bitAnd_m1]
      simp! []
    · obtain ⟨k, hk, rfl⟩ := List.mem_map.mp hy
      rfl
  rw [bd_eq] at h ⊢
  simp! [h, tk_len, eqD_ww, rngF, rng3F, hr, show rngOk (-1) = true from rfl, hn, hc]
  rfl

section
variable {body : D → Store → Res (Option D)} {n : Nat} {α : Type}
theorem compL_on (f g : α → D) (q : α → Bool) (hr : ∀ x, (g x).isRef = false) : ∀ (xs : List α) (acc : List D) {st : Store}, st.length = n → (∀ x ∈ xs, ∀ acc, body (f x) (st ++ [some (.lst acc)]) = .ok (if q x = true then some (g x) else none) (st ++ [some (.lst acc)])) → acc.length + xs.length ≤ sizeLine →
    compL body n (xs.map f) (st ++ [some (.lst acc)]) = .ok () (st ++ [some (.lst (acc ++ (xs.filter q).map g))])
  | [], acc, st, hn, h, hs => by simp [compL]
  | x :: xs, acc, st, hn, h, hs => by
    simp only [List.length_cons] at hs
    have h1 := h x (by simp) acc
    rw [List.map_cons, compL_cons, h1, List.filter_cons]
    by_cases hq : q x = true
    · have e1 : (st ++ [some (Cell.lst acc)])[n]? = some (some (.lst acc)) := by rw [← hn]; simp
      have c : (g x).isRef = false ∧ acc.length < sizeLine := ⟨hr x, by omega⟩
      have e2 : (st ++ [some (Cell.lst acc)]).set n (some (.lst (acc ++ [g x]))) = st ++ [some (.lst (acc ++ [g x]))] := by rw [← hn]; simp
      simp only [if_pos hq, e1, if_pos c, e2]
      rw [compL_on f g q hr xs (acc ++ [g x]) hn (fun y hy => h y (by simp [hy])) (by simp; omega)]
      simp
    · simp only [if_neg hq]
      exact compL_on f g q hr xs acc hn (fun y hy => h y (by simp [hy])) (by omega)
end
/-- a comprehension over things that come of others -/
theorem comp_on {F : CallF} {m : Bool} {tg cond elt : T} {env : Env} {st : Store} {α : Type} {xs : List α} (f : α → D) (q : α → Bool) (g : α → D) (hr : ∀ x, (g x).isRef = false)
    (h : ∀ x ∈ xs, ∀ acc, cturn F tg cond elt env (f x) (st ++ [some (.lst acc)]) = .ok (if q x = true then some (g x) else none) (st ++ [some (.lst acc)])) (hs : xs.length ≤ sizeLine) :
    compS F m tg cond elt env (.fix (xs.map f)) st = mk m ((xs.filter q).map g) st := by
  rw [compS_fix, compL_on f g q hr xs [] rfl h (by simpa using hs), bind_ok, compEnd_mk]
  simp
/-- low is the lower end of a part with e levels left, low0 that of the whole -/
def Part (low0 low : Int) (e : Nat) : Prop := ∃ q : Int, low = low0 + q * 2 ^ e
theorem Part.lo {low0 low : Int} {e : Nat} (h : Part low0 low (e + 1)) : Part low0 low e := by
  obtain ⟨q, rfl⟩ := h
  exact ⟨2 * q, by rw [Int.pow_succ, Int.mul_comm (2 ^ e) 2, ← Int.mul_assoc, Int.mul_comm q 2]⟩
theorem Part.hi {low0 low : Int} {e : Nat} (h : Part low0 low (e + 1)) : Part low0 (low + 2 ^ e) e := by
  obtain ⟨q, hq⟩ := h.lo
  exact ⟨q + 1, by rw [hq, Int.add_mul, Int.one_mul, Int.add_assoc]⟩
theorem part_bit {low0 low x : Int} {e : Nat} (h : Part low0 low (e + 1)) (h1 : low ≤ x) (h2 : x < low + 2 ^ (e + 1)) : (x - low0) / 2 ^ e % 2 = bit (low + 2 ^ e) x := by
  obtain ⟨q, rfl⟩ := h
  have hp : (0 : Int) < 2 ^ e := Int.pow_pos (by omega)
  have hs : (2 : Int) ^ (e + 1) = 2 ^ e * 2 := Int.pow_succ ..
  obtain ⟨r, hr⟩ : ∃ r, r = x - (low0 + q * 2 ^ (e + 1)) := ⟨_, rfl⟩
  have hx : x - low0 = r + 2 ^ e * (2 * q) := by
    have : q * (2 ^ e * 2) = 2 ^ e * (2 * q) := by rw [Int.mul_comm q, Int.mul_assoc, Int.mul_comm 2 q]
    rw [hs] at hr
    omega
  rw [hx, Int.add_mul_ediv_left _ _ (by omega)]
  by_cases c : low0 + q * 2 ^ (e + 1) + 2 ^ e ≤ x
  · have : r / 2 ^ e = 1 := by
      have e1 : r = (r - 2 ^ e) + 2 ^ e * 1 := by omega
      rw [e1, Int.add_mul_ediv_left _ _ (by omega), Int.ediv_eq_zero_of_lt (by omega) (by omega)]
      rfl
    rw [this]
    simp only [bit, if_pos c]
    omega
  · have : r / 2 ^ e = 0 := Int.ediv_eq_zero_of_lt (by omega) (by omega)
    rw [this]
    simp only [bit, if_neg c]
    omega
theorem way_get {low0 low x : Int} {L e : Nat} (hL : e + 1 ≤ L) (h : Part low0 low (e + 1)) (h1 : low ≤ x) (h2 : x < low + 2 ^ (e + 1)) : ((wayL L (x - low0)).map D.int)[L - (e + 1)]? = some (.int (bit (low + 2 ^ e) x)) := by
  rw [List.getElem?_map, wayL, List.getElem?_map, List.getElem?_range (by omega)]
  simp only [Option.map_some]
  rw [show L - 1 - (L - (e + 1)) = e by omega, part_bit h h1 h2]
theorem way_noref (L : Nat) (low x : Int) : (wayD L low x).isRef = false := rfl
theorem ways_pl (L : Nat) (low : Int) (row : List Int) : Pl 64 (.lst (row.map (wayD L low))) := .lst fun d hd => by
  obtain ⟨x, _, rfl⟩ := List.mem_map.mp hd
  exact .tints (k := 62) _
section
variable (F : CallF) (st : Store) (i L e : Nat) (low0 low : Int) (row : List Int) (hL : e + 1 ≤ L) (hp : Part low0 low (e + 1)) (hb : InB low (e + 1) row) (hr : row.length ≤ 100000) (a b c d : Option D)
include hL hp hb hr
theorem grown_c1 : compS F false (.tnm 6) .no (e_grown_1 i) [a, some (.int ((L - (e + 1) : Nat) : Int)), b, c, d, none, none] (.fix (row.map (wayD L low0))) st = .ok (.lst ((row.map (bit (low + 2 ^ e))).map .int)) st := by
  rw [comp_on (wayD L low0) (fun _ => true) (fun x => .int (bit (low + 2 ^ e) x)) (fun _ => rfl) (fun x hx acc => ?_) (by simp only [sizeLine]; omega)]
  · rw [List.filter_eq_self.mpr (fun _ _ => rfl), List.map_map]; rfl
  · have g := way_get hL hp (hb x hx).1 (hb x hx).2
    simp only [wayD]
    simp! [e_grown_1, g]
theorem grown_c2 (mark : Int) (hm : mark = 0 ∨ mark = 1) : compS F false (.tnm 6) (.so (q_grown_2 i)) (.var 6) [a, some (.int ((L - (e + 1) : Nat) : Int)), b, c, d, some (.int mark), none] (.fix (row.map (wayD L low0))) st =
    .ok (.lst ((if mark = 0 then row.filter (fun x => decide (x < low + 2 ^ e)) else row.filter (fun x => decide (low + 2 ^ e ≤ x))).map (wayD L low0))) st := by
  rw [comp_on (wayD L low0) (fun x => decide (bit (low + 2 ^ e) x = mark)) (wayD L low0) (fun _ => rfl) (fun x hx acc => ?_) (by simp only [sizeLine]; omega)]
  · rw [mk_false]
    rcases hm with rfl | rfl
    · rw [if_pos rfl]
      congr 4
      funext x
      by_cases q : low + 2 ^ e ≤ x
      · simp [bit, q]
      · simp [bit, q]; omega
    · rw [if_neg (by omega)]
      congr 4
      funext x
      by_cases q : low + 2 ^ e ≤ x
      · simp [bit, q]
      · simp [bit, q]
  · have g := way_get hL hp (hb x hx).1 (hb x hx).2
    simp only [wayD]
    by_cases q : bit (low + 2 ^ e) x = mark
    · simp! [q_grown_2, g, eqD_int, q]
    · simp! [q_grown_2, g, eqD_int, q]
      rfl
theorem grown_c3 : compS F false (.tnm 5) .no (e_grown_3 i) [some (.lst (row.map (wayD L low0))), some (.int ((L - (e + 1) : Nat) : Int)), b, c, none, none, none] (.fix [.int 0, .int 1]) st =
    .ok (.lst [.lst ((row.filter fun x => decide (x < low + 2 ^ e)).map (wayD L low0)), .lst ((row.filter fun x => decide (low + 2 ^ e ≤ x)).map (wayD L low0))]) st := by
  have c2 := fun (st : Store) (mark : Int) (hm : mark = 0 ∨ mark = 1) => grown_c2 F st i L e low0 low row hL hp hb hr (some (.lst (row.map (wayD L low0)))) b c none mark hm
  rw [compS_mapT (fun x => if x matches .int 0 then .lst ((row.filter fun x => decide (x < low + 2 ^ e)).map (wayD L low0)) else .lst ((row.filter fun x => decide (low + 2 ^ e ≤ x)).map (wayD L low0))) (fun x hx acc => ?_) (fun x hx => ?_) (by simp [sizeLine])]
  · rfl
  · simp only [List.mem_cons, List.not_mem_nil, or_false] at hx
    rcases hx with rfl | rfl
    · simp! [e_grown_3, wk_lst', c2 _ 0 (.inl rfl)]
    · simp! [e_grown_3, wk_lst', c2 _ 1 (.inr rfl)]
      rfl
  · simp only [List.mem_cons, List.not_mem_nil, or_false] at hx
    rcases hx with rfl | rfl <;> rfl
end
theorem grown_ok {Fs : List Fn} {n i : Nat} (hF : Fs[i]? = some (f_grown i)) (low0 : Int) (L : Nat) (hL : L ≤ 60) : ∀ (e : Nat) (low : Int) (row : List Int) (st : Store), e ≤ L → Part low0 low e → InB low e row → row.length ≤ 100000 →
    cf Fs (n + e + 1) i [.lst (row.map (wayD L low0)), .int ((L - e : Nat) : Int), .int L] st = .ok (treeD e low row) st
  | e, low, row, st, he, hp, hb, hr => by
    rw [cf_at hF rfl]; simp only [f_grown, t_grown]
    have e0 := eqD_nil (ways_pl L low0 row)
    by_cases h : row = []
    · subst h
      rw [tree_nil]
      simp! [eqD_ee]
    · have e1 : (row.map (wayD L low0)).isEmpty = false := by cases row with
        | nil => exact absurd rfl h
        | cons _ _ => rfl
      match e, he, hp, hb with
      | 0, _, hp, hb =>
        rw [tree_zero _ h]
        simp! [e0, e1, eqD_int, Nat.sub_zero, eq_self, List.length_map]
      | e + 1, he, hp, hb =>
        rw [tree_succ _ _ h]
        have ih1 := grown_ok hF low0 L hL (n := n) e low (row.filter fun x => decide (x < low + 2 ^ e)) st (by omega) hp.lo hb.lo (Nat.le_trans (List.length_filter_le _ _) hr)
        have ih2 := grown_ok hF low0 L hL (n := n) e (low + 2 ^ e) (row.filter fun x => decide (low + 2 ^ e ≤ x)) st (by omega) hp.hi hb.hi (Nat.le_trans (List.length_filter_le _ _) hr)
        have hc : decide (((L - (e + 1) : Nat) : Int) = (L : Int)) = false := decide_eq_false (by omega)
        have hd : n + (e + 1) = n + e + 1 := rfl
        have hs : ((L - (e + 1) : Nat) : Int) + 1 = ((L - e : Nat) : Int) := by omega
        have c1 := fun a b c d => grown_c1 (cf Fs (n + e + 1)) st i L e low0 low row he hp hb hr a b c d
        have c3 := fun b c => grown_c3 (cf Fs (n + e + 1)) st i L e low0 low row he hp hb hr b c
        simp! [e0, e1, eqD_int, hc, hd, wk_lst', c1, c3, show wkOf (.tup [.int 0, .int 1]) st = .ok (.fix [.int 0, .int 1]) st from rfl, hs, ih1, ih2, ce_dat _ _ _ (tree_noref _ _ _), tk_len, tree_noref]
theorem int_zero_nat : (0 : Int) = ((0 : Nat) : Int) := rfl
theorem InB.part {low : Int} {L : Nat} : Part low low L := ⟨0, by rw [Int.zero_mul, Int.add_zero]⟩
theorem tree_of_ok {Fs : List Fn} {n i ig iy iw it : Nat} {rs : T} (hF : Fs[i]? = some (f_tree_of ig iy)) (hg : Fs[ig]? = some (f_grown ig)) (hy : Fs[iy]? = some (f_way_of rs iw)) (hw : Fs[iw]? = some (f_where it)) (ht : Fs[it]? = some f_top_of)
    (low : Int) (L : Nat) (hL : L ≤ 60) (row : List Int) (hb : InB low L row) (hr : row.length ≤ 100000) (st : Store) (r : D) (h : r = .lst (row.map .int) ∨ ∃ l, r = .ref l ∧ lstOf st (.ref l) = some (row.map .int)) :
    cf Fs (n + L + 4) i [Bd low L, r] st = .ok (treeD L low row) st := by
  rw [cf_at hF rfl]; simp only [f_tree_of, t_tree_of]
  have g := grown_ok (Fs := Fs) (n := n + 2) hg low L hL L low row st (Nat.le_refl _) InB.part hb hr
  rw [Nat.sub_self, ← int_zero_nat, show n + 2 + L + 1 = n + L + 3 by omega] at g
  have y := fun x st (hx : x ∈ row) => way_ok (Fs := Fs) (n := n + L) hy hw ht low L hL x (hb x hx).1 (hb x hx).2 st
  rw [bd_eq] at y
  have tn : ∀ x ∈ row, ∀ acc, cturn (cf Fs (n + L + 3)) (.tnm 2) .no (e_tree_of_1 ig iy) [some (.tup [.int low, .int L]), some r, none] (.int x) (st ++ [some (.lst acc)]) = .ok (some (wayD L low x)) (st ++ [some (.lst acc)]) := by
    intro x hx acc
    simp! [e_tree_of_1, y x _ hx, ce_dat _ _ _ (way_noref L low x), tk_len]
  have c : ∀ w, wkOf r st = .ok w st → compS (cf Fs (n + L + 3)) false (.tnm 2) .no (e_tree_of_1 ig iy) [some (.tup [.int low, .int L]), some r, none] w st = .ok (.lst (row.map (wayD L low))) st := by
    intro w hw
    rcases h with rfl | ⟨l, rfl, hl⟩
    · rw [wk_lst'] at hw
      cases hw
      rw [comp_on D.int (fun _ => true) (wayD L low) (fun _ => rfl) (fun x hx acc => by rw [tn x hx acc]; rfl) (by simp only [sizeLine]; omega), List.filter_eq_self.mpr (fun _ _ => rfl)]
      rfl
    · have e : wkOf (.ref l) st = .ok (.live l) st := by simp only [wkOf, hl]
      rw [e] at hw
      cases hw
      rw [compS_live (fun d => match d with
        | .int x => some (wayD L low x)
        | _ => none) hl (fun d hd acc => ?_) (fun d hd e he => ?_) (by simp only [sizeLine, List.length_map]; omega)]
      · rw [mk_false, List.filterMap_map]
        congr 2
        show row.filterMap (fun x => some (wayD L low x)) = _
        rw [List.filterMap_eq_map']
      · obtain ⟨x, hx, rfl⟩ := List.mem_map.mp hd
        exact tn x hx acc
      · obtain ⟨x, hx, rfl⟩ := List.mem_map.mp hd
        cases he
        rfl
  obtain ⟨w, hwk⟩ : ∃ w, wkOf r st = .ok w st := by
    rcases h with rfl | ⟨l, rfl, hl⟩
    · exact ⟨_, rfl⟩
    · exact ⟨.live l, by simp only [wkOf, hl]⟩
  simp! [bd_eq, hwk, c w hwk, g, ce_dat _ _ _ (tree_noref _ _ _), tk_len]
end Zn.PT

/-! PG: the pen of the laws that draw by one cell; rows, trees and ways by it. -/
namespace Zn.PG
open PySem PySem.Spec PyProof.Rows L2 Zn Zn.PB Zn.PT
def b_lifted_1 (rs : T) (i_place_of i_size_of : Nat) : T := (.cons (.sif (.cmp .Is (.var 0) (.con .non)) (.cons rs .nil) .nil) (.cons (.sexp (.mth .append (.var 3) (.cons (.tup (.cons (.sub (.var 0) (.con (.int 1))) (.cons (.var 4) .nil))) .nil))) (.cons (.sset (.tnm 0) (.sub (.var 0) (.bin false .Add (.con (.int 2)) (.var 4)))) .nil)))
def b_lifted_2 (i_place_of i_size_of : Nat) : T := (.cons (.sset (.tnm 2) (.call i_place_of false (.cons (.var 5) (.cons (.var 4) (.cons (.var 2) .nil))))) .nil)
def t_lifted (rs : T) (i_place_of i_size_of : Nat) : T :=
  (.cons (.sset (.tnm 3) (.lst true .nil)) (.cons (.sfor (.sit (.var 1)) (.tnm 4) (b_lifted_1 rs i_place_of i_size_of)) (.cons (.sif (.nt (.cmp2 .LtE .Lt (.con (.int 0)) (.var 2) (.call i_size_of false (.cons (.var 0) .nil)))) (.cons rs .nil) .nil) (.cons (.sfor (.srev (.frz (.var 3))) (.ttp (.cons (.tnm 5) (.cons (.tnm 4) .nil))) (b_lifted_2 i_place_of i_size_of)) (.cons (.sret (.var 2)) .nil)))))
def f_lifted (rs : T) (i_place_of i_size_of : Nat) : Fn := ⟨"lifted", ["tree", "way", "place"], ["tree", "way", "place", "rows", "mark", "marks"], t_lifted rs i_place_of i_size_of⟩
def b_place_of_1 : T := (.cons (.sif (.cmp .Eq (.var 5) (.var 1)) (.cons (.sif (.cmp .Eq (.var 3) (.con (.int 0))) (.cons (.sret (.var 4)) .nil) .nil) (.cons (.sset (.tnm 3) (.bin false .Sub (.var 3) (.con (.int 1)))) .nil)) .nil) .nil)
def t_place_of (rs : T) : T :=
  (.cons (.sset (.tnm 3) (.var 2)) (.cons (.sfor (.senum (.var 0)) (.ttp (.cons (.tnm 4) (.cons (.tnm 5) .nil))) b_place_of_1) (.cons rs .nil)))
def f_place_of (rs : T) : Fn := ⟨"place_of", ["marks", "mark", "number"], ["marks", "mark", "number", "left", "place", "other"], t_place_of rs⟩
def t__law_cell : T :=
  (.cons (.sif (.cmp .Lt (.var 1) (.blt .len false (.cons (.var 0) .nil))) (.cons (.sret (.sub (.var 0) (.var 1))) .nil) .nil) (.cons (.sset (.tnm 2) (.bin false .Add (.bin false .Mult (.var 1) (.con (.int 7919))) (.con (.int 5)))) (.cons (.sif (.cmp .Gt (.blt .len false (.cons (.var 0) .nil)) (.con (.int 0))) (.cons (.sset (.tnm 2) (.bin false .Add (.bin false .Mult (.bin false .Mod (.sub (.var 0) (.bin false .Mod (.bin false .Mult (.var 1) (.con (.int 7))) (.blt .len false (.cons (.var 0) .nil)))) (.con (.int 2147483647))) (.con (.int 48271))) (.bin false .Mult (.var 1) (.con (.int 7919))))) .nil) .nil) (.cons (.sret (.bin false .Mod (.bin false .Mult (.var 2) (.var 2)) (.con (.int 2147483629)))) .nil))))
def f__law_cell : Fn := ⟨"_law_cell", ["_law_script", "_law_k"], ["_law_script", "_law_k", "_law_number"], t__law_cell⟩
def t__law_pen : T :=
  (.cons (.sret (.lst true (.cons (.var 0) (.cons (.con (.int 0)) .nil)))) .nil)
def f__law_pen : Fn := ⟨"_law_pen", ["_law_cell_here"], ["_law_cell_here"], t__law_pen⟩
def t__law_take : T :=
  (.cons (.sif (.bop .Or (.cons (.cmp .Lt (.sub (.var 0) (.con (.int 1))) (.con (.int 0))) (.cons (.bop .And (.cons (.cmp .Eq (.sub (.var 0) (.con (.int 1))) (.con (.int 0))) (.cons (.cmp .GtE (.sub (.var 0) (.con (.int 0))) (.bin false .Pow (.con (.int 10)) (.con (.int 18)))) .nil))) .nil))) (.cons (.sset (.tix (.var 0) (.con (.int 1))) (.neg (.con (.int 1)))) (.cons (.sset (.tnm 3) (.bin false .Mod (.sub (.var 0) (.con (.int 0))) (.var 1))) (.cons (.sset (.tix (.var 0) (.con (.int 0))) (.bin false .FloorDiv (.sub (.var 0) (.con (.int 0))) (.var 1))) (.cons (.sret (.var 3)) .nil)))) .nil) (.cons (.sset (.tix (.var 0) (.con (.int 1))) (.bin false .Add (.sub (.var 0) (.con (.int 1))) (.con (.int 1)))) (.cons (.sset (.tnm 2) (.bin false .Mod (.bin false .Add (.bin false .Add (.bin false .Mod (.sub (.var 0) (.con (.int 0))) (.con (.int 2147483647))) (.bin false .Mult (.con (.int 40503)) (.sub (.var 0) (.con (.int 1))))) (.con (.int 11))) (.con (.int 2147483629)))) (.cons (.sset (.tnm 2) (.bin false .Mod (.bin false .Mult (.var 2) (.bin false .Add (.var 2) (.con (.int 48271)))) (.con (.int 2147483587)))) (.cons (.sret (.bin false .Mod (.bin false .FloorDiv (.bin false .Mod (.bin false .Mult (.var 2) (.bin false .Add (.var 2) (.con (.int 69621)))) (.con (.int 2305843009213693951))) (.con (.int 5))) (.var 1))) .nil)))))
def f__law_take : Fn := ⟨"_law_take", ["_law_pen_here", "_law_size"], ["_law_pen_here", "_law_size", "_law_number", "_law_digit"], t__law_take⟩
def t__law_bounds (i__law_take : Nat) : T :=
  (.cons (.sset (.tnm 1) (.sub (.lst false (.cons (.call i__law_take false (.cons (.var 0) (.cons (.con (.int 5)) .nil))) (.cons (.con (.int 3)) (.cons (.call i__law_take false (.cons (.var 0) (.cons (.con (.int 41)) .nil))) (.cons (.con (.int 2)) .nil))))) (.call i__law_take false (.cons (.var 0) (.cons (.con (.int 4)) .nil))))) (.cons (.sset (.tnm 2) (.sub (.lst false (.cons (.con (.int 0)) (.cons (.neg (.con (.int 7))) (.cons (.bin false .Sub (.call i__law_take false (.cons (.var 0) (.cons (.bin false .Pow (.con (.int 10)) (.con (.int 39))) .nil))) (.bin false .Pow (.con (.int 10)) (.con (.int 38)))) (.cons (.con (.int 1)) .nil))))) (.call i__law_take false (.cons (.var 0) (.cons (.con (.int 4)) .nil))))) (.cons (.sret (.tup (.cons (.var 2) (.cons (.var 1) .nil)))) .nil)))
def f__law_bounds (i__law_take : Nat) : Fn := ⟨"_law_bounds", ["_law_pen_here"], ["_law_pen_here", "_law_levels", "_law_low"], t__law_bounds i__law_take⟩
def b__law_numbers_1 (i__law_take : Nat) : T := (.cons (.sif (.bop .And (.cons (.cmp .Eq (.call i__law_take false (.cons (.var 0) (.cons (.con (.int 4)) .nil))) (.con (.int 3))) (.cons (.cmp .NotEq (.var 3) (.lst false .nil)) .nil))) (.cons (.sexp (.mth .append (.var 3) (.cons (.sub (.var 3) (.call i__law_take false (.cons (.var 0) (.cons (.blt .len false (.cons (.var 3) .nil)) .nil)))) .nil))) .nil) (.cons (.sexp (.mth .append (.var 3) (.cons (.bin false .Add (.sub (.var 1) (.con (.int 0))) (.call i__law_take false (.cons (.var 0) (.cons (.bin false .LShift (.con (.int 1)) (.sub (.var 1) (.con (.int 1)))) .nil)))) .nil))) .nil)) .nil)
def t__law_numbers (i__law_take : Nat) : T :=
  (.cons (.sset (.tnm 3) (.lst true .nil)) (.cons (.sfor (.srng 1 (.cons (.call i__law_take false (.cons (.var 0) (.cons (.bin false .Add (.var 2) (.con (.int 1))) .nil))) .nil)) (.tnm 4) (b__law_numbers_1 i__law_take)) (.cons (.sret (.var 3)) .nil)))
def f__law_numbers (i__law_take : Nat) : Fn := ⟨"_law_numbers", ["_law_pen_here", "_law_bounds_here", "_law_long"], ["_law_pen_here", "_law_bounds_here", "_law_long", "_law_found", "_law_k"], t__law_numbers i__law_take⟩
def e__law_grown_1 (i__law_grown : Nat) : T := (.blt .int false (.cons (.cmp .GtE (.var 5) (.var 2)) .nil))
def q__law_grown_2 (i__law_grown : Nat) : T := (.cmp .Lt (.var 5) (.var 2))
def q__law_grown_3 (i__law_grown : Nat) : T := (.cmp .GtE (.var 5) (.var 2))
def e__law_grown_4 (i__law_grown : Nat) : T := (.bin false .Sub (.var 5) (.var 2))
def t__law_grown (i__law_grown : Nat) : T :=
  (.cons (.sif (.cmp .Eq (.var 1) (.lst false .nil)) (.cons (.sret (.con .non)) .nil) .nil) (.cons (.sif (.cmp .Eq (.var 0) (.con (.int 0))) (.cons (.sret (.tup (.cons (.con (.str "many")) (.cons (.blt .len false (.cons (.var 1) .nil)) .nil)))) .nil) .nil) (.cons (.sset (.tnm 2) (.bin false .LShift (.con (.int 1)) (.bin false .Sub (.var 0) (.con (.int 1))))) (.cons (.sset (.tnm 3) (.blt .tuple false (.cons (.comp false (.sit (.var 1)) (.tnm 5) [("_law_offset", 5)] .no (e__law_grown_1 i__law_grown)) .nil))) (.cons (.sset (.tnm 4) (.call i__law_grown false (.cons (.bin false .Sub (.var 0) (.con (.int 1))) (.cons (.comp false (.sit (.var 1)) (.tnm 5) [("_law_offset", 5)] (.so (q__law_grown_2 i__law_grown)) (.var 5)) .nil)))) (.cons (.sret (.tup (.cons (.con (.str "part")) (.cons (.var 3) (.cons (.var 4) (.cons (.call i__law_grown false (.cons (.bin false .Sub (.var 0) (.con (.int 1))) (.cons (.comp false (.sit (.var 1)) (.tnm 5) [("_law_offset", 5)] (.so (q__law_grown_3 i__law_grown)) (e__law_grown_4 i__law_grown)) .nil))) .nil)))))) .nil))))))
def f__law_grown (i__law_grown : Nat) : Fn := ⟨"_law_grown", ["_law_levels", "_law_offsets"], ["_law_levels", "_law_offsets", "_law_half", "_law_marks", "_law_lower", "_law_offset"], t__law_grown i__law_grown⟩
def e__law_tree_1 (i__law_grown : Nat) : T := (.bin false .Sub (.var 2) (.sub (.var 0) (.con (.int 0))))
def t__law_tree (i__law_grown : Nat) : T :=
  (.cons (.sret (.call i__law_grown false (.cons (.sub (.var 0) (.con (.int 1))) (.cons (.comp false (.sit (.var 1)) (.tnm 2) [("_law_number", 2)] .no (e__law_tree_1 i__law_grown)) .nil)))) .nil)
def f__law_tree (i__law_grown : Nat) : Fn := ⟨"_law_tree", ["_law_bounds_here", "_law_row"], ["_law_bounds_here", "_law_row", "_law_number"], t__law_tree i__law_grown⟩
def b__law_within_1 : T := (.cons (.sset (.tnm 4) (.bin false .FloorDiv (.var 4) (.con (.int 2)))) (.cons (.sif (.cmp .NotEq (.bin false .FloorDiv (.var 3) (.var 4)) (.var 5)) (.cons (.sret (.con (.bl false))) .nil) .nil) (.cons (.sset (.tnm 3) (.bin false .Mod (.var 3) (.var 4))) .nil)))
def t__law_within : T :=
  (.cons (.sset (.tnm 3) (.var 0)) (.cons (.sset (.tnm 4) (.bin false .LShift (.con (.int 1)) (.sub (.var 1) (.con (.int 1))))) (.cons (.sfor (.sit (.var 2)) (.tnm 5) b__law_within_1) (.cons (.sret (.con (.bl true))) .nil))))
def f__law_within : Fn := ⟨"_law_within", ["_law_offset", "_law_bounds_here", "_law_way_here"], ["_law_offset", "_law_bounds_here", "_law_way_here", "_law_rest", "_law_half", "_law_mark"], t__law_within⟩
def e__law_way_1 (i__law_take : Nat) : T := (.bin false .Mod (.bin false .FloorDiv (.var 3) (.bin false .LShift (.con (.int 1)) (.var 5))) (.con (.int 2)))
def t__law_way (i__law_take : Nat) : T :=
  (.cons (.sset (.tnm 3) (.call i__law_take false (.cons (.var 0) (.cons (.bin false .LShift (.con (.int 1)) (.sub (.var 1) (.con (.int 1)))) .nil)))) (.cons (.sif (.bop .And (.cons (.cmp .NotEq (.var 2) (.lst false .nil)) (.cons (.cmp .Gt (.call i__law_take false (.cons (.var 0) (.cons (.con (.int 4)) .nil))) (.con (.int 0))) .nil))) (.cons (.sset (.tnm 3) (.bin false .Sub (.sub (.var 2) (.call i__law_take false (.cons (.var 0) (.cons (.blt .len false (.cons (.var 2) .nil)) .nil)))) (.sub (.var 1) (.con (.int 0))))) .nil) .nil) (.cons (.sset (.tnm 4) (.blt .tuple false (.cons (.rev false (.comp false (.srng 1 (.cons (.sub (.var 1) (.con (.int 1))) .nil)) (.tnm 5) [("_law_level", 5)] .no (e__law_way_1 i__law_take))) .nil))) (.cons (.sret (.slc false (.var 4) .no (.so (.call i__law_take false (.cons (.var 0) (.cons (.bin false .Add (.sub (.var 1) (.con (.int 1))) (.con (.int 1))) .nil)))))) .nil))))
def f__law_way (i__law_take : Nat) : Fn := ⟨"_law_way", ["_law_pen_here", "_law_bounds_here", "_law_row"], ["_law_pen_here", "_law_bounds_here", "_law_row", "_law_offset", "_law_whole", "_law_level"], t__law_way i__law_take⟩

theorem tkB (A R : Store) (x y : Option Cell) : List.take (A ++ x :: R).length (A ++ y :: R) = A ++ y :: R := List.take_of_length_le (by simp)
theorem tkB2 (A R X : Store) (x y : Option Cell) : List.take (A ++ x :: R).length (A ++ y :: (R ++ X)) = A ++ y :: R := by
  rw [show A ++ y :: (R ++ X) = (A ++ y :: R) ++ X by simp, show (A ++ x :: R).length = (A ++ y :: R).length by simp, List.take_left]
def penB (c q : Int) : Option Cell := some (.lst [.int c, .int q])
theorem cellB_ok {Fs : List Fn} {n i : Nat} (hF : Fs[i]? = some f__law_cell) (ns : List Int) (k : Nat) (hk : k < 10 ^ 30) :
    ∃ v : Int, ∀ st : Store, cf Fs (n + 1) i [.scr ns, .int k] st = .ok (.int v) st := by
  by_cases h1 : (k : Int) < ns.length
  · obtain ⟨v, hv, _⟩ := atI_of (xs := ns) (i := k) (by omega) h1
    rw [atI_ofNat] at hv
    exact ⟨v, fun st => by rw [cf_at hF rfl]; simp only [f__law_cell, t__law_cell]; simp! [h1, hv]⟩
  · by_cases h2 : (0 : Int) < ns.length
    · have hx : 0 ≤ ((k : Int) * 7) % ns.length := Int.emod_nonneg _ (by omega)
      have hy : ((k : Int) * 7) % ns.length < ns.length := Int.emod_lt_of_pos _ h2
      obtain ⟨v, hv, _⟩ := atI_of hx hy
      refine ⟨(v % 2147483647 * 48271 + (k : Int) * 7919) * (v % 2147483647 * 48271 + (k : Int) * 7919) % 2147483629, fun st => ?_⟩
      rw [cf_at hF rfl]; simp only [f__law_cell, t__law_cell]
      ((try simp! [h1, h2, hv]); (repeat (walk_at "zo"; try simp! [h1, h2, hv])))
    · refine ⟨((k : Int) * 7919 + 5) * ((k : Int) * 7919 + 5) % 2147483629, fun st => ?_⟩
      rw [cf_at hF rfl]; simp only [f__law_cell, t__law_cell]
      ((try simp! [h1, h2]); (repeat (walk_at "zo"; try simp! [h1, h2])))
theorem takeB_ok {Fs : List Fn} {n i : Nat} (hF : Fs[i]? = some f__law_take) (A R : Store) (c q : Int) (hq0 : -1 ≤ q) (hq : q < 10 ^ 30) (m : Int) (hm : 0 < m) (hm2 : m < 10 ^ 100) :
    ∃ v c' q' : Int, cf Fs (n + 1) i [.ref A.length, .int m] (A ++ penB c q :: R) = .ok (.int v) (A ++ penB c' q' :: R) ∧ 0 ≤ v ∧ v < m ∧ -1 ≤ q' ∧ q' ≤ q + 1 := by
  rw [cf_at hF rfl]
  simp only [f__law_take, t__law_take, penB]
  have hv : ∀ x : Int, 0 ≤ x % m ∧ x % m < m := fun x => ⟨Int.emod_nonneg _ (by omega), Int.emod_lt_of_pos _ hm⟩
  by_cases h1 : q < 0
  · ((try simp! [mid_get, mid_set, h1]); (repeat (walk_at "zo"; try simp! [mid_get, mid_set, h1])))
    exact ⟨_, _, -1, rfl, (hv c).1, (hv c).2, by omega, by omega⟩
  · by_cases h2 : q = 0 ∧ (1000000000000000000 : Int) ≤ c
    · ((try simp! [mid_get, mid_set, h1, eqD_int, h2.1, h2.2, eq_self, show decide ((0 : Int) < 0) = false from rfl]); (repeat (walk_at "zo"; try simp! [mid_get, mid_set, h1, eqD_int, h2.1, h2.2, eq_self, show decide ((0 : Int) < 0) = false from rfl])))
      exact ⟨_, _, -1, rfl, (hv c).1, (hv c).2, by omega, by omega⟩
    · have h3 : decide (q = 0) = true → decide ((1000000000000000000 : Int) ≤ c) = false := fun a => decide_eq_false fun b => h2 ⟨of_decide_eq_true a, b⟩
      by_cases h4 : q = 0
      · have h5 := h3 (decide_eq_true h4)
        subst h4
        ((try simp! [mid_get, mid_set, eqD_int, eq_self, show decide ((0 : Int) < 0) = false from rfl, h5]); (repeat (walk_at "zo"; try simp! [mid_get, mid_set, eqD_int, eq_self, show decide ((0 : Int) < 0) = false from rfl, h5])))
        exact ⟨_, c, 1, rfl, (hv _).1, (hv _).2, by omega, by omega⟩
      · ((try simp! [mid_get, mid_set, h1, eqD_int, h4]); (repeat (walk_at "zo"; try simp! [mid_get, mid_set, h1, eqD_int, h4])))
        exact ⟨_, c, q + 1, rfl, (hv _).1, (hv _).2, by omega, by omega⟩
theorem boundsB_ok {Fs : List Fn} {n i it : Nat} (hF : Fs[i]? = some (f__law_bounds it)) (ht : Fs[it]? = some f__law_take) (A R : Store) (c q : Int) (hq0 : -1 ≤ q) (hq : q < 10 ^ 29) :
    ∃ (low : Int) (L : Nat) (c' q' : Int), cf Fs (n + 2) i [.ref A.length] (A ++ penB c q :: R) = .ok (Bd low L) (A ++ penB c' q' :: R) ∧ L ≤ 40 ∧ -10 ^ 40 < low ∧ low < 10 ^ 40 ∧ -1 ≤ q' ∧ q' ≤ q + 5 := by
  have take := fun (c q : Int) (h0 : -1 ≤ q) (h : q < 10 ^ 30) (m : Int) (hm : 0 < m) (hm2 : m < 10 ^ 100) => takeB_ok (n := n) ht A R c q h0 h m hm hm2
  obtain ⟨v, c1, q1, e1, hv0, hv1, ha1, hb1⟩ := take c q hq0 (by omega) 5 (by omega) (by omega)
  obtain ⟨w, c2, q2, e2, hw0, hw1, ha2, hb2⟩ := take c1 q1 ha1 (by omega) 41 (by omega) (by omega)
  obtain ⟨t, c3, q3, e3, ht0, ht1, ha3, hb3⟩ := take c2 q2 ha2 (by omega) 4 (by omega) (by omega)
  obtain ⟨u, c4, q4, e4, hu0, hu1, ha4, hb4⟩ := take c3 q3 ha3 (by omega) 1000000000000000000000000000000000000000 (by omega) (by omega)
  obtain ⟨s, c5, q5, e5, hs0, hs1, ha5, hb5⟩ := take c4 q4 ha4 (by omega) 4 (by omega) (by omega)
  obtain ⟨x, hx, hxm⟩ := PA.atI_mem (xs := [D.int v, .int 3, .int w, .int 2]) ht0 ht1
  obtain ⟨y, hy, hym⟩ := PA.atI_mem (xs := [D.int 0, .int (-7), .int (u - 100000000000000000000000000000000000000), .int 1]) hs0 hs1
  obtain ⟨L, rfl, hL⟩ : ∃ L : Nat, x = .int L ∧ L ≤ 40 := by
    simp only [List.mem_cons, List.not_mem_nil, or_false] at hxm
    rcases hxm with rfl | rfl | rfl | rfl
    · exact ⟨v.toNat, by rw [Int.toNat_of_nonneg hv0], by omega⟩
    · exact ⟨3, rfl, by omega⟩
    · exact ⟨w.toNat, by rw [Int.toNat_of_nonneg hw0], by omega⟩
    · exact ⟨2, rfl, by omega⟩
  obtain ⟨low, rfl, hl1, hl2⟩ : ∃ low : Int, y = .int low ∧ -10 ^ 40 < low ∧ low < 10 ^ 40 := by
    simp only [List.mem_cons, List.not_mem_nil, or_false] at hym
    rcases hym with rfl | rfl | rfl | rfl
    · exact ⟨0, rfl, by omega, by omega⟩
    · exact ⟨-7, rfl, by omega, by omega⟩
    · exact ⟨_, rfl, by omega, by omega⟩
    · exact ⟨1, rfl, by omega, by omega⟩
  rw [cf_at hF rfl]; simp only [f__law_bounds, t__law_bounds]
  refine ⟨low, L, c5, q5, ?_, hL, hl1, hl2, ha5, by omega⟩
  simp! [e1, e2, e3, hx, tkB]
  ((try simp! [e4, e5, hy, tkB]); (repeat (walk_at "zo"; try simp! [e4, e5, hy, tkB])))
  rfl
/-! ### a row is drawn -/
theorem num_turn {Fs : List Fn} {n it : Nat} (ht : Fs[it]? = some f__law_take) (A R : Store) (c q : Int) (hq0 : -1 ≤ q) (hq : q < 10 ^ 29) (low : Int) (L : Nat) (hL : L ≤ 60) (acc : List Int) (hb : InB low L acc) (hacc : acc.length < 1000) (j : Int) (g b : Option D) :
    ∃ v c' q' : Int, turn (cf Fs (n + 1)) (.tnm 4) (b__law_numbers_1 it) (.int j) [some (.ref A.length), some (Bd low L), g, some (.ref (A ++ penB c q :: R).length), b] (A ++ penB c q :: (R ++ [some (.lst (acc.map .int))])) =
      .nx [some (.ref A.length), some (Bd low L), g, some (.ref (A ++ penB c q :: R).length), some (.int j)] (A ++ penB c' q' :: (R ++ [some (.lst ((acc ++ [v]).map .int))])) ∧ low ≤ v ∧ v < low + 2 ^ L ∧ -1 ≤ q' ∧ q' ≤ q + 2 := by
  have take := fun (c q : Int) (h0 : -1 ≤ q) (h : q < 10 ^ 30) (m : Int) (hm : 0 < m) (hm2 : m < 10 ^ 100) => takeB_ok (n := n) ht A (R ++ [some (.lst (acc.map .int))]) c q h0 h m hm hm2
  have hp := pow2 hL
  obtain ⟨w, c1, q1, e1, hw0, hw1, ha1, hb1⟩ := take c q hq0 (by omega) 4 (by omega) (by omega)
  have hl : (acc.map D.int).length < 16777216 := by rw [List.length_map]; omega
  have gt : ∀ (x : Option Cell) (X : List D), (A ++ x :: (R ++ [some (.lst X)]))[(A ++ penB c q :: R).length]? = some (some (.lst X)) := by
    intro x X
    rw [List.getElem?_append_right (by simp)]
    simp
  have st' : ∀ (x : Option Cell) (X Y : List D), (A ++ x :: (R ++ [some (.lst X)])).set (A ++ penB c q :: R).length (some (.lst Y)) = A ++ x :: (R ++ [some (.lst Y)]) := by
    intro x X Y
    rw [List.set_append, if_neg (by simp)]
    simp
  have e0 := eqD_nil (Pl.ints (k := 63) acc)
  simp only [turn, b__law_numbers_1, Bd]
  obtain ⟨v, c2, q2, e2, h0, h1, ha2, hb2⟩ := take c1 q1 ha1 (by omega) (2 ^ L) hp.1 (by omega)
  have h1L : (1 : Int) * 2 ^ ((L : Int)).toNat = 2 ^ L := by simp
  by_cases hw : w = 3
  · by_cases hn : acc = []
    · have e1' : (acc.map D.int).isEmpty = true := by rw [hn]; rfl
      refine ⟨low + v, c2, q2, ?_, by omega, by omega, ha2, by omega⟩
      simp! [e1, hw, tkB, eqD_int, eq_self, gt, e0, e1']
      ((try simp! [h1L, e2, tkB, gt, st', hl, List.map_append]); (repeat (walk_at "zo"; try simp! [h1L, e2, tkB, gt, st', hl, List.map_append])))
    · have e1' : (acc.map D.int).isEmpty = false := by cases acc with
        | nil => exact absurd rfl hn
        | cons _ _ => rfl
      have hpos : 0 < acc.length := List.length_pos_iff.mpr hn
      obtain ⟨v, c2, q2, e2, h0, h1, ha2, hb2⟩ := take c1 q1 ha1 (by omega) (acc.length : Int) (by omega) (by omega)
      obtain ⟨y, hy, hym⟩ := PA.atI_mem (xs := acc.map D.int) h0 (by simpa using h1)
      obtain ⟨z, hz, rfl⟩ := List.mem_map.mp hym
      have := hb z hz
      refine ⟨z, c2, q2, ?_, this.1, this.2, ha2, by omega⟩
      simp! [e1, hw, tkB, eqD_int, eq_self, gt, e0, e1', List.length_map, e2, hy, st', List.map_append]
      rw [if_pos (by simp at hl; omega)]
      simp! []
  · refine ⟨low + v, c2, q2, ?_, by omega, by omega, ha2, by omega⟩
    simp! [e1, hw, tkB, eqD_int]
    ((try simp! [h1L, e2, tkB, gt, st', hl, List.map_append]); (repeat (walk_at "zo"; try simp! [h1L, e2, tkB, gt, st', hl, List.map_append])))
theorem numbers_ok {Fs : List Fn} {n i it : Nat} (hF : Fs[i]? = some (f__law_numbers it)) (ht : Fs[it]? = some f__law_take) (A R : Store) (c q : Int) (hq0 : -1 ≤ q) (hq : q < 10 ^ 28) (low : Int) (L : Nat) (hL : L ≤ 60) (G : Nat) (hG : G ≤ 500) (m : Bool) :
    ∃ (ms : List Int) (c' q' : Int), (cf Fs (n + 2) i [.ref A.length, Bd low L, .int G] (A ++ penB c q :: R)).bind (callEnd m (A ++ penB c q :: R).length) = mk m (ms.map .int) (A ++ penB c' q' :: R) ∧ InB low L ms ∧ ms.length ≤ G ∧ -1 ≤ q' ∧ q' ≤ q + 2000 := by
  rw [cf_at hF rfl]; simp only [f__law_numbers, t__law_numbers]
  obtain ⟨w, c1, q1, e1, hw0, hw1, ha1, hb1⟩ := takeB_ok (n := n) ht A (R ++ [some (.lst [])]) c q hq0 (by omega) ((G : Int) + 1) (by omega) (by omega)
  obtain ⟨N, rfl⟩ : ∃ N : Nat, w = N := ⟨w.toNat, by omega⟩
  have hr : rngOk (N : Int) = true := by simp only [rngOk, Bool.and_eq_true, decide_eq_true_eq]; omega
  obtain ⟨env, st, e7, acc, c7, q7, b, rfl, rfl, hac, hal, hq7, hq7'⟩ := forL_all (body := turn (cf Fs (n + 1)) (T.tnm 4) (b__law_numbers_1 it)) (xs := rngD 0 N) (env := [some (.ref A.length), some (Bd low L), some (.int G), some (.ref (A ++ penB c q :: R).length), none]) (st := A ++ penB c1 q1 :: (R ++ [some (.lst [])]))
    (fun i env st => ∃ (acc : List Int) (c' q' : Int) (b : Option D), env = [some (.ref A.length), some (Bd low L), some (.int G), some (.ref (A ++ penB c q :: R).length), b] ∧ st = A ++ penB c' q' :: (R ++ [some (.lst (acc.map .int))]) ∧ InB low L acc ∧ acc.length = i ∧ -1 ≤ q' ∧ q' ≤ q + 1 + 2 * i) (by
      rintro y i env st hy ⟨acc, c7, q7, b, rfl, rfl, hac, hal, h1, h2⟩
      have hi : i < N := by simpa [rngD] using (List.getElem?_eq_some_iff.mp hy).1
      obtain ⟨j, rfl⟩ : ∃ j : Int, y = .int j := by
        simp only [rngD] at hy
        obtain ⟨q, _, rfl⟩ := List.mem_map.mp (List.mem_of_getElem? hy)
        exact ⟨_, rfl⟩
      obtain ⟨v, c8, q8, h, h3, h4, h5, h6⟩ := num_turn (n := n) ht A R c7 q7 h1 (by omega) low L hL acc hac (by omega) j (some (.int G)) b
      have e : ∀ x y : Option Cell, (A ++ x :: R).length = (A ++ y :: R).length := fun x y => by simp
      rw [e (penB c7 q7) (penB c q)] at h
      exact ⟨_, _, .inl h, acc ++ [v], c8, q8, _, rfl, rfl, hac.snoc h3 h4, by simp [hal], h5, by omega⟩) ⟨[], c1, q1, none, rfl, rfl, by simp [InB], rfl, ha1, by omega⟩
  rw [PA.rngD_len] at hal hq7'
  refine ⟨acc, c7, q7, ?_, hac, by omega, hq7, by omega⟩
  have la : (A ++ penB c q :: R) ++ [some (Cell.lst [])] = A ++ penB c q :: (R ++ [some (.lst [])]) := by simp
  rw [bd_eq] at e7 ⊢
  simp! [la]
  simp! [e1, tkB, rngF, rng1F, hr, Int.toNat_natCast, e7]
  rw [ce_at _ _ _ _ (acc.map .int) (Nat.le_refl _) (by rw [List.getElem?_append_right (by simp)]; simp)]
  rw [show List.take (A ++ penB c q :: R).length (A ++ penB c7 q7 :: (R ++ [some (Cell.lst (acc.map .int))])) = A ++ penB c7 q7 :: R from tkB2 A R _ _ _]
end Zn.PG

/-! PH: the laws' own trees, ways and spans by the pen of one cell; places lifted. -/
namespace Zn.PG
open PySem PySem.Spec PyProof.Rows L2 Zn Zn.PB Zn.PT
/-- the things with their numbers, from i on -/
def eD (i : Nat) : List D → List D
  | [] => []
  | x :: xs => .tup [.int i, x] :: eD (i + 1) xs
theorem eD_get : ∀ (xs : List D) (i j : Nat), (eD i xs)[j]? = xs[j]?.map fun d => D.tup [.int ((i + j : Nat) : Int), d]
  | [], _, _ => rfl
  | x :: xs, i, 0 => rfl
  | x :: xs, i, j + 1 => by
    have := eD_get xs (i + 1) j
    simp only [eD, List.getElem?_cons_succ, this]
    rw [show i + 1 + j = i + (j + 1) by omega]
theorem enum_eD (xs : List D) : enumD xs = eD 0 xs := by
  apply List.ext_getElem?
  intro j
  rw [eD_get, enumD, List.getElem?_zipWith]
  by_cases h : j < xs.length
  · rw [List.getElem?_range h, List.getElem?_eq_getElem h]
    simp
  · rw [List.getElem?_eq_none (l := xs) (by omega)]
    simp
def fnd (mark : Int) : Nat → Int → List Int → Option Nat
  | _, _, [] => none
  | i, left, x :: xs => if x = mark then (if left = 0 then some i else fnd mark (i + 1) (left - 1) xs) else fnd mark (i + 1) left xs
def resF (o : Option Nat) (env : Zn.Env) (st : Store) : SRes := match o with
  | some q => .rt (.int q) st
  | none => .nx env st
theorem place_loop (F : CallF) (st : Store) (A C : Option D) (mark : Int) : ∀ (xs : List Int) (i : Nat) (left : Int) (p o : Option D),
    ∃ env', forL (turn F (.ttp (.cons (.tnm 4) (.cons (.tnm 5) .nil))) b_place_of_1) (eD i (xs.map .int)) [A, some (.int mark), C, some (.int left), p, o] st = resF (fnd mark i left xs) env' st
  | [], i, left, p, o => ⟨_, by simp only [List.map_nil, eD, forL_nil, fnd, resF]; rfl⟩
  | x :: xs, i, left, p, o => by
    simp only [List.map_cons, eD, fnd]
    by_cases c : x = mark
    · by_cases c2 : left = 0
      · refine ⟨[], ?_⟩
        have : turn F (.ttp (.cons (.tnm 4) (.cons (.tnm 5) .nil))) b_place_of_1 (.tup [.int i, .int x]) [A, some (.int mark), C, some (.int left), p, o] st = .rt (.int i) st := by
          simp only [turn, b_place_of_1]
          simp! [c, c2, eq_self]
        rw [forL_rt this, if_pos c, if_pos c2]
        rfl
      · obtain ⟨env', ih⟩ := place_loop F st A C mark xs (i + 1) (left - 1) (some (.int i)) (some (.int x))
        refine ⟨env', ?_⟩
        have : turn F (.ttp (.cons (.tnm 4) (.cons (.tnm 5) .nil))) b_place_of_1 (.tup [.int i, .int x]) [A, some (.int mark), C, some (.int left), p, o] st = .nx [A, some (.int mark), C, some (.int (left - 1)), some (.int i), some (.int x)] st := by
          simp only [turn, b_place_of_1]
          simp! [c, c2, eq_self]
        rw [forL_nx this, if_pos c, if_neg c2, ih]
    · obtain ⟨env', ih⟩ := place_loop F st A C mark xs (i + 1) left (some (.int i)) (some (.int x))
      refine ⟨env', ?_⟩
      have : turn F (.ttp (.cons (.tnm 4) (.cons (.tnm 5) .nil))) b_place_of_1 (.tup [.int i, .int x]) [A, some (.int mark), C, some (.int left), p, o] st = .nx [A, some (.int mark), C, some (.int left), some (.int i), some (.int x)] st := by
        simp only [turn, b_place_of_1]
        simp! [c]
      rw [forL_nx this, if_neg c, ih]
theorem place_gen {Fs : List Fn} {n i : Nat} {rs : T} (hF : Fs[i]? = some (f_place_of rs)) (ms : List Int) (mark number : Int) (hrs : rs = .sraise 2 ∨ fnd mark 0 number ms ≠ none) (st : Store) : cf Fs (n + 1) i [.tup (ms.map .int), .int mark, .int number] st = match fnd mark 0 number ms with
    | some q => .ok (.int q) st
    | none => .exc ⟨2, none⟩ st := by
  rw [cf_at hF rfl]; simp only [f_place_of, t_place_of]
  obtain ⟨env', h⟩ := place_loop (cf Fs n) st (some (.tup (ms.map .int))) (some (.int number)) mark ms 0 number none none
  simp! [enum_eD, h]
  cases hf : fnd mark 0 number ms with
  | none =>
    rcases hrs with rfl | hrs
    · simp only [resF]; simp! []
    · exact absurd hf hrs
  | some q => simp only [resF]; simp! []

theorem tree_shift (d : Int) : ∀ (L : Nat) (low : Int) (row : List Int), treeD L (low + d) (row.map fun x => x + d) = treeD L low row
  | L, low, row => by
    by_cases h : row = []
    · subst h
      rw [List.map_nil, tree_nil, tree_nil]
    · have h' : (row.map fun x => x + d) ≠ [] := by simpa using h
      match L with
      | 0 => rw [tree_zero _ h, tree_zero _ h', List.length_map]
      | L + 1 =>
        have f1 : (row.map fun x => x + d).filter (fun x => decide (x < low + d + 2 ^ L)) = (row.filter fun x => decide (x < low + 2 ^ L)).map fun x => x + d := by
          rw [List.filter_map]
          congr 2
          funext x
          simp only [Function.comp]
          by_cases q : x < low + 2 ^ L
          · rw [decide_eq_true q, decide_eq_true (by omega)]
          · rw [decide_eq_false q, decide_eq_false (by omega)]
        have f2 : (row.map fun x => x + d).filter (fun x => decide (low + d + 2 ^ L ≤ x)) = (row.filter fun x => decide (low + 2 ^ L ≤ x)).map fun x => x + d := by
          rw [List.filter_map]
          congr 2
          funext x
          simp only [Function.comp]
          by_cases q : low + 2 ^ L ≤ x
          · rw [decide_eq_true q, decide_eq_true (by omega)]
          · rw [decide_eq_false q, decide_eq_false (by omega)]
        have f3 : (row.map fun x => x + d).map (bit (low + d + 2 ^ L)) = row.map (bit (low + 2 ^ L)) := by
          rw [List.map_map]
          apply List.map_congr_left
          intro x _
          simp only [Function.comp, bit]
          by_cases q : low + 2 ^ L ≤ x
          · rw [if_pos q, if_pos (by omega)]
          · rw [if_neg q, if_neg (by omega)]
        rw [tree_succ _ _ h, tree_succ _ _ h', f1, f2, f3, tree_shift d L low, show low + d + 2 ^ L = low + 2 ^ L + d by omega, tree_shift d L (low + 2 ^ L)]
theorem tree_off (L : Nat) (low : Int) (row : List Int) : treeD L 0 (row.map fun x => x - low) = treeD L low row := by
  rw [← tree_shift low L 0, List.map_map, Int.zero_add]
  congr 1
  rw [show ((fun x => x + low) ∘ fun x => x - low) = (id : Int → Int) by funext x; simp, List.map_id]
section
variable (F : CallF) (st : Store) (i : Nat) (h : Int) (row : List Int) (hr : row.length ≤ 100000) (a b c d : Option D)
include hr
theorem gr_c1 : compS F false (.tnm 5) .no (e__law_grown_1 i) [a, b, some (.int h), c, d, none] (.fix (row.map .int)) st = .ok (.lst ((row.map (bit h)).map .int)) st := by
  rw [comp_ints (fun _ => true) (fun x => .int (bit h x)) (fun _ => rfl) (fun x _ acc => ?_) (by simp only [sizeLine]; omega)]
  · rw [List.filter_eq_self.mpr (fun _ _ => rfl), List.map_map]; rfl
  · simp! [e__law_grown_1, bit]
    by_cases q : h ≤ x <;> simp [q]
theorem gr_c2 : compS F false (.tnm 5) (.so (q__law_grown_2 i)) (.var 5) [a, b, some (.int h), c, d, none] (.fix (row.map .int)) st = .ok (.lst ((row.filter fun x => decide (x < h)).map .int)) st := by
  rw [comp_ints (fun x => decide (x < h)) (fun x => .int x) (fun _ => rfl) (fun x _ acc => ?_) (by simp only [sizeLine]; omega)]
  · rfl
  · by_cases q : x < h
    · simp! [q__law_grown_2, q]
    · simp! [q__law_grown_2, q]
      simp
theorem gr_c3 : compS F false (.tnm 5) (.so (q__law_grown_3 i)) (e__law_grown_4 i) [a, b, some (.int h), c, d, none] (.fix (row.map .int)) st = .ok (.lst (((row.filter fun x => decide (h ≤ x)).map fun x => x - h).map .int)) st := by
  rw [comp_ints (fun x => decide (h ≤ x)) (fun x => .int (x - h)) (fun _ => rfl) (fun x _ acc => ?_) (by simp only [sizeLine]; omega)]
  · rw [List.map_map]; rfl
  · by_cases q : h ≤ x
    · simp! [q__law_grown_3, e__law_grown_4, q]
    · simp! [q__law_grown_3, e__law_grown_4, q]
      simp
end
theorem grownB_ok {Fs : List Fn} {n i : Nat} (hF : Fs[i]? = some (f__law_grown i)) : ∀ (L : Nat) (row : List Int) (st : Store), L ≤ 60 → row.length ≤ 100000 →
    cf Fs (n + L + 1) i [.int L, .lst (row.map .int)] st = .ok (treeD L 0 row) st
  | L, row, st, hL, hr => by
    rw [cf_at hF rfl]; simp only [f__law_grown, t__law_grown]
    have e0 := eqD_nil (Pl.ints (k := 63) row)
    by_cases h : row = []
    · subst h
      rw [tree_nil]
      simp! [eqD_ee]
    · have e1 : (row.map D.int).isEmpty = false := by cases row with
        | nil => exact absurd rfl h
        | cons _ _ => rfl
      match L, hL with
      | 0, _ =>
        rw [tree_zero _ h]
        simp! [e0, e1, eqD_int, List.length_map, show decide (((0 : Nat) : Int) = 0) = true from rfl]
      | L + 1, hL =>
        have e2 := tree_off L (2 ^ L) (row.filter fun x => decide (2 ^ L ≤ x))
        rw [tree_succ _ _ h, Int.zero_add, ← e2]
        have ih1 := grownB_ok hF (n := n) L (row.filter fun x => decide (x < 2 ^ L)) st (by omega) (Nat.le_trans (List.length_filter_le _ _) hr)
        have ih2 := grownB_ok hF (n := n) L ((row.filter fun x => decide (2 ^ L ≤ x)).map fun x => x - 2 ^ L) st (by omega) (by rw [List.length_map]; exact Nat.le_trans (List.length_filter_le _ _) hr)
        have hc : decide (((L + 1 : Nat) : Int) = 0) = false := decide_eq_false (by omega)
        have hm : ((L + 1 : Nat) : Int) - 1 = (L : Int) := by omega
        have hd : n + (L + 1) = n + L + 1 := rfl
        simp! [e0, e1, eqD_int, hc, hm, hd]
        ((try simp! [hm, wk_lst', gr_c1 _ _ _ _ _ hr, gr_c2 _ _ _ _ _ hr, gr_c3 _ _ _ _ _ hr, Int.toNat_natCast, Int.one_mul, ih1, ih2, ce_dat _ _ _ (tree_noref _ _ _), tk_len, tree_noref]); (repeat (walk_at "zo"; try simp! [hm, wk_lst', gr_c1 _ _ _ _ _ hr, gr_c2 _ _ _ _ _ hr, gr_c3 _ _ _ _ _ hr, Int.toNat_natCast, Int.one_mul, ih1, ih2, ce_dat _ _ _ (tree_noref _ _ _), tk_len, tree_noref])))
theorem treeB_ok {Fs : List Fn} {n i ig : Nat} (hF : Fs[i]? = some (f__law_tree ig)) (hg : Fs[ig]? = some (f__law_grown ig)) (L : Nat) (low : Int) (row : List Int) (st : Store) (hL : L ≤ 60) (hr : row.length ≤ 100000) :
    cf Fs (n + L + 2) i [Bd low L, .lst (row.map .int)] st = .ok (treeD L low row) st := by
  rw [cf_at hF rfl]; simp only [f__law_tree, t__law_tree]
  have g := grownB_ok (n := n) hg L (row.map fun x => x - low) st hL (by rw [List.length_map]; exact hr)
  rw [tree_off] at g
  have c : ∀ a, compS (cf Fs (n + L + 1)) false (.tnm 2) .no (e__law_tree_1 ig) [some (.tup [.int low, .int L]), a, none] (.fix (row.map .int)) st = .ok (.lst ((row.map fun x => x - low).map .int)) st := by
    intro a
    rw [comp_ints (fun _ => true) (fun x => .int (x - low)) (fun _ => rfl) (fun x _ acc => ?_) (by simp only [sizeLine]; omega)]
    · rw [List.filter_eq_self.mpr (fun _ _ => rfl), List.map_map]; rfl
    · simp! [e__law_tree_1]
  simp! [bd_eq, wk_lst', c, g, ce_dat _ _ _ (tree_noref _ _ _), tk_len]
/-! ### which numbers lie at a way -/
def inO : Nat → Int → List Int → Bool
  | _, _, [] => true
  | 0, _, _ :: _ => false
  | e + 1, r, m :: ms => decide (r / 2 ^ e = m) && inO e (r % 2 ^ e) ms
theorem withinB_loop (F : CallF) (st : Store) (A B C : Option D) : ∀ (ms : List Int) (e : Nat) (r : Int) (mk : Option D), ms.length ≤ e → e ≤ 60 →
    ∃ r' h' mk', forL (turn F (.tnm 5) b__law_within_1) (ms.map D.int) [A, B, C, some (.int r), some (.int (2 ^ e)), mk] st = if inO e r ms = true then .nx [A, B, C, some (.int r'), some (.int h'), mk'] st else .rt (.bl false) st
  | [], e, r, mk, _, _ => ⟨r, 2 ^ e, mk, by cases e <;> (simp only [inO, if_true]; exact forL_nil _ _ _)⟩
  | m :: ms, e, r, mk, hl, he => by
    obtain ⟨e, rfl⟩ : ∃ e', e = e' + 1 := ⟨e - 1, by simp at hl; omega⟩
    have hp := pow2 (e := e) (by omega)
    have hdiv := fun st => div_o st r (2 ^ e) false hp.1 (by omega)
    have hmod := fun st => mod_o st r (2 ^ e) false hp.1
    have hh := fun st => div_o st (2 ^ (e + 1)) 2 false (by omega) (by omega)
    obtain ⟨r', h', mk', ih⟩ := withinB_loop F st A B C ms e (r % 2 ^ e) (some (.int m)) (by simp at hl; omega) (by omega)
    refine ⟨r', h', mk', ?_⟩
    rw [List.map_cons, show inO (e + 1) r (m :: ms) = (decide (r / 2 ^ e = m) && inO e (r % 2 ^ e) ms) from rfl]
    by_cases c : r / 2 ^ e = m
    · have : turn F (.tnm 5) b__law_within_1 (.int m) [A, B, C, some (.int r), some (.int (2 ^ (e + 1))), mk] st = .nx [A, B, C, some (.int (r % 2 ^ e)), some (.int (2 ^ e)), some (.int m)] st := by
        simp only [turn, b__law_within_1]
        simp! [hh, pow2_half, hdiv, hmod, eqD_int, c, eq_self]
      rw [forL_nx this, ih, decide_eq_true c, Bool.true_and]
    · have : turn F (.tnm 5) b__law_within_1 (.int m) [A, B, C, some (.int r), some (.int (2 ^ (e + 1))), mk] st = .rt (.bl false) st := by
        simp only [turn, b__law_within_1]
        simp! [hh, pow2_half, hdiv, hmod, eqD_int, c]
      rw [forL_rt this, decide_eq_false c, Bool.false_and, if_neg Bool.false_ne_true]
theorem withinB_ok {Fs : List Fn} {n i : Nat} (hF : Fs[i]? = some f__law_within) (low : Int) (L : Nat) (hL : L ≤ 60) (r : Int) (ms : List Int) (hl : ms.length ≤ L) (st : Store) :
    cf Fs (n + 1) i [.int r, Bd low L, .tup (ms.map .int)] st = .ok (.bl (inO L r ms)) st := by
  rw [cf_at hF rfl]; simp only [f__law_within, t__law_within]
  obtain ⟨r', h', mk', h⟩ := withinB_loop (cf Fs n) st (some (.int r)) (some (Bd low L)) (some (.tup (ms.map .int))) ms L r none hl hL
  have h1L : (1 : Int) * 2 ^ ((L : Int)).toNat = 2 ^ L := by simp
  rw [bd_eq] at h ⊢
  simp! [show wkOf (.tup (ms.map .int)) st = .ok (.fix (ms.map .int)) st from rfl]
  ((try simp! [h1L, show wkOf (.tup (ms.map .int)) st = .ok (.fix (ms.map .int)) st from rfl, h]); (repeat (walk_at "zo"; try simp! [h1L, show wkOf (.tup (ms.map .int)) st = .ok (.fix (ms.map .int)) st from rfl, h])))
  by_cases c : inO L r ms = true
  · rw [if_pos c, c]; simp! []
  · have c' : inO L r ms = false := by simpa using c
    rw [if_neg c, c']; simp! []
theorem wayB_ok {Fs : List Fn} {n i it : Nat} (hF : Fs[i]? = some (f__law_way it)) (ht : Fs[it]? = some f__law_take) (A R : Store) (c q : Int) (hq0 : -1 ≤ q) (hq : q < 10 ^ 28) (low : Int) (L : Nat) (hL : L ≤ 60) (row : List Int) (hr : row.length ≤ 1000) :
    ∃ (ms : List Int) (c' q' : Int), cf Fs (n + 2) i [.ref A.length, Bd low L, .lst (row.map .int)] (A ++ penB c q :: R) = .ok (.tup (ms.map .int)) (A ++ penB c' q' :: R) ∧ Marks ms ∧ ms.length ≤ L ∧ -1 ≤ q' ∧ q' ≤ q + 4 := by
  have take := fun (c q : Int) (h0 : -1 ≤ q) (h : q < 10 ^ 30) (m : Int) (hm : 0 < m) (hm2 : m < 10 ^ 100) => takeB_ok (n := n) ht A R c q h0 h m hm hm2
  have hp := pow2 hL
  obtain ⟨u, c1, q1, e1, hu0, hu1, ha1, hb1⟩ := take c q hq0 (by omega) (2 ^ L) hp.1 (by omega)
  have h1L : (1 : Int) * 2 ^ ((L : Int)).toNat = 2 ^ L := by simp
  have hrL : rngOk (L : Int) = true := by simp only [rngOk, Bool.and_eq_true, decide_eq_true_eq]; omega
  have e0 := eqD_nil (Pl.ints (k := 63) row)
  -- behind the number
  have fin : ∀ (o c2 q2 : Int), -1 ≤ q2 → q2 ≤ q + 3 → ∃ (ms : List Int) (c' q' : Int), (∀ a b, compS (cf Fs (n + 1)) false (.tnm 5) .no (e__law_way_1 it) [a, some (.tup [.int low, .int L]), b, some (.int o), none, none] (.fix (rngD 0 L)) (A ++ penB c2 q2 :: R) = .ok (.lst ((ms.reverse).map .int)) (A ++ penB c2 q2 :: R)) ∧
      ∃ t, cf Fs (n + 1) it [.ref A.length, .int ((L : Int) + 1)] (A ++ penB c2 q2 :: R) = .ok (.int t) (A ++ penB c' q' :: R) ∧ Marks ((ms).take t.toNat) ∧ (ms.take t.toNat).length ≤ L ∧ Zn.cutD (ms.map D.int) none (some t) = (ms.take t.toNat).map .int ∧ -1 ≤ q' ∧ q' ≤ q + 4 := by
    intro o c2 q2 h1 h2
    obtain ⟨t, c3, q3, e3, ht0, ht1, ha3, hb3⟩ := take c2 q2 h1 (by omega) ((L : Int) + 1) (by omega) (by omega)
    obtain ⟨T', rfl⟩ : ∃ T' : Nat, t = T' := ⟨t.toNat, by omega⟩
    refine ⟨((List.range L).map fun k => o / 2 ^ k % 2).reverse, c3, q3, fun a b => ?_, T', e3, ?_, ?_, ?_, ha3, by omega⟩
    · rw [List.reverse_reverse]
      have er : rngD 0 L = ((List.range L).map fun (k : Nat) => (k : Int)).map D.int := by
        rw [rngD, List.map_map]
        apply List.map_congr_left
        intro k _
        simp
      rw [er, comp_ints (fun _ => true) (fun x => .int (o / 2 ^ x.toNat % 2)) (fun _ => rfl) (fun x hx acc => ?_) (by simp only [sizeLine, List.length_map, List.length_range]; omega)]
      · rw [List.filter_eq_self.mpr (fun _ _ => rfl), List.map_map, List.map_map, mk_false]
        rfl
      · obtain ⟨k, hk, rfl⟩ := List.mem_map.mp hx
        have hk' := List.mem_range.mp hk
        have hpk := pow2 (e := k) (by omega)
        have hdv := fun st => div_o st o (2 ^ k) false hpk.1 (by omega)
        have hmd := fun st x => mod_o st x 2 false (by omega)
        simp! [e__law_way_1]
        ((try simp! [Int.one_mul, Int.toNat_natCast, hdv, hmd]); (repeat (walk_at "zo"; try simp! [Int.one_mul, Int.toNat_natCast, hdv, hmd])))
    · intro m hm
      have := List.mem_of_mem_take hm
      rw [List.mem_reverse] at this
      obtain ⟨k, _, rfl⟩ := List.mem_map.mp this
      omega
    · rw [List.length_take]
      simp
      omega
    · rw [cut_to, Int.toNat_natCast, List.map_take]
  rw [cf_at hF rfl]; simp only [f__law_way, t__law_way]
  by_cases hn : row = []
  · have e1' : (row.map D.int).isEmpty = true := by rw [hn]; rfl
    obtain ⟨ms, c', q', k1, t, k2, k3, k4, k5, k6, k7⟩ := fin u c1 q1 ha1 (by omega)
    refine ⟨ms.take t.toNat, c', q', ?_, k3, k4, k6, k7⟩
    simp! [bd_eq]
    ((try simp! [Int.one_mul, Int.toNat_natCast, e1, tkB, e0, e1', rngF, rng1F, hrL, k1, ← List.map_reverse, List.reverse_reverse, k2, k5]); (repeat (walk_at "zo"; try simp! [Int.one_mul, Int.toNat_natCast, e1, tkB, e0, e1', rngF, rng1F, hrL, k1, ← List.map_reverse, List.reverse_reverse, k2, k5])))
  · have e1' : (row.map D.int).isEmpty = false := by cases row with
      | nil => exact absurd rfl hn
      | cons _ _ => rfl
    obtain ⟨w, c2, q2, e2, hw0, hw1, ha2, hb2⟩ := take c1 q1 ha1 (by omega) 4 (by omega) (by omega)
    by_cases hw : 0 < w
    · have hpos : 0 < row.length := List.length_pos_iff.mpr hn
      obtain ⟨v, c3, q3, e3, hv0, hv1, ha3, hb3⟩ := take c2 q2 ha2 (by omega) (row.length : Int) (by omega) (by omega)
      obtain ⟨y, hy, hym⟩ := PA.atI_mem (xs := row.map D.int) hv0 (by simpa using hv1)
      obtain ⟨z, hz, rfl⟩ := List.mem_map.mp hym
      obtain ⟨ms, c', q', k1, t, k2, k3, k4, k5, k6, k7⟩ := fin (z - low) c3 q3 ha3 (by omega)
      refine ⟨ms.take t.toNat, c', q', ?_, k3, k4, k6, k7⟩
      simp! [bd_eq]
      ((try simp! [Int.one_mul, Int.toNat_natCast, e1, tkB, e0, e1', e2, hw, List.length_map, e3, hy, rngF, rng1F, hrL, k1, ← List.map_reverse, List.reverse_reverse, k2, k5]); (repeat (walk_at "zo"; try simp! [Int.one_mul, Int.toNat_natCast, e1, tkB, e0, e1', e2, hw, List.length_map, e3, hy, rngF, rng1F, hrL, k1, ← List.map_reverse, List.reverse_reverse, k2, k5])))
    · obtain ⟨ms, c', q', k1, t, k2, k3, k4, k5, k6, k7⟩ := fin u c2 q2 ha2 (by omega)
      refine ⟨ms.take t.toNat, c', q', ?_, k3, k4, k6, k7⟩
      simp! [bd_eq]
      ((try simp! [Int.one_mul, Int.toNat_natCast, e1, tkB, e0, e1', e2, hw, rngF, rng1F, hrL, k1, ← List.map_reverse, List.reverse_reverse, k2, k5]); (repeat (walk_at "zo"; try simp! [Int.one_mul, Int.toNat_natCast, e1, tkB, e0, e1', e2, hw, rngF, rng1F, hrL, k1, ← List.map_reverse, List.reverse_reverse, k2, k5])))
end Zn.PG

/-! PL: places lifted. -/
namespace Zn.PG
open PySem PySem.Spec PyProof.Rows L2 Zn Zn.PB Zn.PT
/-- the places of those that are so -/
def idx (f : Int → Bool) : Nat → List Int → List Nat
  | _, [] => []
  | k, x :: xs => if f x = true then k :: idx f (k + 1) xs else idx f (k + 1) xs
theorem idx_ge (f : Int → Bool) : ∀ (xs : List Int) (k q : Nat), q ∈ idx f k xs → k ≤ q
  | [], _, _, h => by cases h
  | x :: xs, k, q, h => by
    simp only [idx] at h
    split at h
    · rcases List.mem_cons.mp h with rfl | h
      · omega
      · have := idx_ge f xs (k + 1) q h; omega
    · have := idx_ge f xs (k + 1) q h; omega
theorem idx_congr {f g : Int → Bool} : ∀ (xs : List Int) (k : Nat), (∀ x ∈ xs, f x = g x) → idx f k xs = idx g k xs
  | [], _, _ => rfl
  | x :: xs, k, h => by
    simp only [idx, h x (by simp), idx_congr xs (k + 1) fun y hy => h y (by simp [hy])]
theorem idx_two (b P : Int → Bool) : ∀ (xs : List Int) (k j p : Nat), (idx (fun x => b x && P x) k xs)[p]? = (idx P j (xs.filter b))[p]?.bind fun (q : Nat) => (idx b k xs)[q - j]?
  | [], k, j, p => rfl
  | x :: xs, k, j, p => by
    have shift : ∀ p : Nat, (idx P (j + 1) (xs.filter b))[p]?.bind (fun (q : Nat) => (k :: idx b (k + 1) xs)[q - j]?) = (idx P (j + 1) (xs.filter b))[p]?.bind fun (q : Nat) => (idx b (k + 1) xs)[q - (j + 1)]? := by
      intro p
      cases h : (idx P (j + 1) (xs.filter b))[p]? with
      | none => rfl
      | some q =>
        have := idx_ge P (xs.filter b) (j + 1) q (List.mem_of_getElem? h)
        obtain ⟨r, hr⟩ : ∃ r, q - j = r + 1 := ⟨q - j - 1, by omega⟩
        simp only [Option.bind_some]
        rw [hr, List.getElem?_cons_succ, show q - (j + 1) = r by omega]
    by_cases hb : b x = true
    · by_cases hP : P x = true
      · have e1 : idx (fun x => b x && P x) k (x :: xs) = k :: idx (fun x => b x && P x) (k + 1) xs := by simp [idx, hb, hP]
        have e2 : idx P j ((x :: xs).filter b) = j :: idx P (j + 1) (xs.filter b) := by rw [List.filter_cons, if_pos hb]; simp [idx, hP]
        have e3 : idx b k (x :: xs) = k :: idx b (k + 1) xs := by simp [idx, hb]
        rw [e1, e2, e3]
        cases p with
        | zero => simp
        | succ p => rw [List.getElem?_cons_succ, List.getElem?_cons_succ, shift, idx_two b P xs (k + 1) (j + 1) p]
      · have e1 : idx (fun x => b x && P x) k (x :: xs) = idx (fun x => b x && P x) (k + 1) xs := by simp [idx, hP]
        have e2 : idx P j ((x :: xs).filter b) = idx P (j + 1) (xs.filter b) := by rw [List.filter_cons, if_pos hb]; simp [idx, hP]
        have e3 : idx b k (x :: xs) = k :: idx b (k + 1) xs := by simp [idx, hb]
        rw [e1, e2, e3, shift, idx_two b P xs (k + 1) (j + 1) p]
    · have e1 : idx (fun x => b x && P x) k (x :: xs) = idx (fun x => b x && P x) (k + 1) xs := by simp [idx, hb]
      have e2 : idx P j ((x :: xs).filter b) = idx P j (xs.filter b) := by rw [List.filter_cons, if_neg hb]
      have e3 : idx b k (x :: xs) = idx b (k + 1) xs := by simp [idx, hb]
      rw [e1, e2, e3, idx_two b P xs (k + 1) j p]
theorem fnd_idx (mark : Int) : ∀ (l : List Int) (i q : Nat), fnd mark i (q : Int) l = (idx (fun x => decide (x = mark)) i l)[q]?
  | [], _, _ => rfl
  | x :: l, i, q => by
    simp only [fnd, idx]
    by_cases c : x = mark
    · simp only [if_pos c, decide_eq_true c, if_true]
      cases q with
      | zero => simp
      | succ q =>
        rw [if_neg (by omega), List.getElem?_cons_succ, ← fnd_idx mark l (i + 1) q, show ((q + 1 : Nat) : Int) - 1 = (q : Int) by omega]
    · simp only [if_neg c, decide_eq_false c]
      exact fnd_idx mark l (i + 1) q
theorem idx_map (f : Int → Bool) (g : Int → Int) : ∀ (l : List Int) (i : Nat), idx f i (l.map g) = idx (fun x => f (g x)) i l
  | [], _ => rfl
  | x :: l, i => by simp only [List.map_cons, idx, idx_map f g l]
theorem idx_all : ∀ (l : List Int) (k p : Nat), (idx (fun _ => true) k l)[p]? = if p < l.length then some (k + p) else none
  | [], _, _ => by simp [idx]
  | x :: l, k, 0 => by simp [idx]
  | x :: l, k, p + 1 => by
    simp only [idx, if_true, List.getElem?_cons_succ, idx_all l (k + 1) p, List.length_cons]
    by_cases h : p < l.length
    · rw [if_pos h, if_pos (by omega)]; congr 1; omega
    · rw [if_neg h, if_neg (by omega)]
/-- which of a part's row lie at a way from there on -/
def inside : Nat → Int → List Int → Int → Bool
  | _, _, [], _ => true
  | 0, _, _ :: _, _ => false
  | e + 1, low, m :: ms, x => decide (bit (low + 2 ^ e) x = m) && inside e (low + m * 2 ^ e) ms x
def ids (e : Nat) (low : Int) (row ms : List Int) : List Nat := idx (inside e low ms) 0 row
/-- the half that a mark leads to -/
def half (low : Int) (e : Nat) (m : Int) (row : List Int) : List Int := row.filter fun x => decide (bit (low + 2 ^ e) x = m)
theorem half0 (low : Int) (e : Nat) (row : List Int) : half low e 0 row = row.filter fun x => decide (x < low + 2 ^ e) := by
  unfold half
  congr 1
  funext x
  by_cases q : low + 2 ^ e ≤ x
  · simp [bit, q]
  · simp [bit, q]; omega
theorem half1 (low : Int) (e : Nat) (row : List Int) : half low e 1 row = row.filter fun x => decide (low + 2 ^ e ≤ x) := by
  unfold half
  congr 1
  funext x
  by_cases q : low + 2 ^ e ≤ x
  · simp [bit, q]
  · simp [bit, q]
theorem ids_step (e : Nat) (low m : Int) (ms row : List Int) (p : Nat) : (ids (e + 1) low row (m :: ms))[p]? = (ids e (low + m * 2 ^ e) (half low e m row) ms)[p]?.bind fun (q : Nat) => fnd m 0 (q : Int) (row.map (bit (low + 2 ^ e))) := by
  have h := idx_two (fun x => decide (bit (low + 2 ^ e) x = m)) (inside e (low + m * 2 ^ e) ms) row 0 0 p
  have f := fun (q : Nat) => fnd_idx m (row.map (bit (low + 2 ^ e))) 0 q
  unfold ids
  rw [show inside (e + 1) low (m :: ms) = (fun x => decide (bit (low + 2 ^ e) x = m) && inside e (low + m * 2 ^ e) ms x) from rfl, h]
  congr 1
  funext q
  rw [f, idx_map, Nat.sub_zero]
def pD (p : List Int × Int) : D := .tup [.tup (p.1.map .int), .int p.2]
def upP : List (List Int × Int) → Nat → Option Nat
  | [], p => some p
  | (bits, m) :: rest, p => (upP rest p).bind fun q => fnd m 0 q bits
theorem forL_exc {body : D → Zn.Env → Store → SRes} {x : D} {xs : List D} {env e : Zn.Env} {st s : Store} {y : Exn} (h : body x env st = .exc y e s) : forL body (x :: xs) env st = .exc y e s := by
  simp only [forL, h]
theorem dn_loop (F : CallF) (rs : T) (i1 i2 : Nat) (st : Store) (B C : Option D) : ∀ (ms : List Int) (e : Nat) (low : Int) (row : List Int) (acc : List D) (mk b5 : Option D), Marks ms → ms.length ≤ e → e ≤ 60 → row.length ≤ 1000 → acc.length + ms.length ≤ 1000 → (rs = .sraise 2 ∨ ids e low row ms ≠ []) →
    (∃ env' st', forL (turn F (.tnm 4) (b_lifted_1 rs i1 i2)) (ms.map .int) [some (treeD e low row), B, C, some (.ref st.length), mk, b5] (st ++ [some (.lst acc)]) = .exc ⟨2, none⟩ env' st' ∧ st'.take st.length = st ∧ ids e low row ms = []) ∨
    ∃ (path : List (List Int × Int)) (e' : Nat) (low' : Int) (row' : List Int) (mk' : Option D), forL (turn F (.tnm 4) (b_lifted_1 rs i1 i2)) (ms.map .int) [some (treeD e low row), B, C, some (.ref st.length), mk, b5] (st ++ [some (.lst acc)]) =
        .nx [some (treeD e' low' row'), B, C, some (.ref st.length), mk', b5] (st ++ [some (.lst (acc ++ path.map pD))]) ∧ row'.length ≤ 1000 ∧ (∀ p : Nat, (ids e low row ms)[p]? = if p < row'.length then upP path p else none)
  | [], e, low, row, acc, mk, b5, _, _, _, hr, _, _ => by
    refine .inr ⟨[], e, low, row, mk, ?_, hr, fun p => ?_⟩
    · rw [List.map_nil, List.map_nil, List.append_nil, forL_nil]
    · have : inside e low [] = fun _ => true := by funext x; cases e <;> rfl
      rw [ids, this, idx_all]
      simp [upP]
  | m :: ms, e, low, row, acc, mk, b5, hm, hl, he, hr, ha, hrs => by
    obtain ⟨e, rfl⟩ : ∃ e', e = e' + 1 := ⟨e - 1, by simp at hl; omega⟩
    by_cases h : row = []
    · subst h
      have hrs : rs = .sraise 2 := hrs.resolve_right fun q => q rfl
      subst hrs
      refine .inl ⟨[some .non, B, C, some (.ref st.length), some (.int m), b5], st ++ [some (.lst acc)], ?_, by simp, rfl⟩
      rw [List.map_cons]
      refine forL_exc ?_
      rw [tree_nil]
      simp only [turn, b_lifted_1]
      simp! []
    · have st1 : turn F (.tnm 4) (b_lifted_1 rs i1 i2) (.int m) [some (treeD (e + 1) low row), B, C, some (.ref st.length), mk, b5] (st ++ [some (.lst acc)]) =
          .nx [some (treeD e (low + m * 2 ^ e) (half low e m row)), B, C, some (.ref st.length), some (.int m), b5] (st ++ [some (.lst (acc ++ [pD (row.map (bit (low + 2 ^ e)), m)]))]) := by
        have hal : acc.length < 16777216 := by omega
        rw [tree_succ _ _ h]
        simp only [turn, b_lifted_1, pD]
        rcases hm.tl.1 with rfl | rfl
        · simp! [mid_get, mid_set, hal]
          rw [half0]
          simp
        · simp! [mid_get, mid_set, hal]
          rw [half1]
          simp
      have hhl : (half low e m row).length ≤ 1000 := Nat.le_trans (List.length_filter_le _ _) hr
      have ih := dn_loop F rs i1 i2 st B C ms e (low + m * 2 ^ e) (half low e m row) (acc ++ [pD (row.map (bit (low + 2 ^ e)), m)]) (some (.int m)) b5 hm.tl.2 (by simp at hl; omega) (by omega) hhl (by simp at ha ⊢; omega)
        (hrs.imp id fun q h3 => q (List.ext_getElem? fun p => by rw [ids_step, h3]; simp))
      rw [List.map_cons, forL_nx st1]
      rcases ih with ⟨env', st', h1, h2, h3⟩ | ⟨path, e', low', row', mk', h1, h2, h3⟩
      · refine .inl ⟨env', st', h1, h2, ?_⟩
        apply List.ext_getElem?
        intro p
        rw [ids_step, h3]
        simp
      · refine .inr ⟨(row.map (bit (low + 2 ^ e)), m) :: path, e', low', row', mk', ?_, h2, fun p => ?_⟩
        · rw [h1, List.map_cons, List.append_assoc]
          rfl
        · rw [ids_step, h3]
          by_cases hp : p < row'.length
          · rw [if_pos hp, if_pos hp]
            rfl
          · rw [if_neg hp, if_neg hp]
            rfl

theorem up_loop {Fs : List Fn} {n ip i2 : Nat} {rs : T} (hp : Fs[ip]? = some (f_place_of rs)) (st : Store) (A B D3 : Option D) : ∀ (path : List (List Int × Int)) (p : Nat) (ys : List D) (mk b5 : Option D), (rs = .sraise 2 ∨ upP path p ≠ none) →
    ∃ mk' b5' env', forL (turn (cf Fs (n + 1)) (.ttp (.cons (.tnm 5) (.cons (.tnm 4) .nil))) (b_lifted_2 ip i2)) ((path.map pD).reverse ++ ys) [A, B, some (.int p), D3, mk, b5] st =
      match upP path p with
      | some r => forL (turn (cf Fs (n + 1)) (.ttp (.cons (.tnm 5) (.cons (.tnm 4) .nil))) (b_lifted_2 ip i2)) ys [A, B, some (.int (r : Nat)), D3, mk', b5'] st
      | none => .exc ⟨2, none⟩ env' st
  | [], p, ys, mk, b5, _ => ⟨mk, b5, [], rfl⟩
  | (bits, m) :: rest, p, ys, mk, b5, hrs => by
    obtain ⟨mk1, b51, env1, ih⟩ := up_loop (i2 := i2) hp st A B D3 rest p (pD (bits, m) :: ys) mk b5 (hrs.imp id fun q h => q (by simp only [upP, h]; rfl))
    rw [List.map_cons, List.reverse_cons, List.append_assoc, List.singleton_append, ih]
    simp only [upP]
    cases h : upP rest p with
    | none => exact ⟨mk, b5, env1, rfl⟩
    | some q =>
      simp only [Option.bind_some]
      have pg := place_gen (n := n) hp bits m (q : Int) (hrs.imp id fun z h2 => z (by simp only [upP, h]; exact h2)) st
      cases h2 : fnd m 0 (q : Int) bits with
      | none =>
        rw [h2] at pg
        refine ⟨mk, b5, [A, B, some (.int (q : Nat)), D3, some (.int m), some (.tup (bits.map .int))], ?_⟩
        refine forL_exc ?_
        simp only [turn, b_lifted_2, pD]
        simp! [pg]
      | some r =>
        rw [h2] at pg
        refine ⟨some (.int m), some (.tup (bits.map .int)), [], ?_⟩
        refine forL_nx ?_
        simp only [turn, b_lifted_2, pD]
        simp! [pg, tk_len]
theorem lift_ok {Fs : List Fn} {n i ip is : Nat} {rs : T} (hF : Fs[i]? = some (f_lifted rs ip is)) (hp : Fs[ip]? = some (f_place_of rs)) (hs : Fs[is]? = some PT.f_size_of) (L : Nat) (hL : L ≤ 60) (low : Int) (row ms : List Int) (hr : row.length ≤ 1000) (hm : Marks ms) (hl : ms.length ≤ L) (p : Int) (hrs : rs = .sraise 2 ∨ ∃ r, 0 ≤ p ∧ (ids L low row ms)[p.toNat]? = some r) (st : Store) :
    (∀ m, (cf Fs (n + 2) i [treeD L low row, .tup (ms.map .int), .int p] st).bind (callEnd m st.length) = if 0 ≤ p then match (ids L low row ms)[p.toNat]? with
      | some r => .ok (.int (r : Nat)) st
      | none => (cf Fs (n + 2) i [treeD L low row, .tup (ms.map .int), .int p] st).bind (callEnd m st.length)
      else (cf Fs (n + 2) i [treeD L low row, .tup (ms.map .int), .int p] st).bind (callEnd m st.length)) ∧
    ((p < 0 ∨ (ids L low row ms)[p.toNat]? = none) → ∃ st', cf Fs (n + 2) i [treeD L low row, .tup (ms.map .int), .int p] st = .exc ⟨2, none⟩ st' ∧ st'.take st.length = st) := by
  rw [cf_at hF rfl]; simp only [f_lifted, t_lifted]
  have dn := dn_loop (cf Fs (n + 1)) rs ip is st (some (.tup (ms.map .int))) (some (.int p)) ms L low row [] none none hm hl hL hr (by simp; omega) (hrs.imp id fun ⟨r, _, hr⟩ h => by rw [h] at hr; simp at hr)
  have wk : ∀ st, wkOf (.tup (ms.map .int)) st = .ok (.fix (ms.map .int)) st := fun _ => rfl
  rcases dn with ⟨env', st', h1, h2, h3⟩ | ⟨path, e', low', row', mk', h1, h2, h3⟩
  · constructor
    · intro m
      rw [h3]
      split <;> rfl
    · intro _
      refine ⟨st', ?_, h2⟩
      simp! [wk, h1]
  · have sz := fun st => size_ok (Fs := Fs) (n := n) hs e' low' row' st
    rw [List.nil_append] at h1
    by_cases c : 0 ≤ p ∧ p.toNat < row'.length
    · obtain ⟨P, rfl⟩ : ∃ P : Nat, p = P := ⟨p.toNat, by omega⟩
      rw [Int.toNat_natCast] at c
      have hid := h3 P
      rw [if_pos c.2] at hid
      obtain ⟨mk2, b52, env2, up⟩ := up_loop (n := n) (i2 := is) hp (st ++ [some (Cell.fz (path.map pD))]) (some (treeD e' low' row')) (some (.tup (ms.map .int))) (some (.ref st.length)) path P [] mk' none (hrs.imp id fun ⟨r, _, hr⟩ h => by rw [Int.toNat_natCast, hid, h] at hr; cases hr)
      rw [List.append_nil] at up
      have c1 : decide ((0 : Int) ≤ (P : Int)) = true := decide_eq_true (by omega)
      have c2 : decide ((P : Int) < (row'.length : Int)) = true := decide_eq_true (by omega)
      cases h : upP path P with
      | some r =>
        rw [h] at up hid
        simp only [forL_nil] at up
        constructor
        · intro m
          rw [Int.toNat_natCast, hid, if_pos (by omega)]
          simp! [wk, h1, c1, sz, c2, tk_len, mid_get, mid_set, up]
        · intro hno
          rw [Int.toNat_natCast, hid] at hno
          rcases hno with hno | hno
          · omega
          · cases hno
      | none =>
        rw [h] at up hid
        constructor
        · intro m
          rw [Int.toNat_natCast, hid]
          split <;> rfl
        · intro _
          refine ⟨st ++ [some (Cell.fz (path.map pD))], ?_, by simp⟩
          simp! [wk, h1, c1, sz, c2, tk_len, mid_get, mid_set, up]
    · constructor
      · intro m
        by_cases hp0 : 0 ≤ p
        · have hid := h3 p.toNat
          rw [if_neg (fun q => c ⟨hp0, q⟩)] at hid
          rw [if_pos hp0, hid]
        · rw [if_neg hp0]
      · intro hno
        have hrs : rs = .sraise 2 := hrs.resolve_right fun ⟨r, h0, hr⟩ => by
          rcases hno with hno | hno
          · omega
          · rw [hno] at hr; cases hr
        subst hrs
        refine ⟨st ++ [some (.lst (path.map pD))], ?_, by simp⟩
        by_cases hp0 : 0 ≤ p
        · have c1 : decide ((0 : Int) ≤ p) = true := decide_eq_true hp0
          have c2 : decide (p < (row'.length : Int)) = false := decide_eq_false (by intro q; exact c ⟨hp0, by omega⟩)
          simp! [wk, h1, c1, sz, c2, tk_len]
        · have c1 : decide ((0 : Int) ≤ p) = false := decide_eq_false hp0
          simp! [wk, h1, c1]
theorem lift_at {Fs : List Fn} {n i ip is : Nat} {rs : T} (hF : Fs[i]? = some (f_lifted rs ip is)) (hp : Fs[ip]? = some (f_place_of rs)) (hs : Fs[is]? = some PT.f_size_of) (L : Nat) (hL : L ≤ 60) (low : Int) (row ms : List Int) (hr : row.length ≤ 1000) (hm : Marks ms) (hl : ms.length ≤ L) (p r : Nat) (h : (ids L low row ms)[p]? = some r) (st : Store) (m : Bool) :
    (cf Fs (n + 2) i [treeD L low row, .tup (ms.map .int), .int p] st).bind (callEnd m st.length) = .ok (.int r) st := by
  have k := (lift_ok (n := n) hF hp hs L hL low row ms hr hm hl (p : Int) (.inr ⟨r, by omega, by rw [Int.toNat_natCast]; exact h⟩) st).1 m
  rw [if_pos (by omega), Int.toNat_natCast, h] at k
  exact k
theorem lift_no {Fs : List Fn} {n i ip is : Nat} (hF : Fs[i]? = some (f_lifted (.sraise 2) ip is)) (hp : Fs[ip]? = some (f_place_of (.sraise 2))) (hs : Fs[is]? = some PT.f_size_of) (L : Nat) (hL : L ≤ 60) (low : Int) (row ms : List Int) (hr : row.length ≤ 1000) (hm : Marks ms) (hl : ms.length ≤ L) (p : Int) (h : p < 0 ∨ (ids L low row ms).length ≤ p) (st : Store) :
    ∃ st', cf Fs (n + 2) i [treeD L low row, .tup (ms.map .int), .int p] st = .exc ⟨2, none⟩ st' ∧ st'.take st.length = st := by
  refine (lift_ok (n := n) hF hp hs L hL low row ms hr hm hl p (.inl rfl) st).2 ?_
  rcases h with h | h
  · exact .inl h
  · exact .inr (List.getElem?_eq_none (by omega))
/-- a number lies at a way by the law's own going when it does so by halves -/
theorem in_inside : ∀ (ms : List Int) (e : Nat) (low x : Int), ms.length ≤ e → low ≤ x → x < low + 2 ^ e → inO e (x - low) ms = inside e low ms x
  | [], e, low, x, _, _, _ => by cases e <;> rfl
  | m :: ms, e, low, x, hl, h1, h2 => by
    obtain ⟨e, rfl⟩ : ∃ e', e = e' + 1 := ⟨e - 1, by simp at hl; omega⟩
    have hp : (0 : Int) < 2 ^ e := Int.pow_pos (by omega)
    have hs : (2 : Int) ^ (e + 1) = 2 ^ e * 2 := Int.pow_succ ..
    rw [show inO (e + 1) (x - low) (m :: ms) = (decide ((x - low) / 2 ^ e = m) && inO e ((x - low) % 2 ^ e) ms) from rfl, show inside (e + 1) low (m :: ms) x = (decide (bit (low + 2 ^ e) x = m) && inside e (low + m * 2 ^ e) ms x) from rfl]
    by_cases c : low + 2 ^ e ≤ x
    · have q1 : (x - low) / 2 ^ e = 1 := by
        have e1 : x - low = (x - low - 2 ^ e) + 2 ^ e * 1 := by omega
        rw [e1, Int.add_mul_ediv_left _ _ (by omega), Int.ediv_eq_zero_of_lt (by omega) (by omega)]
        rfl
      have q2 : (x - low) % 2 ^ e = x - (low + 2 ^ e) := by
        have := Int.emod_def (x - low) (2 ^ e)
        rw [q1] at this
        omega
      have q3 : bit (low + 2 ^ e) x = 1 := by simp [bit, c]
      rw [q1, q2, q3]
      by_cases hm : (1 : Int) = m
      · subst hm
        rw [in_inside ms e (low + 2 ^ e) x (by simp at hl; omega) (by omega) (by omega), Int.one_mul]
      · rw [decide_eq_false hm, Bool.false_and, Bool.false_and]
    · have q1 : (x - low) / 2 ^ e = 0 := Int.ediv_eq_zero_of_lt (by omega) (by omega)
      have q2 : (x - low) % 2 ^ e = x - low := Int.emod_eq_of_lt (by omega) (by omega)
      have q3 : bit (low + 2 ^ e) x = 0 := by simp [bit, c]
      rw [q1, q2, q3]
      by_cases hm : (0 : Int) = m
      · subst hm
        rw [in_inside ms e low x (by simp at hl; omega) h1 (by omega), Int.zero_mul, Int.add_zero]
      · rw [decide_eq_false hm, Bool.false_and, Bool.false_and]
end Zn.PG

/-! PM: gatherings: drawn, led, counted. -/
namespace Zn.PM
open PySem PySem.Spec PyProof.Rows L2 Zn Zn.PB Zn.PT Zn.PG
def e__law_drawn_1 (i__law_bounds i__law_numbers i__law_take : Nat) : T := (.call i__law_numbers false (.cons (.var 0) (.cons (.var 2) (.cons (.sub (.lst false (.cons (.con (.int 12)) (.cons (.con (.int 12)) (.cons (.con (.int 4)) (.cons (.var 1) .nil))))) (.call i__law_take false (.cons (.var 0) (.cons (.con (.int 4)) .nil)))) .nil))))
def b__law_drawn_2 (i__law_bounds i__law_numbers i__law_take : Nat) : T := (.cons (.sset (.tnm 6) (.call i__law_take false (.cons (.var 0) (.cons (.blt .len false (.cons (.var 3) .nil)) .nil)))) (.cons (.sset (.tnm 7) (.call i__law_take false (.cons (.var 0) (.cons (.bin false .Add (.blt .len false (.cons (.sub (.var 3) (.var 6)) .nil)) (.con (.int 1))) .nil)))) (.cons (.sset (.tnm 8) (.bin false .Add (.var 7) (.call i__law_take false (.cons (.var 0) (.cons (.bin false .Sub (.bin false .Add (.blt .len false (.cons (.sub (.var 3) (.var 6)) .nil)) (.con (.int 1))) (.var 7)) .nil))))) (.cons (.sif (.cmp .Eq (.call i__law_take false (.cons (.var 0) (.cons (.con (.int 3)) .nil))) (.con (.int 0))) (.cons (.spar 7 8 (.con (.int 0)) (.blt .len false (.cons (.sub (.var 3) (.var 6)) .nil))) .nil) .nil) (.cons (.sexp (.mth .append (.var 4) (.cons (.tup (.cons (.var 6) (.cons (.var 7) (.cons (.var 8) .nil)))) .nil))) .nil)))))
def t__law_drawn (i__law_bounds i__law_numbers i__law_take : Nat) : T :=
  (.cons (.sset (.tnm 2) (.call i__law_bounds false (.cons (.var 0) .nil))) (.cons (.sset (.tnm 3) (.comp false (.srng 1 (.cons (.bin false .Add (.con (.int 1)) (.call i__law_take false (.cons (.var 0) (.cons (.con (.int 3)) .nil)))) .nil)) (.tnm 5) [("_law_k", 5)] .no (e__law_drawn_1 i__law_bounds i__law_numbers i__law_take))) (.cons (.sset (.tnm 4) (.lst true .nil)) (.cons (.sfor (.srng 1 (.cons (.bin false .Add (.con (.int 1)) (.bin false .Mult (.call i__law_take false (.cons (.var 0) (.cons (.con (.int 4)) .nil))) (.bin false .Add (.con (.int 1)) (.call i__law_take false (.cons (.var 0) (.cons (.con (.int 2)) .nil)))))) .nil)) (.tnm 5) (b__law_drawn_2 i__law_bounds i__law_numbers i__law_take)) (.cons (.sret (.tup (.cons (.var 2) (.cons (.var 3) (.cons (.frz (.var 4)) .nil))))) .nil)))))
def f__law_drawn (i__law_bounds i__law_numbers i__law_take : Nat) : Fn := ⟨"_law_drawn", ["_law_pen_here", "_law_long"], ["_law_pen_here", "_law_long", "_law_bounds_here", "_law_rows", "_law_some", "_law_k", "_law_which", "_law_start", "_law_end"], t__law_drawn i__law_bounds i__law_numbers i__law_take⟩
def e__law_gathering_1 (i__law_tree : Nat) : T := (.call i__law_tree false (.cons (.var 0) (.cons (.var 4) .nil)))
def e__law_gathering_2 (i__law_tree : Nat) : T := (.tup (.cons (.sub (.var 3) (.var 5)) (.cons (.var 6) (.cons (.var 7) .nil))))
def t__law_gathering (i__law_tree : Nat) : T :=
  (.cons (.sset (.tnm 3) (.comp false (.sit (.var 1)) (.tnm 4) [("_law_row", 4)] .no (e__law_gathering_1 i__law_tree))) (.cons (.sret (.comp true (.sit (.var 2)) (.ttp (.cons (.tnm 5) (.cons (.tnm 6) (.cons (.tnm 7) .nil)))) [("_law_which", 5), ("_law_start", 6), ("_law_end", 7)] .no (e__law_gathering_2 i__law_tree))) .nil))
def f__law_gathering (i__law_tree : Nat) : Fn := ⟨"_law_gathering", ["_law_bounds_here", "_law_rows", "_law_some"], ["_law_bounds_here", "_law_rows", "_law_some", "_law_trees", "_law_row", "_law_which", "_law_start", "_law_end"], t__law_gathering i__law_tree⟩
def e__law_things_1 : T := (.tup (.cons (.sub (.sub (.var 0) (.var 4)) (.var 7)) (.cons (.var 3) (.cons (.var 7) .nil))))
def b__law_things_2 : T := (.cons (.sset (.ttp (.cons (.tnm 4) (.cons (.tnm 5) (.cons (.tnm 6) .nil)))) (.sub (.var 1) (.var 3))) (.cons (.sexp (.mth .extend (.var 2) (.cons (.comp false (.srng 2 (.cons (.var 5) (.cons (.var 6) .nil))) (.tnm 7) [("_law_place", 7)] .no e__law_things_1) .nil))) .nil))
def t__law_things : T :=
  (.cons (.sset (.tnm 2) (.lst true .nil)) (.cons (.sfor (.srng 1 (.cons (.blt .len false (.cons (.var 1) .nil)) .nil)) (.tnm 3) b__law_things_2) (.cons (.sret (.blt .sorted false (.cons (.var 2) .nil))) .nil)))
def f__law_things : Fn := ⟨"_law_things", ["_law_rows", "_law_some"], ["_law_rows", "_law_some", "_law_found", "_law_j", "_law_which", "_law_start", "_law_end", "_law_place"], t__law_things⟩
def r__law_some_number (i__law_take : Nat) : T := (.cons (.sif (.cmp .Eq (.var 3) (.con (.int 4))) (.cons (.sret (.bin false .Add (.sub (.var 1) (.con (.int 0))) (.sub (.lst false (.cons (.neg (.con (.int 1))) (.cons (.con (.int 0)) (.cons (.con (.int 1)) .nil)))) (.call i__law_take false (.cons (.var 0) (.cons (.con (.int 3)) .nil)))))) .nil) .nil) (.cons (.sif (.cmp .Eq (.var 3) (.con (.int 5))) (.cons (.sret (.bin false .Add (.bin false .Add (.sub (.var 1) (.con (.int 0))) (.bin false .LShift (.con (.int 1)) (.sub (.var 1) (.con (.int 1))))) (.sub (.lst false (.cons (.neg (.con (.int 1))) (.cons (.con (.int 0)) (.cons (.neg (.con (.int 2))) .nil)))) (.call i__law_take false (.cons (.var 0) (.cons (.con (.int 3)) .nil)))))) .nil) .nil) (.cons (.sif (.cmp .Eq (.var 3) (.con (.int 6))) (.cons (.sret (.bin false .Mult (.sub (.lst false (.cons (.neg (.con (.int 1))) (.cons (.con (.int 1)) .nil))) (.call i__law_take false (.cons (.var 0) (.cons (.con (.int 2)) .nil)))) (.bin false .Add (.bin false .Pow (.con (.int 10)) (.con (.int 41))) (.call i__law_take false (.cons (.var 0) (.cons (.bin false .Pow (.con (.int 10)) (.con (.int 40))) .nil)))))) .nil) .nil) (.cons (.sret (.var 5)) .nil))))
def t__law_some_number (i__law_take : Nat) : T :=
  (.cons (.sset (.tnm 3) (.call i__law_take false (.cons (.var 0) (.cons (.con (.int 8)) .nil)))) (.cons (.sset (.tnm 4) (.sub (.var 2) (.call i__law_take false (.cons (.var 0) (.cons (.blt .len false (.cons (.var 2) .nil)) .nil))))) (.cons (.sset (.tnm 5) (.bin false .Add (.sub (.var 1) (.con (.int 0))) (.call i__law_take false (.cons (.var 0) (.cons (.bin false .LShift (.con (.int 1)) (.sub (.var 1) (.con (.int 1)))) .nil))))) (.cons (.sif (.bop .And (.cons (.cmp .Lt (.var 3) (.con (.int 4))) (.cons (.cmp .NotEq (.var 4) (.lst false .nil)) .nil))) (.cons (.sret (.bin false .Add (.sub (.var 4) (.call i__law_take false (.cons (.var 0) (.cons (.blt .len false (.cons (.var 4) .nil)) .nil)))) (.sub (.lst false (.cons (.con (.int 0)) (.cons (.con (.int 1)) (.cons (.neg (.con (.int 1))) (.cons (.con (.int 0)) .nil))))) (.var 3)))) .nil) .nil) (r__law_some_number i__law_take)))))
def f__law_some_number (i__law_take : Nat) : Fn := ⟨"_law_some_number", ["_law_pen_here", "_law_bounds_here", "_law_rows"], ["_law_pen_here", "_law_bounds_here", "_law_rows", "_law_way", "_law_row", "_law_number"], t__law_some_number i__law_take⟩
def e_many_in_1 : T := (.bin false .Sub (.var 3) (.var 2))
def t_many_in : T :=
  (.cons (.sret (.blt .sum false (.cons (.comp false (.sit (.var 0)) (.ttp (.cons (.tnm 1) (.cons (.tnm 2) (.cons (.tnm 3) .nil)))) [("tree", 1), ("start", 2), ("end", 3)] .no e_many_in_1) .nil))) .nil)
def f_many_in : Fn := ⟨"many_in", ["gathering"], ["gathering", "tree", "start", "end"], t_many_in⟩
def b_led_one_1 (i_ahead : Nat) : T := (.cons (.sif (.cmp .Is (.var 3) (.con .non)) (.cons (.sret (.tup (.cons (.con .non) (.cons (.con (.int 0)) (.cons (.con (.int 0)) .nil))))) .nil) .nil) (.cons (.sset (.tnm 4) (.call i_ahead false (.cons (.sub (.var 3) (.con (.int 1))) (.cons (.var 2) (.cons (.var 4) .nil))))) (.cons (.sset (.tnm 5) (.call i_ahead false (.cons (.sub (.var 3) (.con (.int 1))) (.cons (.var 2) (.cons (.var 5) .nil))))) (.cons (.sset (.tnm 3) (.sub (.var 3) (.bin false .Add (.con (.int 2)) (.var 2)))) .nil))))
def t_led_one (i_ahead : Nat) : T :=
  (.cons (.sset (.ttp (.cons (.tnm 3) (.cons (.tnm 4) (.cons (.tnm 5) .nil)))) (.var 0)) (.cons (.sfor (.sit (.var 1)) (.tnm 2) (b_led_one_1 i_ahead)) (.cons (.sret (.tup (.cons (.var 3) (.cons (.var 4) (.cons (.var 5) .nil))))) .nil)))
def f_led_one (i_ahead : Nat) : Fn := ⟨"led_one", ["stretch", "way"], ["stretch", "way", "mark", "tree", "start", "end"], t_led_one i_ahead⟩
def e_led_1 (i_led_one : Nat) : T := (.call i_led_one false (.cons (.var 2) (.cons (.var 1) .nil)))
def t_led (i_led_one : Nat) : T :=
  (.cons (.sret (.comp true (.sit (.var 0)) (.tnm 2) [("stretch", 2)] .no (e_led_1 i_led_one))) .nil)
def f_led (i_led_one : Nat) : Fn := ⟨"led", ["gathering", "way"], ["gathering", "way", "stretch"], t_led i_led_one⟩
def b_way_to_1 (i_led i_many_in : Nat) : T := (.cons (.sset (.tnm 5) (.call i_led false (.cons (.var 1) (.cons (.tup (.cons (.con (.int 0)) .nil)) .nil)))) (.cons (.sset (.tnm 6) (.call i_many_in false (.cons (.var 5) .nil))) (.cons (.sif (.cmp .Lt (.var 2) (.var 6)) (.cons (.sset (.tnm 1) (.var 5)) (.cons (.sset (.tnm 3) (.bin false .Add (.var 3) (.tup (.cons (.con (.int 0)) .nil)))) .nil)) (.cons (.sset (.tnm 2) (.bin false .Sub (.var 2) (.var 6))) (.cons (.sset (.tnm 1) (.call i_led false (.cons (.var 1) (.cons (.tup (.cons (.con (.int 1)) .nil)) .nil)))) (.cons (.sset (.tnm 3) (.bin false .Add (.var 3) (.tup (.cons (.con (.int 1)) .nil)))) .nil)))) .nil)))
def t_way_to (i_led i_many_in : Nat) : T :=
  (.cons (.sset (.tnm 3) (.tup .nil)) (.cons (.sfor (.srng 1 (.cons (.var 0) .nil)) (.tnm 4) (b_way_to_1 i_led i_many_in)) (.cons (.sret (.tup (.cons (.var 3) (.cons (.var 1) (.cons (.var 2) .nil))))) .nil)))
def f_way_to (i_led i_many_in : Nat) : Fn := ⟨"way_to", ["levels", "gathering", "k"], ["levels", "gathering", "k", "way", "level", "lower", "many"], t_way_to i_led i_many_in⟩
def w_nth_least_1 (i_way_to i_lifted i_many_in i_span_of : Nat) : T := (.cmp .GtE (.var 6) (.bin false .Sub (.sub (.sub (.var 5) (.var 3)) (.con (.int 2))) (.sub (.sub (.var 5) (.var 3)) (.con (.int 1)))))
def b_nth_least_2 (i_way_to i_lifted i_many_in i_span_of : Nat) : T := (.cons (.sset (.tnm 6) (.bin false .Sub (.var 6) (.bin false .Sub (.sub (.sub (.var 5) (.var 3)) (.con (.int 2))) (.sub (.sub (.var 5) (.var 3)) (.con (.int 1)))))) (.cons (.sset (.tnm 3) (.bin false .Add (.var 3) (.con (.int 1)))) .nil))
def t_nth_least (rs : T) (i_way_to i_lifted i_many_in i_span_of : Nat) : T :=
  (.cons (.sif (.nt (.cmp2 .LtE .Lt (.con (.int 0)) (.var 2) (.call i_many_in false (.cons (.var 1) .nil)))) (.cons rs .nil) .nil) (.cons (.sset (.ttp (.cons (.tnm 4) (.cons (.tnm 5) (.cons (.tnm 6) .nil)))) (.call i_way_to false (.cons (.sub (.var 0) (.con (.int 1))) (.cons (.var 1) (.cons (.var 2) .nil))))) (.cons (.sset (.tnm 3) (.con (.int 0))) (.cons (.swhile (w_nth_least_1 i_way_to i_lifted i_many_in i_span_of) (b_nth_least_2 i_way_to i_lifted i_many_in i_span_of)) (.cons (.sret (.tup (.cons (.sub (.call i_span_of false (.cons (.var 0) (.cons (.var 4) .nil))) (.con (.int 0))) (.cons (.var 3) (.cons (.call i_lifted false (.cons (.sub (.sub (.var 1) (.var 3)) (.con (.int 0))) (.cons (.var 4) (.cons (.bin false .Add (.sub (.sub (.var 5) (.var 3)) (.con (.int 1))) (.var 6)) .nil)))) .nil))))) .nil)))))
def f_nth_least (rs : T) (i_way_to i_lifted i_many_in i_span_of : Nat) : Fn := ⟨"nth_least", ["bounds", "gathering", "k"], ["bounds", "gathering", "k", "j", "way", "parts", "left"], t_nth_least rs i_way_to i_lifted i_many_in i_span_of⟩
def b_below_1 (i_way_of i_where i_many_in i_led : Nat) : T := (.cons (.sif (.cmp .Eq (.var 4) (.con (.int 1))) (.cons (.sset (.tnm 3) (.bin false .Add (.var 3) (.call i_many_in false (.cons (.call i_led false (.cons (.var 1) (.cons (.tup (.cons (.con (.int 0)) .nil)) .nil))) .nil)))) .nil) .nil) (.cons (.sset (.tnm 1) (.call i_led false (.cons (.var 1) (.cons (.tup (.cons (.var 4) .nil)) .nil)))) .nil))
def t_below (i_way_of i_where i_many_in i_led : Nat) : T :=
  (.cons (.sif (.cmp .Eq (.call i_where false (.cons (.var 0) (.cons (.var 2) .nil))) (.con (.str "below"))) (.cons (.sret (.con (.int 0))) .nil) .nil) (.cons (.sif (.cmp .Eq (.call i_where false (.cons (.var 0) (.cons (.var 2) .nil))) (.con (.str "above"))) (.cons (.sret (.call i_many_in false (.cons (.var 1) .nil))) .nil) .nil) (.cons (.sset (.tnm 3) (.con (.int 0))) (.cons (.sfor (.sit (.call i_way_of false (.cons (.var 0) (.cons (.var 2) .nil)))) (.tnm 4) (b_below_1 i_way_of i_where i_many_in i_led)) (.cons (.sret (.var 3)) .nil)))))
def f_below (i_way_of i_where i_many_in i_led : Nat) : Fn := ⟨"below", ["bounds", "gathering", "number"], ["bounds", "gathering", "number", "found", "mark"], t_below i_way_of i_where i_many_in i_led⟩
def t_between (i_below : Nat) : T :=
  (.cons (.sif (.cmp .Gt (.var 2) (.var 3)) (.cons (.sret (.con (.int 0))) .nil) .nil) (.cons (.sret (.bin false .Sub (.call i_below false (.cons (.var 0) (.cons (.var 1) (.cons (.bin false .Add (.var 3) (.con (.int 1))) .nil)))) (.call i_below false (.cons (.var 0) (.cons (.var 1) (.cons (.var 2) .nil)))))) .nil))
def f_between (i_below : Nat) : Fn := ⟨"between", ["bounds", "gathering", "low", "high"], ["bounds", "gathering", "low", "high"], t_between i_below⟩
def t_with_many (i_between : Nat) : T :=
  (.cons (.sret (.tup (.cons (.var 2) (.cons (.call i_between false (.cons (.var 0) (.cons (.var 1) (.cons (.var 2) (.cons (.var 2) .nil))))) .nil)))) .nil)
def f_with_many (i_between : Nat) : Fn := ⟨"with_many", ["bounds", "gathering", "worth"], ["bounds", "gathering", "worth"], t_with_many i_between⟩
def t_next_up (i_below i_with_many i_many_in i_nth_least : Nat) : T :=
  (.cons (.sset (.tnm 3) (.call i_below false (.cons (.var 0) (.cons (.var 1) (.cons (.bin false .Add (.var 2) (.con (.int 1))) .nil))))) (.cons (.sif (.cmp .Eq (.var 3) (.call i_many_in false (.cons (.var 1) .nil))) (.cons (.sret (.con .non)) .nil) .nil) (.cons (.sret (.call i_with_many false (.cons (.var 0) (.cons (.var 1) (.cons (.sub (.call i_nth_least false (.cons (.var 0) (.cons (.var 1) (.cons (.var 3) .nil)))) (.con (.int 0))) .nil))))) .nil)))
def f_next_up (i_below i_with_many i_many_in i_nth_least : Nat) : Fn := ⟨"next_up", ["bounds", "gathering", "number"], ["bounds", "gathering", "number", "k"], t_next_up i_below i_with_many i_many_in i_nth_least⟩
def t_next_down (i_below i_with_many i_nth_least : Nat) : T :=
  (.cons (.sset (.tnm 3) (.call i_below false (.cons (.var 0) (.cons (.var 1) (.cons (.var 2) .nil))))) (.cons (.sif (.cmp .Eq (.var 3) (.con (.int 0))) (.cons (.sret (.con .non)) .nil) .nil) (.cons (.sret (.call i_with_many false (.cons (.var 0) (.cons (.var 1) (.cons (.sub (.call i_nth_least false (.cons (.var 0) (.cons (.var 1) (.cons (.bin false .Sub (.var 3) (.con (.int 1))) .nil)))) (.con (.int 0))) .nil))))) .nil)))
def f_next_down (i_below i_with_many i_nth_least : Nat) : Fn := ⟨"next_down", ["bounds", "gathering", "number"], ["bounds", "gathering", "number", "k"], t_next_down i_below i_with_many i_nth_least⟩

def t_rank_of (rs : T) (i_number_at i_below i_many_in i_led i_way_of : Nat) : T :=
  (.cons (.sif (.bop .Or (.cons (.nt (.cmp2 .LtE .Lt (.con (.int 0)) (.var 2) (.blt .len false (.cons (.var 1) .nil)))) (.cons (.nt (.cmp2 .LtE .Lt (.sub (.sub (.var 1) (.var 2)) (.con (.int 1))) (.var 3) (.sub (.sub (.var 1) (.var 2)) (.con (.int 2))))) .nil))) (.cons rs .nil) .nil) (.cons (.sset (.ttp (.cons (.tnm 6) (.cons (.tnm 7) (.cons (.tnm 8) .nil)))) (.sub (.var 1) (.var 2))) (.cons (.sset (.tnm 4) (.call i_number_at false (.cons (.var 0) (.cons (.var 6) (.cons (.var 3) .nil))))) (.cons (.sset (.tnm 5) (.bin false .Add (.slc false (.var 1) .no (.so (.var 2))) (.lst false (.cons (.tup (.cons (.var 6) (.cons (.var 7) (.cons (.var 3) .nil)))) .nil)))) (.cons (.sret (.bin false .Add (.call i_below false (.cons (.var 0) (.cons (.var 1) (.cons (.var 4) .nil)))) (.call i_many_in false (.cons (.call i_led false (.cons (.var 5) (.cons (.call i_way_of false (.cons (.var 0) (.cons (.var 4) .nil))) .nil))) .nil)))) .nil)))))
def f_rank_of (rs : T) (i_number_at i_below i_many_in i_led i_way_of : Nat) : Fn := ⟨"rank_of", ["bounds", "gathering", "j", "place"], ["bounds", "gathering", "j", "place", "worth", "sooner", "tree", "start", "end"], t_rank_of rs i_number_at i_below i_many_in i_led i_way_of⟩
def t_least_added (i_led i_least_added i_many_in i_span_of : Nat) : T :=
  (.cons (.sif (.cmp .Eq (.var 3) (.con (.int 0))) (.cons (.sret (.con (.int 0))) .nil) .nil) (.cons (.sif (.cmp .Eq (.blt .len false (.cons (.var 2) .nil)) (.sub (.var 0) (.con (.int 1)))) (.cons (.sret (.bin false .Mult (.var 3) (.sub (.call i_span_of false (.cons (.var 0) (.cons (.var 2) .nil))) (.con (.int 0))))) .nil) .nil) (.cons (.sset (.tnm 4) (.call i_led false (.cons (.var 1) (.cons (.tup (.cons (.con (.int 0)) .nil)) .nil)))) (.cons (.sset (.tnm 5) (.blt .min false (.cons (.var 3) (.cons (.call i_many_in false (.cons (.var 4) .nil)) .nil)))) (.cons (.sset (.tnm 6) (.call i_least_added false (.cons (.var 0) (.cons (.var 4) (.cons (.bin false .Add (.var 2) (.tup (.cons (.con (.int 0)) .nil))) (.cons (.var 5) .nil)))))) (.cons (.sret (.bin false .Add (.var 6) (.call i_least_added false (.cons (.var 0) (.cons (.call i_led false (.cons (.var 1) (.cons (.tup (.cons (.con (.int 1)) .nil)) .nil))) (.cons (.bin false .Add (.var 2) (.tup (.cons (.con (.int 1)) .nil))) (.cons (.bin false .Sub (.var 3) (.var 5)) .nil))))))) .nil))))))
def f_least_added (i_led i_least_added i_many_in i_span_of : Nat) : Fn := ⟨"least_added", ["bounds", "gathering", "way", "k"], ["bounds", "gathering", "way", "k", "lower", "many", "found"], t_least_added i_led i_least_added i_many_in i_span_of⟩
def t_sum_of_least (rs : T) (i_least_added i_many_in : Nat) : T :=
  (.cons (.sif (.nt (.cmp2 .LtE .LtE (.con (.int 0)) (.var 2) (.call i_many_in false (.cons (.var 1) .nil)))) (.cons rs .nil) .nil) (.cons (.sret (.call i_least_added false (.cons (.var 0) (.cons (.var 1) (.cons (.tup .nil) (.cons (.var 2) .nil)))))) .nil))
def f_sum_of_least (rs : T) (i_least_added i_many_in : Nat) : Fn := ⟨"sum_of_least", ["bounds", "gathering", "k"], ["bounds", "gathering", "k"], t_sum_of_least rs i_least_added i_many_in⟩

def t__law_is_number : T :=
  (.cons (.sret (.bop .And (.cons (.isi (.var 0) "int") (.cons (.nt (.isi (.var 0) "bool")) .nil)))) .nil)
def f__law_is_number : Fn := ⟨"_law_is_number", ["_law_thing"], ["_law_thing"], t__law_is_number⟩
/-! ### stretches -/
abbrev S3 := List Int × Nat × Nat
def stD (e : Nat) (low : Int) (x : S3) : D := .tup [treeD e low x.1, .int (x.2.1 : Nat), .int (x.2.2 : Nat)]
def gaD (e : Nat) (low : Int) (g : List S3) : D := .lst (g.map (stD e low))
def Good (x : S3) : Prop := x.2.1 ≤ x.2.2 ∧ x.2.2 ≤ x.1.length
def seg (x : S3) : List Int := (x.1.drop x.2.1).take (x.2.2 - x.2.1)
def nums (g : List S3) : List Int := (g.map seg).flatten
def hl (low : Int) (e : Nat) (m : Int) (x : S3) : S3 := (half low e m x.1, (half low e m (x.1.take x.2.1)).length, (half low e m (x.1.take x.2.2)).length)
def ledS : Nat → Int → List Int → S3 → S3
  | _, _, [], x => x
  | 0, _, _ :: _, x => x
  | e + 1, low, m :: ms, x => ledS e (low + m * 2 ^ e) ms (hl low e m x)
theorem half_app (low : Int) (e : Nat) (m : Int) (a b : List Int) : half low e m (a ++ b) = half low e m a ++ half low e m b := List.filter_append ..
theorem half_pre (low : Int) (e : Nat) (m : Int) (row : List Int) (k : Nat) : (half low e m row).take (half low e m (row.take k)).length = half low e m (row.take k) := by
  conv => lhs; arg 2; rw [← List.take_append_drop k row]
  rw [half_app, List.take_left]
theorem half_post (low : Int) (e : Nat) (m : Int) (row : List Int) (k : Nat) : (half low e m row).drop (half low e m (row.take k)).length = half low e m (row.drop k) := by
  conv => lhs; arg 2; rw [← List.take_append_drop k row]
  rw [half_app, List.drop_left]
theorem half_mono (low : Int) (e : Nat) (m : Int) (row : List Int) {j k : Nat} (h : j ≤ k) : (half low e m (row.take j)).length ≤ (half low e m (row.take k)).length := by
  have : row.take k = row.take j ++ (row.drop j).take (k - j) := by
    rw [← List.take_add]
    congr 1; omega
  rw [this, half_app, List.length_append]
  omega
theorem half_le (low : Int) (e : Nat) (m : Int) (row : List Int) (k : Nat) : (half low e m (row.take k)).length ≤ (half low e m row).length := by
  conv => rhs; rw [← List.take_append_drop k row, half_app, List.length_append]
  omega
theorem Good.hl {x : S3} (h : Good x) (low : Int) (e : Nat) (m : Int) : Good (hl low e m x) := ⟨half_mono low e m x.1 h.1, half_le low e m x.1 x.2.2⟩
theorem seg_hl {x : S3} (h : Good x) (low : Int) (e : Nat) (m : Int) : seg (hl low e m x) = half low e m (seg x) := by
  obtain ⟨row, s, t⟩ := x
  obtain ⟨h1, h2⟩ := h
  simp only at h1 h2
  simp only [seg, hl]
  have e1 : row.take t = row.take s ++ (row.drop s).take (t - s) := by
    rw [← List.take_add]
    congr 1; omega
  have e2 : (half low e m (row.take t)).length - (half low e m (row.take s)).length = (half low e m ((row.drop s).take (t - s))).length := by
    rw [e1, half_app, List.length_append]
    omega
  rw [e2, half_post, half_pre]
theorem seg_len {x : S3} (h : Good x) : (seg x).length = x.2.2 - x.2.1 := by
  simp only [seg, List.length_take, List.length_drop]
  have := h.2
  omega
theorem hl_nil (low : Int) (e : Nat) (m : Int) (s t : Nat) : hl low e m ([], s, t) = ([], 0, 0) := by simp [hl, half]
theorem ledS_nil : ∀ (ms : List Int) (e : Nat) (low : Int), ledS e low ms ([], 0, 0) = ([], 0, 0)
  | [], e, low => by cases e <;> rfl
  | m :: ms, 0, low => rfl
  | m :: ms, e + 1, low => by rw [ledS, hl_nil, ledS_nil ms]
theorem Good.ledS : ∀ (ms : List Int) (e : Nat) (low : Int) {x : S3}, Good x → Good (ledS e low ms x)
  | [], e, low, x, h => by cases e <;> exact h
  | m :: ms, 0, low, x, h => h
  | m :: ms, e + 1, low, x, h => Good.ledS ms e _ (h.hl low e m)
theorem oc_bits (low : Int) (e : Nat) : ∀ row : List Int, ((row.map (bit (low + 2 ^ e))).sum : Int) = ((half low e 1 row).length : Nat)
  | [] => rfl
  | x :: row => by
    have ih := oc_bits low e row
    rcases bit01 (low + 2 ^ e) x with h | h
    · rw [List.map_cons, List.sum_cons, ih, h, half, half, List.filter_cons_of_neg (by simp [h])]; simp
    · rw [List.map_cons, List.sum_cons, ih, h, half, half, List.filter_cons_of_pos (by simp [h])]; simp; omega
theorem halves_len (low : Int) (e : Nat) : ∀ row : List Int, (half low e 0 row).length + (half low e 1 row).length = row.length
  | [] => rfl
  | x :: row => by
    have ih := halves_len low e row
    simp only [half] at ih ⊢
    rcases bit01 (low + 2 ^ e) x with h | h
    · rw [List.filter_cons_of_pos (by simp [h]), List.filter_cons_of_neg (by simp [h])]; simp; omega
    · rw [List.filter_cons_of_neg (by simp [h]), List.filter_cons_of_pos (by simp [h])]; simp; omega
/-- how many marks like one stand ahead -/
theorem aheadH {Fs : List Fn} {n i : Nat} (hF : Fs[i]? = some f_ahead) (low : Int) (e : Nat) (row : List Int) (m : Int) (hm : m = 0 ∨ m = 1) (k : Nat) (hk : k ≤ row.length) (st : Store) :
    cf Fs (n + 1) i [.tup ((row.map (bit (low + 2 ^ e))).map .int), .int m, .int (k : Nat)] st = .ok (.int ((half low e m (row.take k)).length : Nat)) st := by
  rw [ahead_ok hF, ← List.map_take, oc_bits]
  have h := halves_len low e (row.take k)
  rw [List.length_take, Nat.min_eq_left hk] at h
  rcases hm with rfl | rfl
  · rw [if_neg (by omega)]
    congr 2
    omega
  · rw [if_pos rfl]
theorem led_loop {Fs : List Fn} {n ia : Nat} (ha : Fs[ia]? = some f_ahead) (st : Store) (A B : Option D) : ∀ (ms : List Int) (e : Nat) (low : Int) (x : S3) (mk : Option D), ms.length ≤ e → e ≤ 60 → Marks ms → Good x →
    (forL (turn (cf Fs (n + 1)) (.tnm 2) (b_led_one_1 ia)) (ms.map .int) [A, B, mk, some (treeD e low x.1), some (.int (x.2.1 : Nat)), some (.int (x.2.2 : Nat))] st = .rt (.tup [.non, .int 0, .int 0]) st ∧ ledS e low ms x = ([], 0, 0)) ∨
    ∃ mk' low', forL (turn (cf Fs (n + 1)) (.tnm 2) (b_led_one_1 ia)) (ms.map .int) [A, B, mk, some (treeD e low x.1), some (.int (x.2.1 : Nat)), some (.int (x.2.2 : Nat))] st =
      .nx [A, B, mk', some (treeD (e - ms.length) low' (ledS e low ms x).1), some (.int ((ledS e low ms x).2.1 : Nat)), some (.int ((ledS e low ms x).2.2 : Nat))] st ∧ low' = lowOf low e ms
  | [], e, low, x, mk, _, _, _, _ => .inr ⟨mk, low, by
      have : ledS e low [] x = x := by cases e <;> rfl
      rw [this]; rfl, by cases e <;> rfl⟩
  | m :: ms, e, low, x, mk, hl', he, hm, hg => by
    obtain ⟨e, rfl⟩ : ∃ e', e = e' + 1 := ⟨e - 1, by simp at hl'; omega⟩
    obtain ⟨row, s, t⟩ := x
    rw [List.map_cons]
    by_cases h : row = []
    · subst h
      refine .inl ⟨?_, ?_⟩
      · refine forL_rt ?_
        simp only [tree_nil]
        simp only [turn, b_led_one_1]
        simp! []
      · rw [ledS, hl_nil, ledS_nil]
    · have h1 := aheadH (n := n) ha low e row m hm.tl.1 s (Nat.le_trans hg.1 hg.2)
      have h2 := aheadH (n := n) ha low e row m hm.tl.1 t hg.2
      have st1 : turn (cf Fs (n + 1)) (.tnm 2) (b_led_one_1 ia) (.int m) [A, B, mk, some (treeD (e + 1) low row), some (.int (s : Nat)), some (.int (t : Nat))] st =
          .nx [A, B, some (.int m), some (treeD e (low + m * 2 ^ e) (hl low e m (row, s, t)).1), some (.int ((hl low e m (row, s, t)).2.1 : Nat)), some (.int ((hl low e m (row, s, t)).2.2 : Nat))] st := by
        rw [tree_succ _ _ h]
        simp only [turn, b_led_one_1, hl]
        rcases hm.tl.1 with rfl | rfl
        · simp! [h1, h2, tk_len]
          rw [half0 low e row]
          simp
        · simp! [h1, h2, tk_len]
          rw [half1 low e row]
          simp
      have ih := led_loop (n := n) ha st A B ms e (low + m * 2 ^ e) (hl low e m (row, s, t)) (some (.int m)) (by simp at hl'; omega) (by omega) hm.tl.2 (hg.hl low e m)
      rw [forL_nx st1]
      rcases ih with ⟨h3, h4⟩ | ⟨mk', low', h3, h4⟩
      · exact .inl ⟨h3, h4⟩
      · refine .inr ⟨mk', low', ?_, ?_⟩
        · rw [h3, List.length_cons, ledS, show e + 1 - (ms.length + 1) = e - ms.length by omega]
        · rw [h4]; rfl
theorem led_one_ok {Fs : List Fn} {n i ia : Nat} (hF : Fs[i]? = some (f_led_one ia)) (ha : Fs[ia]? = some f_ahead) (ms : List Int) (e : Nat) (low : Int) (x : S3) (h1 : ms.length ≤ e) (h2 : e ≤ 60) (h3 : Marks ms) (hg : Good x) (st : Store) :
    cf Fs (n + 2) i [stD e low x, .tup (ms.map .int)] st = .ok (stD (e - ms.length) (lowOf low e ms) (ledS e low ms x)) st := by
  rw [cf_at hF rfl]; simp only [f_led_one, t_led_one, stD]
  have wk : ∀ st, wkOf (.tup (ms.map .int)) st = .ok (.fix (ms.map .int)) st := fun _ => rfl
  rcases led_loop (n := n) ha st (some (stD e low x)) (some (.tup (ms.map .int))) ms e low x none h1 h2 h3 hg with ⟨h4, h5⟩ | ⟨mk', low', h4, h5⟩
  · rw [stD] at h4
    simp! [wk, h4]
    rw [h5, tree_nil]
    rfl
  · rw [stD] at h4
    subst h5
    simp! [wk, h4, tree_noref]
theorem filter_tt {α : Type} (g : List α) : g.filter (fun _ => true) = g := List.filter_eq_self.mpr (by simp)
theorem st_noref (e : Nat) (low : Int) (x : S3) : (stD e low x).isRef = false := rfl
theorem led_ok {Fs : List Fn} {n i io ia : Nat} (hF : Fs[i]? = some (f_led io)) (ho : Fs[io]? = some (f_led_one ia)) (ha : Fs[ia]? = some f_ahead) (ms : List Int) (e : Nat) (low : Int) (g : List S3) (h1 : ms.length ≤ e) (h2 : e ≤ 60) (h3 : Marks ms) (hg : ∀ x ∈ g, Good x) (hl : g.length ≤ 1000) (m : Bool) (st : Store) :
    (cf Fs (n + 3) i [gaD e low g, .tup (ms.map .int)] st).bind (callEnd m st.length) = mk m ((g.map (ledS e low ms)).map (stD (e - ms.length) (lowOf low e ms))) st := by
  rw [cf_at hF rfl]; simp only [f_led, t_led, gaD]
  have cp := comp_on (F := cf Fs (n + 2)) (m := true) (tg := .tnm 2) (cond := .no) (elt := e_led_1 io) (env := [some (.lst (g.map (stD e low))), some (.tup (ms.map .int)), none]) (st := st) (xs := g) (stD e low) (fun _ => true)
    (fun x => stD (e - ms.length) (lowOf low e ms) (ledS e low ms x)) (fun _ => rfl) (fun x hx acc => by
      have lo := fun st => led_one_ok (n := n) ho ha ms e low x h1 h2 h3 (hg x hx) st
      simp only [e_led_1]
      simp! [lo, tk_len]
      simp only [stD]
      simp! [tk_len]) (by simp only [sizeLine]; omega)
  simp! [wk_lst', cp, filter_tt]
  rw [ce_new, List.map_map]
  rfl
theorem sum_diff : ∀ g : List S3, (∀ x ∈ g, Good x) → (g.map fun x => ((x.2.2 : Nat) : Int) - (x.2.1 : Nat)).sum = ((nums g).length : Nat)
  | [], _ => rfl
  | x :: g, h => by
    have hx := h x (by simp)
    have := seg_len hx
    have := hx.1
    rw [List.map_cons, List.sum_cons, sum_diff g fun y hy => h y (by simp [hy]), nums, nums, List.map_cons, List.flatten_cons, List.length_append, seg_len hx]
    omega
theorem many_ok {Fs : List Fn} {n i : Nat} (hF : Fs[i]? = some f_many_in) (e : Nat) (low : Int) (g : List S3) (hg : ∀ x ∈ g, Good x) (hl : g.length ≤ 1000) (st : Store) :
    cf Fs (n + 1) i [gaD e low g] st = .ok (.int ((nums g).length : Nat)) st := by
  rw [cf_at hF rfl]; simp only [f_many_in, t_many_in, gaD]
  have cp := comp_on (F := cf Fs n) (m := false) (tg := .ttp (.cons (.tnm 1) (.cons (.tnm 2) (.cons (.tnm 3) .nil)))) (cond := .no) (elt := e_many_in_1) (env := [some (.lst (g.map (stD e low))), none, none, none]) (st := st) (xs := g) (stD e low) (fun _ => true)
    (fun x => D.int (((x.2.2 : Nat) : Int) - (x.2.1 : Nat))) (fun _ => rfl) (fun x hx acc => by
      simp only [e_many_in_1, stD]
      simp! []) (by simp only [sizeLine]; omega)
  simp! [wk_lst', cp, filter_tt]
  rw [sum_map g (fun x : S3 => ((x.2.2 : Nat) : Int) - (x.2.1 : Nat)), sum_diff g hg]
  simp! []
/-! ### numbers of a gathering, counted -/
def cl (x : Int) (ns : List Int) : Nat := (ns.filter fun y => decide (y < x)).length
theorem cl_app (x : Int) (a b : List Int) : cl x (a ++ b) = cl x a + cl x b := by simp [cl]
theorem nums_hl (low : Int) (e : Nat) (m : Int) : ∀ g : List S3, (∀ x ∈ g, Good x) → nums (g.map (hl low e m)) = half low e m (nums g)
  | [], _ => rfl
  | x :: g, h => by
    have ih := nums_hl low e m g fun y hy => h y (by simp [hy])
    rw [nums, List.map_cons, List.map_cons, List.flatten_cons, seg_hl (h x (by simp)), nums, List.map_cons, List.flatten_cons, half_app]
    rw [nums, nums] at ih
    rw [ih]
theorem inB_half {low : Int} {e : Nat} {ns : List Int} (h : InB low (e + 1) ns) {m : Int} (hm : m = 0 ∨ m = 1) : InB (low + m * 2 ^ e) e (half low e m ns) := by
  rcases hm with rfl | rfl
  · rw [half0]; simpa using h.lo
  · rw [half1]; simpa using h.hi
theorem cl_lo (x : Int) : ∀ ns : List Int, (∀ y ∈ ns, x ≤ y) → cl x ns = 0 := fun ns h => by
  rw [cl, List.length_eq_zero_iff, List.filter_eq_nil_iff]
  intro y hy
  have := h y hy
  simpa using this
theorem cl_all (x : Int) : ∀ ns : List Int, (∀ y ∈ ns, y < x) → cl x ns = ns.length := fun ns h => by
  rw [cl, List.filter_eq_self.mpr fun y hy => by simpa using h y hy]
theorem cl_halves (low : Int) (e : Nat) (x : Int) : ∀ ns : List Int, cl x ns = cl x (half low e 0 ns) + cl x (half low e 1 ns)
  | [] => rfl
  | y :: ns => by
    have ih := cl_halves low e x ns
    simp only [half, cl] at ih ⊢
    rcases bit01 (low + 2 ^ e) y with h | h
    · rw [List.filter_cons_of_pos (p := fun z => decide (bit (low + 2 ^ e) z = 0)) (by simp [h]), List.filter_cons_of_neg (p := fun z => decide (bit (low + 2 ^ e) z = 1)) (by simp [h])]
      by_cases c : y < x
      · rw [List.filter_cons_of_pos (by simp [c]), List.filter_cons_of_pos (by simp [c])]; simp only [List.length_cons]; omega
      · rw [List.filter_cons_of_neg (by simp [c]), List.filter_cons_of_neg (by simp [c])]; omega
    · rw [List.filter_cons_of_neg (p := fun z => decide (bit (low + 2 ^ e) z = 0)) (by simp [h]), List.filter_cons_of_pos (p := fun z => decide (bit (low + 2 ^ e) z = 1)) (by simp [h])]
      by_cases c : y < x
      · rw [List.filter_cons_of_pos (by simp [c]), List.filter_cons_of_pos (by simp [c])]; simp only [List.length_cons]; omega
      · rw [List.filter_cons_of_neg (by simp [c]), List.filter_cons_of_neg (by simp [c])]; omega
/-- the way of a number by halves -/
def wy : Nat → Int → Int → List Int
  | 0, _, _ => []
  | e + 1, low, x => bit (low + 2 ^ e) x :: wy e (low + bit (low + 2 ^ e) x * 2 ^ e) x
theorem wy_len : ∀ (e : Nat) (low x : Int), (wy e low x).length = e
  | 0, _, _ => rfl
  | e + 1, low, x => by rw [wy, List.length_cons, wy_len e]
theorem wy_marks : ∀ (e : Nat) (low x : Int), Marks (wy e low x)
  | 0, _, _ => by simp [wy, Marks]
  | e + 1, low, x => fun m hm => by
    rw [wy] at hm
    rcases List.mem_cons.mp hm with rfl | hm
    · exact bit01 _ _
    · exact wy_marks e _ _ m hm
theorem bit_in {low x : Int} {e : Nat} (h1 : low ≤ x) (h2 : x < low + 2 ^ (e + 1)) : low + bit (low + 2 ^ e) x * 2 ^ e ≤ x ∧ x < low + bit (low + 2 ^ e) x * 2 ^ e + 2 ^ e := by
  have hs : (2 : Int) ^ (e + 1) = 2 ^ e * 2 := Int.pow_succ ..
  unfold bit
  split <;> omega
theorem wy_low : ∀ (e : Nat) (low x : Int), low ≤ x → x < low + 2 ^ e → lowOf low e (wy e low x) = x
  | 0, low, x, h1, h2 => by simp at h2; simp only [wy, lowOf]; omega
  | e + 1, low, x, h1, h2 => by
    have := bit_in h1 h2
    rw [wy, lowOf, show e + 1 - 1 = e by omega, wy_low e _ x this.1 this.2]
theorem way_wy : ∀ (e : Nat) (low x : Int), low ≤ x → x < low + 2 ^ e → wayL e (x - low) = wy e low x
  | 0, low, x, _, _ => rfl
  | e + 1, low, x, h1, h2 => by
    have hb := bit_in h1 h2
    rw [wy, ← way_wy e _ x hb.1 hb.2]
    have hs : (2 : Int) ^ (e + 1) = 2 ^ e * 2 := Int.pow_succ ..
    have hp : (0 : Int) < 2 ^ e := Int.pow_pos (by omega)
    obtain ⟨b, hbe⟩ : ∃ b, b = bit (low + 2 ^ e) x := ⟨_, rfl⟩
    have hb01 := bit01 (low + 2 ^ e) x
    rw [← hbe] at hb hb01 ⊢
    have r1 : (x - low) / 2 ^ e % 2 = b := by
      have : (x - low) / 2 ^ e = b := by
        have e1 : x - low = (x - low - b * 2 ^ e) + 2 ^ e * b := by rw [Int.mul_comm b]; omega
        rw [e1, Int.add_mul_ediv_left _ _ (by omega), Int.ediv_eq_zero_of_lt (by omega) (by omega)]
        omega
      rw [this]
      rcases hb01 with h | h <;> rw [h] <;> rfl
    simp only [wayL]
    rw [List.range_succ_eq_map, List.map_cons, List.map_map]
    congr 1
    apply List.map_congr_left
    intro k hk
    have hk := List.mem_range.mp hk
    simp only [Function.comp]
    rw [show e + 1 - 1 - (k + 1) = e - 1 - k by omega]
    obtain ⟨j, hj⟩ : ∃ j, j = e - 1 - k := ⟨_, rfl⟩
    rw [← hj]
    have hej : (2 : Int) ^ e = 2 ^ j * (2 ^ (e - j - 1) * 2) := by
      rw [← Int.pow_succ, ← Int.pow_add]
      congr 1; omega
    have e2 : x - low = (x - (low + b * 2 ^ e)) + 2 ^ j * (2 ^ (e - j - 1) * 2 * b) := by
      rw [← Int.mul_assoc, ← hej, Int.mul_comm _ b]; omega
    have hpj : (0 : Int) < 2 ^ j := Int.pow_pos (by omega)
    rw [e2, Int.add_mul_ediv_left _ _ (by omega), show (2 : Int) ^ (e - j - 1) * 2 * b = 2 * (2 ^ (e - j - 1) * b) by rw [Int.mul_assoc, Int.mul_comm, Int.mul_assoc, Int.mul_comm b]]
    omega
theorem led1_ok {Fs : List Fn} {n i io ia : Nat} (hF : Fs[i]? = some (f_led io)) (ho : Fs[io]? = some (f_led_one ia)) (ha : Fs[ia]? = some f_ahead) (m : Int) (hm : m = 0 ∨ m = 1) (e : Nat) (low : Int) (g : List S3) (h2 : e + 1 ≤ 60) (hg : ∀ x ∈ g, Good x) (hl' : g.length ≤ 1000) (st : Store) :
    (cf Fs (n + 3) i [gaD (e + 1) low g, .tup [.int m]] st).bind (callEnd false st.length) = .ok (gaD e (low + m * 2 ^ e) (g.map (hl low e m))) st := by
  have h := led_ok (n := n) hF ho ha [m] (e + 1) low g (by simp) h2 (by simp [Marks, hm]) hg hl' false st
  rw [mk_false] at h
  refine h.trans ?_
  have : ∀ x : S3, ledS (e + 1) low [m] x = hl low e m x := fun x => by cases e <;> rfl
  rw [gaD, List.map_congr_left fun x _ => this x]
  rfl
theorem below_loop {Fs : List Fn} {n iw ih im il io ia : Nat} (hm : Fs[im]? = some f_many_in) (hF : Fs[il]? = some (f_led io)) (ho : Fs[io]? = some (f_led_one ia)) (ha : Fs[ia]? = some f_ahead) (st : Store) (A C : Option D) (x : Int) : ∀ (e : Nat) (low : Int) (g : List S3) (found : Int) (mk : Option D), e ≤ 60 → low ≤ x → x < low + 2 ^ e → (∀ x ∈ g, Good x) → g.length ≤ 1000 → InB low e (nums g) →
    ∃ g' mk', forL (turn (cf Fs (n + 3)) (.tnm 4) (b_below_1 iw ih im il)) ((wy e low x).map .int) [A, some (gaD e low g), C, some (.int found), mk] st = .nx [A, g', C, some (.int (found + (cl x (nums g) : Nat))), mk'] st
  | 0, low, g, found, mk, _, h1, h2, hg, hl', hb => ⟨some (gaD 0 low g), mk, by
      rw [cl_lo x (nums g) fun y hy => by
        have := hb y hy
        simp at h2 this
        omega]
      simp [wy, forL_nil]⟩
  | e + 1, low, g, found, mk, he, h1, h2, hg, hl', hb => by
    have hbx := bit_in h1 h2
    have hgh : ∀ m, ∀ y ∈ g.map (hl low e m), Good y := fun m y hy => by
      obtain ⟨z, hz, rfl⟩ := List.mem_map.mp hy
      exact (hg z hz).hl low e m
    have l0 := fun st => led1_ok (n := n) hF ho ha 0 (.inl rfl) e low g he hg hl' st
    have l1 := fun st => led1_ok (n := n) hF ho ha 1 (.inr rfl) e low g he hg hl' st
    have hb0 : InB low e (half low e 0 (nums g)) := by simpa using inB_half hb (.inl rfl)
    have hb1 := inB_half hb (m := 1) (.inr rfl)
    rw [Int.one_mul] at hb1
    have hc := cl_halves low e x (nums g)
    rw [wy, List.map_cons]
    rcases bit01 (low + 2 ^ e) x with c | c
    · rw [c] at hbx ⊢
      have hx2 : x < low + 2 ^ e := by simpa using hbx.2
      rw [cl_lo x (half low e 1 (nums g)) fun y hy => by have := hb1 y hy; omega, ← nums_hl low e 0 g hg] at hc
      obtain ⟨g', mk', ih⟩ := below_loop (n := n) (iw := iw) (ih := ih) hm hF ho ha st A C x e (low + 0 * 2 ^ e) (g.map (hl low e 0)) found (some (.int 0)) (by omega) hbx.1 hbx.2 (hgh 0) (by simpa using hl') (by rw [nums_hl low e 0 g hg]; exact inB_half hb (.inl rfl))
      refine ⟨g', mk', ?_⟩
      rw [hc, show cl x (nums (List.map (hl low e 0) g)) + 0 = cl x (nums (List.map (hl low e 0) g)) from rfl, ← ih]
      refine forL_nx ?_
      simp only [turn, b_below_1]
      simp! [l0, eqD_int, show decide ((0 : Int) = 1) = false from rfl]
    · rw [c] at hbx ⊢
      have hx2 : low + 2 ^ e ≤ x := by simpa using hbx.1
      have h0 : cl x (half low e 0 (nums g)) = (nums (g.map (hl low e 0))).length := by
        rw [nums_hl low e 0 g hg]
        exact cl_all x _ fun y hy => by have := hb0 y hy; omega
      have mo := fun st => many_ok (n := n + 2) hm e (low + 0 * 2 ^ e) (g.map (hl low e 0)) (hgh 0) (by simpa using hl') st
      rw [← nums_hl low e 1 g hg] at hc
      obtain ⟨g', mk', ih⟩ := below_loop (n := n) (iw := iw) (ih := ih) hm hF ho ha st A C x e (low + 1 * 2 ^ e) (g.map (hl low e 1)) (found + ((nums (g.map (hl low e 0))).length : Nat)) (some (.int 1)) (by omega) hbx.1 hbx.2 (hgh 1) (by simpa using hl') (by rw [nums_hl low e 1 g hg]; exact inB_half hb (.inr rfl))
      refine ⟨g', mk', ?_⟩
      rw [hc, h0, Int.natCast_add, ← Int.add_assoc, ← ih]
      refine forL_nx ?_
      simp only [turn, b_below_1]
      simp! [l0, l1, mo, tk_len, eqD_int, eq_self]
theorem eqD_bb : eqD (.str "below") (.str "below") = some true := by decide +kernel
theorem eqD_ab : eqD (.str "above") (.str "below") = some false := by decide +kernel
theorem eqD_wb : eqD (.str "within") (.str "below") = some false := by decide +kernel
theorem eqD_aa : eqD (.str "above") (.str "above") = some true := by decide +kernel
theorem eqD_wa : eqD (.str "within") (.str "above") = some false := by decide +kernel
theorem below_ok {Fs : List Fn} {n i iy iw it im il io ia : Nat} {rs : T} (hB : Fs[i]? = some (f_below iy iw im il)) (hy : Fs[iy]? = some (f_way_of rs iw)) (hw : Fs[iw]? = some (f_where it)) (ht : Fs[it]? = some f_top_of) (hm : Fs[im]? = some f_many_in) (hF : Fs[il]? = some (f_led io)) (ho : Fs[io]? = some (f_led_one ia)) (ha : Fs[ia]? = some f_ahead)
    (low : Int) (L : Nat) (hL : L ≤ 60) (g : List S3) (hg : ∀ x ∈ g, Good x) (hl' : g.length ≤ 1000) (hb : InB low L (nums g)) (x : Int) (st : Store) : cf Fs (n + 4) i [Bd low L, gaD L low g, .int x] st = .ok (.int (cl x (nums g) : Nat)) st := by
  rw [cf_at hB rfl]; simp only [f_below, t_below]
  have wh := fun st => where_ok (n := n + 1) hw ht low L hL x st
  have mo := fun st => many_ok (n := n + 2) hm L low g hg hl' st
  by_cases c1 : x < low
  · have wh : ∀ st, cf Fs (n + 3) iw [Bd low L, .int x] st = .ok (.str "below") st := fun st => by have := wh st; rw [if_pos c1] at this; exact this
    rw [cl_lo x (nums g) fun y hy => by have := hb y hy; omega]
    simp! [wh, tk_len, eqD_bb]
    rfl
  · by_cases c2 : low + 2 ^ L ≤ x
    · have wh : ∀ st, cf Fs (n + 3) iw [Bd low L, .int x] st = .ok (.str "above") st := fun st => by have := wh st; rw [if_neg c1, if_pos c2] at this; exact this
      rw [cl_all x (nums g) fun y hy => by have := hb y hy; omega]
      simp! [wh, tk_len, eqD_ab, eqD_aa, mo]
    · have wh : ∀ st, cf Fs (n + 3) iw [Bd low L, .int x] st = .ok (.str "within") st := fun st => by have := wh st; rw [if_neg c1, if_neg c2] at this; exact this
      have wa := fun st => way_ok (n := n) hy hw ht low L hL x (by omega) (by omega) st
      rw [wayD, way_wy L low x (by omega) (by omega)] at wa
      obtain ⟨g', mk', lp⟩ := below_loop (n := n) (iw := iy) (ih := iw) hm hF ho ha st (some (Bd low L)) (some (.int x)) x L low g 0 none hL (by omega) (by omega) hg hl' hb
      rw [Int.zero_add] at lp
      have wk : ∀ st, wkOf (.tup ((wy L low x).map .int)) st = .ok (.fix ((wy L low x).map .int)) st := fun _ => rfl
      simp! [wh, tk_len, eqD_wb, eqD_wa, wa, wk, lp]
theorem between_ok {Fs : List Fn} {n i j : Nat} (hF : Fs[i]? = some (f_between j)) (low : Int) (L : Nat) (g : List S3) (hb : ∀ (x : Int) (st : Store), cf Fs (n + 4) j [Bd low L, gaD L low g, .int x] st = .ok (.int (cl x (nums g) : Nat)) st) (a b : Int) (st : Store) :
    cf Fs (n + 5) i [Bd low L, gaD L low g, .int a, .int b] st = .ok (.int (((nums g).filter fun y => decide (a ≤ y) && decide (y ≤ b)).length : Nat)) st := by
  rw [cf_at hF rfl]; simp only [f_between, t_between]
  by_cases c : b < a
  · have : ((nums g).filter fun y => decide (a ≤ y) && decide (y ≤ b)) = [] := List.filter_eq_nil_iff.mpr fun y _ => by simp; omega
    rw [this]
    simp! [c]
    rfl
  · have : ∀ ns : List Int, (cl (b + 1) ns : Int) - cl a ns = ((ns.filter fun y => decide (a ≤ y) && decide (y ≤ b)).length : Nat) := by
      intro ns
      induction ns with
      | nil => rfl
      | cons y ns ih =>
        simp only [cl] at ih ⊢
        by_cases c1 : y < a
        · rw [List.filter_cons_of_pos (by simp; omega), List.filter_cons_of_pos (by simp; omega), List.filter_cons_of_neg (by simp; omega)]
          simp; omega
        · by_cases c2 : y ≤ b
          · rw [List.filter_cons_of_pos (by simp; omega), List.filter_cons_of_neg (by simp; omega), List.filter_cons_of_pos (by simp; omega)]
            simp; omega
          · rw [List.filter_cons_of_neg (by simp; omega), List.filter_cons_of_neg (by simp; omega), List.filter_cons_of_neg (by simp; omega)]
            omega
    simp! [c, hb, tk_len, this]
end Zn.PM

/-! PN: bounds, rows and stretches are drawn; their gathering; numbers drawn about them. -/
namespace Zn.PM
open PySem PySem.Spec PyProof.Rows L2 Zn Zn.PB Zn.PT Zn.PG
def rowD (r : List Int) : D := .lst (r.map .int)
def someD (x : Nat × Nat × Nat) : D := .tup [.int (x.1 : Nat), .int (x.2.1 : Nat), .int (x.2.2 : Nat)]
def OkSome (rows : List (List Int)) (x : Nat × Nat × Nat) : Prop := ∃ row, rows[x.1]? = some row ∧ x.2.1 ≤ x.2.2 ∧ x.2.2 ≤ row.length
theorem rowD_nr (rows : List (List Int)) : (rows.map rowD).all (fun d => !d.isRef) = true := by
  rw [List.all_eq_true]
  intro d hd
  obtain ⟨r, _, rfl⟩ := List.mem_map.mp hd
  rfl
theorem nat_of {v m : Int} (h0 : 0 ≤ v) (h1 : v < m) : ∃ V : Nat, v = V ∧ (V : Int) < m := ⟨v.toNat, by omega, by omega⟩
theorem drawn_turn {Fs : List Fn} {n ib iN it : Nat} (ht : Fs[it]? = some f__law_take) (A R : Store) (c q : Int) (hq0 : -1 ≤ q) (hq : q < 10 ^ 29) (rows : List (List Int)) (hr1 : 1 ≤ rows.length) (hr2 : rows.length ≤ 10) (hrl : ∀ r ∈ rows, r.length ≤ 500) (acc : List (Nat × Nat × Nat)) (hacc : acc.length < 1000) (j : Int) (g b k w s e : Option D) :
    ∃ (x : Nat × Nat × Nat) (c' q' : Int) (w' s' e' : Option D), turn (cf Fs (n + 1)) (.tnm 5) (b__law_drawn_2 ib iN it) (.int j) [some (.ref A.length), g, b, some (.lst (rows.map rowD)), some (.ref (A ++ penB c q :: R).length), k, w, s, e] (A ++ penB c q :: (R ++ [some (.lst (acc.map someD))])) =
      .nx [some (.ref A.length), g, b, some (.lst (rows.map rowD)), some (.ref (A ++ penB c q :: R).length), some (.int j), w', s', e'] (A ++ penB c' q' :: (R ++ [some (.lst ((acc ++ [x]).map someD))])) ∧ OkSome rows x ∧ -1 ≤ q' ∧ q' ≤ q + 4 := by
  have take := fun (c q : Int) (h0 : -1 ≤ q) (h : q < 10 ^ 30) (m : Int) (hm : 0 < m) (hm2 : m < 10 ^ 100) => takeB_ok (n := n) ht A (R ++ [some (.lst (acc.map someD))]) c q h0 h m hm hm2
  have gt : ∀ (x : Option Cell) (X : List D), (A ++ x :: (R ++ [some (.lst X)]))[(A ++ penB c q :: R).length]? = some (some (.lst X)) := by
    intro x X
    rw [List.getElem?_append_right (by simp)]
    simp
  have st' : ∀ (x : Option Cell) (X Y : List D), (A ++ x :: (R ++ [some (.lst X)])).set (A ++ penB c q :: R).length (some (.lst Y)) = A ++ x :: (R ++ [some (.lst Y)]) := by
    intro x X Y
    rw [List.set_append, if_neg (by simp)]
    simp
  have hl : (acc.map someD).length < 16777216 := by rw [List.length_map]; omega
  obtain ⟨w, c1, q1, e1, hw0, hw1, ha1, hb1⟩ := take c q hq0 (by omega) (rows.length : Int) (by omega) (by omega)
  obtain ⟨W, rfl, hW⟩ := nat_of hw0 hw1
  obtain ⟨row, hrow⟩ : ∃ row, rows[W]? = some row := ⟨rows[W]'(by omega), List.getElem?_eq_getElem (by omega)⟩
  have hlen := hrl row (List.mem_of_getElem? hrow)
  have hrD : (rows.map rowD)[W]? = some (.lst (row.map .int)) := by rw [List.getElem?_map, hrow]; rfl
  obtain ⟨s, c2, q2, e2, hs0, hs1, ha2, hb2⟩ := take c1 q1 ha1 (by omega) ((row.length : Int) + 1) (by omega) (by omega)
  obtain ⟨S, rfl, hS⟩ := nat_of hs0 hs1
  obtain ⟨t, c3, q3, e3, ht0, ht1, ha3, hb3⟩ := take c2 q2 ha2 (by omega) ((row.length : Int) + 1 - (S : Int)) (by omega) (by omega)
  obtain ⟨T', rfl, hT⟩ := nat_of ht0 ht1
  obtain ⟨u, c4, q4, e4, hu0, hu1, ha4, hb4⟩ := take c3 q3 ha3 (by omega) 3 (by omega) (by omega)
  simp only [turn, b__law_drawn_2]
  by_cases hu : u = 0
  · refine ⟨(W, 0, row.length), c4, q4, some (.int (W : Nat)), some (.int 0), some (.int (row.length : Nat)), ?_, ⟨row, hrow, Nat.zero_le _, Nat.le_refl _⟩, ha4, by omega⟩
    simp! [List.length_map, e1, tkB, hrD, e2, e3, e4, hu, eqD_int, eq_self, gt]
    simp! [List.length_map, st', show acc.length < 16777216 by omega, List.map_append]
    rfl
  · refine ⟨(W, S, S + T'), c4, q4, some (.int (W : Nat)), some (.int (S : Nat)), some (.int ((S : Nat) + (T' : Nat))), ?_, ⟨row, hrow, by simp, by simp only; omega⟩, ha4, by omega⟩
    simp! [List.length_map, e1, tkB, hrD, e2, e3, e4, hu, eqD_int, gt]
    simp! [List.length_map, st', show acc.length < 16777216 by omega, List.map_append]
    simp [someD]
theorem drawn_ok {Fs : List Fn} {n i ib iN it : Nat} (hF : Fs[i]? = some (f__law_drawn ib iN it)) (hB : Fs[ib]? = some (f__law_bounds it)) (hN : Fs[iN]? = some (f__law_numbers it)) (ht : Fs[it]? = some f__law_take) (A R : Store) (c q : Int) (hq0 : -1 ≤ q) (hq : q < 10 ^ 27) (G : Nat) (hG : G ≤ 60) :
    ∃ (low : Int) (L : Nat) (rows : List (List Int)) (so : List (Nat × Nat × Nat)) (c' q' : Int), (cf Fs (n + 3) i [.ref A.length, .int (G : Nat)] (A ++ penB c q :: R)).bind (callEnd false (A ++ penB c q :: R).length) = .ok (.tup [Bd low L, .lst (rows.map rowD), .lst (so.map someD)]) (A ++ penB c' q' :: R) ∧
      L ≤ 40 ∧ -10 ^ 40 < low ∧ low < 10 ^ 40 ∧ (∀ r ∈ rows, InB low L r ∧ r.length ≤ 60) ∧ 1 ≤ rows.length ∧ rows.length ≤ 3 ∧ (∀ x ∈ so, OkSome rows x) ∧ 1 ≤ so.length ∧ so.length ≤ 7 ∧ -1 ≤ q' ∧ q' ≤ q + 7000 := by
  rw [cf_at hF rfl]; simp only [f__law_drawn, t__law_drawn]
  obtain ⟨low, L, c1, q1, e1, hL, hl1, hl2, ha1, hb1⟩ := boundsB_ok (n := n) hB ht A R c q hq0 (by omega)
  obtain ⟨u, c2, q2, e2, hu0, hu1, ha2, hb2⟩ := takeB_ok (n := n + 1) ht A R c1 q1 ha1 (by omega) 3 (by omega) (by omega)
  obtain ⟨U, rfl, hU⟩ := nat_of hu0 hu1
  have hr1 : rngOk (1 + (U : Int)) = true := by simp only [rngOk, Bool.and_eq_true, decide_eq_true_eq]; omega
  obtain ⟨zs1, st2, e3, _, rows, c3, q3, rfl, rfl, hrows, hrl, ha3, hb3⟩ := compS_inv (F := cf Fs (n + 2)) (m := false) (tg := .tnm 5) (cond := .no) (elt := e__law_drawn_1 ib iN it) (env := [some (.ref A.length), some (.int (G : Nat)), some (.tup [.int low, .int (L : Nat)]), none, none, none, none, none, none]) (st := A ++ penB c2 q2 :: R) (xs := rngD 0 (1 + U))
    (fun i acc st => ∃ (rows : List (List Int)) (c3 q3 : Int), acc = rows.map rowD ∧ st = A ++ penB c3 q3 :: R ∧ (∀ r ∈ rows, InB low L r ∧ r.length ≤ 60) ∧ rows.length = i ∧ -1 ≤ q3 ∧ q3 ≤ q + 6 + 2001 * i)
    (by
      rintro x i acc st1 hx ⟨rows, c3, q3, rfl, rfl, hrows, hrl, h1, h2⟩ hl
      have hi : i < 1 + U := by simpa [rngD] using (List.getElem?_eq_some_iff.mp hx).1
      obtain ⟨j, rfl⟩ : ∃ j : Int, x = .int j := by
        simp only [rngD] at hx
        obtain ⟨q, _, rfl⟩ := List.mem_map.mp (List.mem_of_getElem? hx)
        exact ⟨_, rfl⟩
      obtain ⟨v, c4, q4, e4, hv0, hv1, ha4, hb4⟩ := takeB_ok (n := n + 1) ht A (R ++ [some (.lst (rows.map rowD))]) c3 q3 h1 (by omega) 4 (by omega) (by omega)
      obtain ⟨y, hy, hym⟩ := PA.atI_mem (xs := [D.int 12, .int 12, .int 4, .int (G : Nat)]) hv0 hv1
      obtain ⟨Y, rfl, hY⟩ : ∃ Y : Nat, y = .int Y ∧ Y ≤ 60 := by
        simp only [List.mem_cons, List.not_mem_nil, or_false] at hym
        rcases hym with rfl | rfl | rfl | rfl
        · exact ⟨12, rfl, by omega⟩
        · exact ⟨12, rfl, by omega⟩
        · exact ⟨4, rfl, by omega⟩
        · exact ⟨G, rfl, hG⟩
      obtain ⟨row, c5, q5, e5, hb5, hr5, ha5, hq5⟩ := numbers_ok (n := n) hN ht A (R ++ [some (.lst (rows.map rowD))]) c4 q4 ha4 (by omega) low L (by omega) Y (by omega) false
      rw [mk_false, bd_eq] at e5
      refine ⟨some (rowD row), A ++ penB c5 q5 :: R, ?_, by simp, fun d h => by cases h; rfl, rows ++ [row], c5, q5, by simp, rfl, ?_, by simp [hrl], ha5, by omega⟩
      · rw [show (A ++ penB c3 q3 :: R) ++ [some (Cell.lst (rows.map rowD))] = A ++ penB c3 q3 :: (R ++ [some (.lst (rows.map rowD))]) by simp]
        simp only [e__law_drawn_1]
        simp! [e4, tkB, hy, e5]
        simp [rowD]
      · intro r hr
        rcases List.mem_append.mp hr with hr | hr
        · exact hrows r hr
        · rw [List.mem_singleton.mp hr]; exact ⟨hb5, by omega⟩) (by rw [PA.rngD_len]; simp only [sizeLine]; omega) ⟨[], c2, q2, rfl, rfl, by simp, rfl, ha2, by omega⟩
  rw [PA.rngD_len] at hrl hb3
  rw [mk_false] at e3
  obtain ⟨v, c4, q4, e4, hv0, hv1, ha4, hb4⟩ := takeB_ok (n := n + 1) ht A (R ++ [some (.lst [])]) c3 q3 ha3 (by omega) 4 (by omega) (by omega)
  obtain ⟨w, c5, q5, e5, hw0, hw1, ha5, hb5⟩ := takeB_ok (n := n + 1) ht A (R ++ [some (.lst [])]) c4 q4 ha4 (by omega) 2 (by omega) (by omega)
  obtain ⟨N, hN'⟩ : ∃ N : Nat, (N : Int) = 1 + v * (1 + w) := ⟨(1 + v * (1 + w)).toNat, by
    have : 0 ≤ v * (1 + w) := Int.mul_nonneg hv0 (by omega)
    omega⟩
  have hN7 : 1 ≤ N ∧ N ≤ 7 := by
    have h1 : 0 ≤ v * (1 + w) := Int.mul_nonneg hv0 (by omega)
    have h2 : v * (1 + w) ≤ 3 * 2 := Int.mul_le_mul (by omega) (by omega) (by omega) (by omega)
    omega
  have hr2 : rngOk (N : Int) = true := by simp only [rngOk, Bool.and_eq_true, decide_eq_true_eq]; omega
  obtain ⟨env, st, e7, so, c7, q7, k7, w7, s7, t7, rfl, rfl, hso, hsl, hq7, hq7'⟩ := forL_all (body := turn (cf Fs (n + 2)) (T.tnm 5) (b__law_drawn_2 ib iN it)) (xs := rngD 0 N) (env := [some (.ref A.length), some (.int (G : Nat)), some (.tup [.int low, .int (L : Nat)]), some (.lst (rows.map rowD)), some (.ref (A ++ penB c3 q3 :: R).length), none, none, none, none]) (st := A ++ penB c5 q5 :: (R ++ [some (.lst [])]))
    (fun i env st => ∃ (so : List (Nat × Nat × Nat)) (c' q' : Int) (k w s t : Option D), env = [some (.ref A.length), some (.int (G : Nat)), some (.tup [.int low, .int (L : Nat)]), some (.lst (rows.map rowD)), some (.ref (A ++ penB c3 q3 :: R).length), k, w, s, t] ∧ st = A ++ penB c' q' :: (R ++ [some (.lst (so.map someD))]) ∧ (∀ x ∈ so, OkSome rows x) ∧ so.length = i ∧ -1 ≤ q' ∧ q' ≤ q3 + 2 + 4 * i) (by
      rintro y i env st hy ⟨so, c7, q7, k, w, s, t, rfl, rfl, hso, hsl, h1, h2⟩
      have hi : i < N := by simpa [rngD] using (List.getElem?_eq_some_iff.mp hy).1
      obtain ⟨j, rfl⟩ : ∃ j : Int, y = .int j := by
        simp only [rngD] at hy
        obtain ⟨q, _, rfl⟩ := List.mem_map.mp (List.mem_of_getElem? hy)
        exact ⟨_, rfl⟩
      obtain ⟨x, c8, q8, w', s', t', h, hx, h5, h6⟩ := drawn_turn (n := n + 1) (ib := ib) (iN := iN) ht A R c7 q7 h1 (by omega) rows (by omega) (by omega) (fun r hr => by have := (hrows r hr).2; omega) so (by omega) j (some (.int (G : Nat))) (some (.tup [.int low, .int (L : Nat)])) k w s t
      have e : ∀ x y : Option Cell, (A ++ x :: R).length = (A ++ y :: R).length := fun x y => by simp
      rw [e (penB c7 q7) (penB c3 q3)] at h
      refine ⟨_, _, .inl h, so ++ [x], c8, q8, _, _, _, _, rfl, rfl, ?_, by simp [hsl], h5, by omega⟩
      intro z hz
      rcases List.mem_append.mp hz with hz | hz
      · exact hso z hz
      · rw [List.mem_singleton.mp hz]; exact hx) ⟨[], c5, q5, none, none, none, none, rfl, rfl, by simp, rfl, ha5, by omega⟩
  rw [PA.rngD_len] at hsl hq7'
  refine ⟨low, L, rows, so, c7, q7, ?_, hL, hl1, hl2, hrows, by omega, by omega, hso, by omega, by omega, hq7, by omega⟩
  rw [bd_eq] at e1 ⊢
  have lr : (A ++ penB c3 q3 :: R) ++ [some (Cell.lst [])] = A ++ penB c3 q3 :: (R ++ [some (.lst [])]) := by simp
  have mg : (A ++ penB c7 q7 :: (R ++ [some (Cell.lst (so.map someD))]))[(A ++ penB c3 q3 :: R).length]? = some (some (.lst (so.map someD))) := by
    rw [List.getElem?_append_right (by simp)]
    simp
  have ms : ∀ x, (A ++ penB c7 q7 :: (R ++ [some (Cell.lst (so.map someD))])).set (A ++ penB c3 q3 :: R).length x = A ++ penB c7 q7 :: (R ++ [x]) := by
    intro x
    rw [List.set_append, if_neg (by simp)]
    simp
  have hU1 : (1 + (U : Int)).toNat = 1 + U := by omega
  simp! [e1, tkB, e2, rngF, rng1F, hr1, hU1, e3, lr]
  ((try simp! [e4, e5, tkB]); (repeat (walk_at "zo"; try simp! [e4, e5, tkB])))
  rw [← hN']
  simp! [rngF, rng1F, hr2, Int.toNat_natCast, e7, mg, ms]
  simp [List.take_append]
  exact List.take_of_length_le (by omega)

/-! ### the gathering -/
def gath (rows : List (List Int)) (so : List (Nat × Nat × Nat)) : List S3 := so.map fun x => (rows.getD x.1 [], x.2.1, x.2.2)
theorem row_at {rows : List (List Int)} {x : Nat × Nat × Nat} (h : OkSome rows x) : rows[x.1]? = some (rows.getD x.1 []) ∧ x.2.1 ≤ x.2.2 ∧ x.2.2 ≤ (rows.getD x.1 []).length := by
  obtain ⟨row, h1, h2, h3⟩ := h
  have : rows.getD x.1 [] = row := by rw [List.getD, h1]; rfl
  rw [this]
  exact ⟨h1, h2, h3⟩
theorem gath_good {rows : List (List Int)} {so : List (Nat × Nat × Nat)} (h : ∀ x ∈ so, OkSome rows x) : ∀ x ∈ gath rows so, Good x := fun x hx => by
  obtain ⟨y, hy, rfl⟩ := List.mem_map.mp hx
  exact (row_at (h y hy)).2
theorem nums_mem {g : List S3} {y : Int} (h : y ∈ nums g) : ∃ x ∈ g, y ∈ x.1 := by
  rw [nums, List.mem_flatten] at h
  obtain ⟨l, hl, hy⟩ := h
  obtain ⟨x, hx, rfl⟩ := List.mem_map.mp hl
  exact ⟨x, hx, List.mem_of_mem_drop (List.mem_of_mem_take hy)⟩
theorem gath_inB {rows : List (List Int)} {so : List (Nat × Nat × Nat)} {low : Int} {L : Nat} (h : ∀ x ∈ so, OkSome rows x) (hb : ∀ r ∈ rows, InB low L r) : InB low L (nums (gath rows so)) := fun y hy => by
  obtain ⟨x, hx, hy⟩ := nums_mem hy
  obtain ⟨z, hz, rfl⟩ := List.mem_map.mp hx
  exact hb _ (List.mem_of_getElem? (row_at (h z hz)).1) y hy
theorem gathering_ok {Fs : List Fn} {n i it ig : Nat} (hF : Fs[i]? = some (f__law_gathering it)) (hT : Fs[it]? = some (PG.f__law_tree ig)) (hg : Fs[ig]? = some (f__law_grown ig)) (low : Int) (L : Nat) (hL : L ≤ 60) (rows : List (List Int)) (hrl : ∀ r ∈ rows, r.length ≤ 100000) (hr : rows.length ≤ 1000) (so : List (Nat × Nat × Nat)) (hso : ∀ x ∈ so, OkSome rows x) (hsl : so.length ≤ 1000) (m : Bool) (st : Store) :
    (cf Fs (n + L + 3) i [Bd low L, .lst (rows.map rowD), .lst (so.map someD)] st).bind (callEnd m st.length) = mk m ((gath rows so).map (stD L low)) st := by
  rw [cf_at hF rfl]; simp only [f__law_gathering, t__law_gathering]
  have c1 := comp_on (F := cf Fs (n + L + 2)) (m := false) (tg := .tnm 4) (cond := .no) (elt := e__law_gathering_1 it) (env := [some (Bd low L), some (.lst (rows.map rowD)), some (.lst (so.map someD)), none, none, none, none, none]) (st := st) (xs := rows) rowD (fun _ => true)
    (fun r => treeD L low r) (fun _ => tree_noref _ _ _) (fun r hr acc => by
      have lo := fun st => treeB_ok (n := n) hT hg L low r st hL (hrl r hr)
      simp only [e__law_gathering_1, rowD]
      simp! [lo, ce_dat _ _ _ (tree_noref _ _ _), tk_len]) (by simp only [sizeLine]; omega)
  rw [filter_tt, mk_false] at c1
  have c2 := comp_on (F := cf Fs (n + L + 2)) (m := true) (tg := .ttp (.cons (.tnm 5) (.cons (.tnm 6) (.cons (.tnm 7) .nil)))) (cond := .no) (elt := e__law_gathering_2 it) (env := [some (Bd low L), some (.lst (rows.map rowD)), some (.lst (so.map someD)), some (.lst (rows.map (treeD L low))), none, none, none, none]) (st := st) (xs := so) someD (fun _ => true)
    (fun x => stD L low (rows.getD x.1 [], x.2.1, x.2.2)) (fun _ => rfl) (fun x hx acc => by
      have h := (row_at (hso x hx)).1
      have ht : (rows.map (treeD L low))[x.1]? = some (treeD L low (rows.getD x.1 [])) := by rw [List.getElem?_map, h]; rfl
      simp only [e__law_gathering_2, someD]
      simp! [ht, tree_noref]
      rfl) (by simp only [sizeLine]; omega)
  rw [filter_tt, mk_true] at c2
  simp! [wk_lst', c1, c2]
  rw [ce_new, gath, List.map_map]
  rfl
/-! ### a number about them -/
theorem some_number_ok {Fs : List Fn} {n i it : Nat} (hF : Fs[i]? = some (f__law_some_number it)) (ht : Fs[it]? = some f__law_take) (A R : Store) (c q : Int) (hq0 : -1 ≤ q) (hq : q < 10 ^ 28) (low : Int) (L : Nat) (hL : L ≤ 60) (rows : List (List Int)) (hr1 : 1 ≤ rows.length) (hr2 : rows.length ≤ 1000) (hrl : ∀ r ∈ rows, r.length ≤ 1000) :
    ∃ x c' q' : Int, cf Fs (n + 2) i [.ref A.length, Bd low L, .lst (rows.map rowD)] (A ++ penB c q :: R) = .ok (.int x) (A ++ penB c' q' :: R) ∧ -1 ≤ q' ∧ q' ≤ q + 6 := by
  have take := fun (c q : Int) (h0 : -1 ≤ q) (h : q < 10 ^ 30) (m : Int) (hm : 0 < m) (hm2 : m < 10 ^ 100) => takeB_ok (n := n) ht A R c q h0 h m hm hm2
  have hp := pow2 hL
  have h1L : (1 : Int) * 2 ^ ((L : Int)).toNat = 2 ^ L := by simp
  rw [cf_at hF rfl]; simp only [f__law_some_number, t__law_some_number]
  obtain ⟨w, c1, q1, e1, hw0, hw1, ha1, hb1⟩ := take c q hq0 (by omega) 8 (by omega) (by omega)
  obtain ⟨v, c2, q2, e2, hv0, hv1, ha2, hb2⟩ := take c1 q1 ha1 (by omega) (rows.length : Int) (by omega) (by omega)
  obtain ⟨V, rfl, hV⟩ := nat_of hv0 hv1
  obtain ⟨row, hrow⟩ : ∃ row, rows[V]? = some row := ⟨rows[V]'(by omega), List.getElem?_eq_getElem (by omega)⟩
  have hlen := hrl row (List.mem_of_getElem? hrow)
  have hrD : (rows.map rowD)[V]? = some (.lst (row.map .int)) := by rw [List.getElem?_map, hrow]; rfl
  obtain ⟨u, c3, q3, e3, hu0, hu1, ha3, hb3⟩ := take c2 q2 ha2 (by omega) (2 ^ L) hp.1 (by omega)
  have e0 := eqD_nil (Pl.ints (k := 63) row)
  rw [bd_eq]
  have back : ∀ (k m : Int), 0 < m → m < 10 ^ 100 → ∀ (xs : List D), (m : Int) ≤ xs.length → ∃ v c4 q4 : Int, cf Fs (n + 1) it [.ref A.length, .int m] (A ++ penB c3 q3 :: R) = .ok (.int v) (A ++ penB c4 q4 :: R) ∧ (∃ y, atI xs v = some y ∧ y ∈ xs) ∧ -1 ≤ q4 ∧ q4 ≤ q3 + 1 := by
    intro k m hm hm2 xs hx
    obtain ⟨v, c4, q4, e4, hv0, hv1, ha4, hb4⟩ := take c3 q3 ha3 (by omega) m hm hm2
    exact ⟨v, c4, q4, e4, PA.atI_mem hv0 (by omega), ha4, hb4⟩
  have rest : (¬ w < 4 ∨ row = []) → ∃ x c' q' : Int, (ex (cf Fs (n + 1)) (r__law_some_number it) [some (.ref A.length), some (.tup [.int low, .int (L : Nat)]), some (.lst (rows.map rowD)), some (.int w), some (.lst (row.map .int)), some (.int (low + u))] (A ++ penB c3 q3 :: R)) = .rt (.int x) (A ++ penB c' q' :: R) ∧ -1 ≤ q' ∧ q' ≤ q + 6 := by
    intro _
    by_cases c4 : w = 4
    · obtain ⟨v, c5, q5, e5, ⟨y, hy, hym⟩, ha5, hb5⟩ := back 0 3 (by omega) (by omega) [D.int (-1), .int 0, .int 1] (by simp)
      obtain ⟨z, rfl⟩ : ∃ z : Int, y = .int z := by
        simp only [List.mem_cons, List.not_mem_nil, or_false] at hym
        rcases hym with rfl | rfl | rfl <;> exact ⟨_, rfl⟩
      refine ⟨low + z, c5, q5, ?_, ha5, by omega⟩
      simp only [r__law_some_number]
      simp! [c4, eqD_int, eq_self, e5, tkB, hy]
    · by_cases c5 : w = 5
      · obtain ⟨v, c6, q6, e6, ⟨y, hy, hym⟩, ha6, hb6⟩ := back 0 3 (by omega) (by omega) [D.int (-1), .int 0, .int (-2)] (by simp)
        obtain ⟨z, rfl⟩ : ∃ z : Int, y = .int z := by
          simp only [List.mem_cons, List.not_mem_nil, or_false] at hym
          rcases hym with rfl | rfl | rfl <;> exact ⟨_, rfl⟩
        refine ⟨low + 2 ^ L + z, c6, q6, ?_, ha6, by omega⟩
        simp only [r__law_some_number]
        simp! [c4, c5, eqD_int, eq_self, show decide ((5 : Int) = 4) = false from rfl]
        ((try simp! [h1L, e6, tkB, hy]); (repeat (walk_at "zo"; try simp! [h1L, e6, tkB, hy])))
      · by_cases c6 : w = 6
        · obtain ⟨v, c7, q7, e7, ⟨y, hy, hym⟩, ha7, hb7⟩ := back 0 2 (by omega) (by omega) [D.int (-1), .int 1] (by simp)
          obtain ⟨z, rfl, hz⟩ : ∃ z : Int, y = .int z ∧ (z = -1 ∨ z = 1) := by
            simp only [List.mem_cons, List.not_mem_nil, or_false] at hym
            rcases hym with rfl | rfl
            · exact ⟨_, rfl, .inl rfl⟩
            · exact ⟨_, rfl, .inr rfl⟩
          obtain ⟨t, c8, q8, e8, ht0, ht1, ha8, hb8⟩ := take c7 q7 ha7 (by omega) 10000000000000000000000000000000000000000 (by omega) (by omega)
          refine ⟨z * (100000000000000000000000000000000000000000 + t), c8, q8, ?_, ha8, by omega⟩
          simp only [r__law_some_number]
          simp! [c6, eqD_int, eq_self, show decide ((6 : Int) = 4) = false from rfl, show decide ((6 : Int) = 5) = false from rfl, e7, tkB, hy]
          ((try simp! [e8, tkB]); (repeat (walk_at "zo"; try simp! [e8, tkB])))
        · refine ⟨low + u, c3, q3, ?_, ha3, by omega⟩
          simp only [r__law_some_number]
          simp! [c4, c5, c6, eqD_int]
  by_cases c4 : w < 4
  · by_cases hn : row = []
    · have e1' : (row.map D.int).isEmpty = true := by rw [hn]; rfl
      obtain ⟨x, c', q', h1, h2, h3⟩ := rest (.inr hn)
      refine ⟨x, c', q', ?_, h2, h3⟩
      simp! [e1, tkB, e2, List.length_map, hrD]
      ((try simp! [h1L, e3, tkB, c4, e0, e1']); (repeat (walk_at "zo"; try simp! [h1L, e3, tkB, c4, e0, e1'])))
      simp! [h1]
    · have e1' : (row.map D.int).isEmpty = false := by cases row with
        | nil => exact absurd rfl hn
        | cons _ _ => rfl
      have hpos : 0 < row.length := List.length_pos_iff.mpr hn
      obtain ⟨v, c5, q5, e5, ⟨y, hy, hym⟩, ha5, hb5⟩ := back 0 (row.length : Int) (by omega) (by omega) (row.map D.int) (by simp)
      obtain ⟨z, _, rfl⟩ := List.mem_map.mp hym
      obtain ⟨y2, hy2, hym2⟩ := PA.atI_mem (xs := [D.int 0, .int 1, .int (-1), .int 0]) hw0 c4
      obtain ⟨z2, rfl⟩ : ∃ z : Int, y2 = .int z := by
        simp only [List.mem_cons, List.not_mem_nil, or_false] at hym2
        rcases hym2 with rfl | rfl | rfl | rfl <;> exact ⟨_, rfl⟩
      refine ⟨z + z2, c5, q5, ?_, ha5, by omega⟩
      simp! [e1, tkB, e2, List.length_map, hrD]
      ((try simp! [h1L, e3, tkB, c4, e0, e1', List.length_map, e5, hy, hy2]); (repeat (walk_at "zo"; try simp! [h1L, e3, tkB, c4, e0, e1', List.length_map, e5, hy, hy2])))
  · obtain ⟨x, c', q', h1, h2, h3⟩ := rest (.inl c4)
    refine ⟨x, c', q', ?_, h2, h3⟩
    simp! [e1, tkB, e2, List.length_map, hrD]
    ((try simp! [h1L, e3, tkB, c4]); (repeat (walk_at "zo"; try simp! [h1L, e3, tkB, c4])))
    simp! [h1]
end Zn.PM

/-! PO: the things of stretches, in order. -/
namespace Zn.PM
open PySem PySem.Spec PyProof.Rows L2 Zn Zn.PB Zn.PT Zn.PG
/-- the things of one stretch: worth, number of the stretch, place -/
def thA (j : Nat) (x : S3) : List (List Int) := (List.range (x.2.2 - x.2.1)).map fun i => [x.1.getD (x.2.1 + i) 0, (j : Int), ((x.2.1 + i : Nat) : Int)]
def thg : Nat → List S3 → List (List Int)
  | _, [] => []
  | j, x :: g => thA j x ++ thg (j + 1) g
theorem thg_app : ∀ (a b : List S3) (j : Nat), thg j (a ++ b) = thg j a ++ thg (j + a.length) b
  | [], b, j => by simp [thg]
  | x :: a, b, j => by simp only [List.cons_append, thg, thg_app a b, List.length_cons, List.append_assoc]; rw [show j + 1 + a.length = j + (a.length + 1) by omega]
theorem thA_len (j : Nat) (x : S3) : (thA j x).length = x.2.2 - x.2.1 := by simp [thA]
def hd0 (t : List Int) : Int := t.headD 0
theorem thA_fst (j : Nat) (x : S3) (hg : Good x) : (thA j x).map hd0 = seg x := by
  obtain ⟨row, s, t⟩ := x
  obtain ⟨h1, h2⟩ := hg
  simp only at h1 h2
  simp only [thA, List.map_map, seg]
  apply List.ext_getElem
  · simp; omega
  · intro i h3 h4
    simp at h3 h4
    simp only [List.getElem_map, List.getElem_range, Function.comp, hd0, List.headD, List.getElem_take, List.getElem_drop]
    rw [List.getD_eq_getElem?_getD, List.getElem?_eq_getElem (by omega)]
    rfl
theorem thg_fst : ∀ (g : List S3) (j : Nat), (∀ x ∈ g, Good x) → (thg j g).map hd0 = nums g
  | [], _, _ => rfl
  | x :: g, j, h => by
    rw [thg, List.map_append, thA_fst j x (h x (by simp)), thg_fst g (j + 1) fun y hy => h y (by simp [hy]), nums, nums, List.map_cons, List.flatten_cons]
theorem thg_ne : ∀ (g : List S3) (j : Nat), ∀ t ∈ thg j g, t ≠ []
  | [], _, t, h => absurd h (by simp [thg])
  | x :: g, j, t, h => by
    rw [thg, List.mem_append] at h
    rcases h with h | h
    · simp only [thA, List.mem_map] at h
      obtain ⟨i, _, rfl⟩ := h
      simp
    · exact thg_ne g (j + 1) t h
theorem nums_len : ∀ g : List S3, (∀ x ∈ g, Good x) → ∀ B, (∀ x ∈ g, x.1.length ≤ B) → (nums g).length ≤ B * g.length
  | [], _, B, _ => by simp [nums]
  | x :: g, h, B, hB => by
    have ih := nums_len g (fun y hy => h y (by simp [hy])) B fun y hy => hB y (by simp [hy])
    have h1 := seg_len (h x (by simp))
    have h2 := hB x (by simp)
    have h3 := (h x (by simp)).2
    rw [nums, List.map_cons, List.flatten_cons, List.length_append, h1, List.length_cons, Nat.mul_succ]
    rw [nums] at ih
    omega
theorem ext_at {st : Store} {l : Nat} {xs ys : List D} (h : st[l]? = some (some (.lst xs))) (hs : xs.length + ys.length ≤ 16777216) : mthF .extend (.ref l) [.lst ys] st = .ok .non (st.set l (some (.lst (xs ++ ys)))) := by
  simp only [mthF, h, lstOf]
  exact if_pos hs
theorem things_turn (F : CallF) (rows : List (List Int)) (so : List (Nat × Nat × Nat)) (hso : ∀ x ∈ so, OkSome rows x) (hrl : ∀ r ∈ rows, r.length ≤ 1000) (st : Store) (j : Nat) (x : Nat × Nat × Nat) (hx : so[j]? = some x) (acc : List (List Int)) (hacc : acc.length ≤ 1000000) (k w s e : Option D) :
    ∃ w' s' e' : Option D, turn F (.tnm 3) b__law_things_2 (.int (j : Nat)) [some (.lst (rows.map rowD)), some (.lst (so.map someD)), some (.ref st.length), k, w, s, e, none] (st ++ [some (.lst (acc.map tupD))]) =
      .nx [some (.lst (rows.map rowD)), some (.lst (so.map someD)), some (.ref st.length), some (.int (j : Nat)), w', s', e', none] (st ++ [some (.lst ((acc ++ thA j (rows.getD x.1 [], x.2.1, x.2.2)).map tupD))]) := by
  obtain ⟨h1, h2, h3⟩ := row_at (hso x (List.mem_of_getElem? hx))
  have hlen := hrl _ (List.mem_of_getElem? h1)
  obtain ⟨row, hrow⟩ : ∃ row, row = rows.getD x.1 [] := ⟨_, rfl⟩
  rw [← hrow] at h1 h3 hlen ⊢
  have hg : (so.map someD)[j]? = some (someD x) := by rw [List.getElem?_map, hx]; rfl
  have hrD : (rows.map rowD)[x.1]? = some (.lst (row.map .int)) := by rw [List.getElem?_map, h1]; rfl
  have r1 : rngOk ((x.2.1 : Nat) : Int) = true := by simp only [rngOk, Bool.and_eq_true, decide_eq_true_eq]; omega
  have r2 : rngOk ((x.2.2 : Nat) : Int) = true := by simp only [rngOk, Bool.and_eq_true, decide_eq_true_eq]; omega
  have rn : (((x.2.2 : Nat) : Int) - ((x.2.1 : Nat) : Int)).toNat = x.2.2 - x.2.1 := by omega
  have er : rngD ((x.2.1 : Nat) : Int) (x.2.2 - x.2.1) = (List.range (x.2.2 - x.2.1)).map fun (i : Nat) => D.int ((x.2.1 + i : Nat) : Int) := by
    rw [rngD]
    apply List.map_congr_left
    intro i _
    simp
  have cp := fun (W : Option D) (S : D) => comp_on (F := F) (m := false) (tg := .tnm 7) (cond := .no) (elt := e__law_things_1) (env := [some (.lst (rows.map rowD)), some (.lst (so.map someD)), some (.ref st.length), some (.int (j : Nat)), some (.int (x.1 : Nat)), W, some S, none]) (st := st ++ [some (.lst (acc.map tupD))]) (xs := List.range (x.2.2 - x.2.1)) (fun (i : Nat) => D.int ((x.2.1 + i : Nat) : Int)) (fun _ => true)
    (fun i => tupD [row.getD (x.2.1 + i) 0, (j : Int), ((x.2.1 + i : Nat) : Int)]) (fun _ => rfl) (fun i hi acc' => by
      have hi := List.mem_range.mp hi
      have hv : (row.map D.int)[x.2.1 + i]? = some (.int (row.getD (x.2.1 + i) 0)) := by
        rw [List.getElem?_map, List.getD_eq_getElem?_getD, List.getElem?_eq_getElem (by omega)]
        rfl
      simp only [e__law_things_1]
      simp! [hrD, hv, ← Int.natCast_add]
      rfl) (by simp only [sizeLine, List.length_range]; omega)
  refine ⟨some (.int (x.1 : Nat)), some (.int (x.2.1 : Nat)), some (.int (x.2.2 : Nat)), ?_⟩
  simp only [turn, b__law_things_2]
  simp! [hg, someD, rngF, rng2F, r1, r2, rn, er, cp, filter_tt]
  rw [ext_at (xs := acc.map tupD) (by simp) (by simp; omega)]
  simp! [mid_set]
  rw [List.map_append, thA, List.map_map]
  rfl
theorem things_ok {Fs : List Fn} {n i : Nat} (hF : Fs[i]? = some f__law_things) (rows : List (List Int)) (hrl : ∀ r ∈ rows, r.length ≤ 1000) (so : List (Nat × Nat × Nat)) (hso : ∀ x ∈ so, OkSome rows x) (hsl : so.length ≤ 100) (m : Bool) (st : Store) :
    (cf Fs (n + 1) i [.lst (rows.map rowD), .lst (so.map someD)] st).bind (callEnd false st.length) = .ok (.lst ((srtT (thg 0 (gath rows so))).map tupD)) st := by
  rw [cf_at hF rfl]; simp only [f__law_things, t__law_things]
  have r0 : rngOk (so.length : Int) = true := by simp only [rngOk, Bool.and_eq_true, decide_eq_true_eq]; omega
  have gg := gath_good hso
  have gl : ∀ x ∈ gath rows so, x.1.length ≤ 1000 := fun x hx => by
    obtain ⟨y, hy, rfl⟩ := List.mem_map.mp hx
    exact hrl _ (List.mem_of_getElem? (row_at (hso y hy)).1)
  have tl : ∀ i : Nat, (thg 0 (gath rows (so.take i))).length ≤ 100000 := fun i => by
    have h1 : ∀ x ∈ so.take i, OkSome rows x := fun x hx => hso x (List.mem_of_mem_take hx)
    have h2 : (thg 0 (gath rows (so.take i))).length = (nums (gath rows (so.take i))).length := by
      rw [← thg_fst _ 0 (gath_good h1), List.length_map]
    have h3 := nums_len (gath rows (so.take i)) (gath_good h1) 1000 fun x hx => by
      obtain ⟨y, hy, rfl⟩ := List.mem_map.mp hx
      exact hrl _ (List.mem_of_getElem? (row_at (h1 y hy)).1)
    have h4 : (gath rows (so.take i)).length ≤ so.length := by simp [gath]; omega
    omega
  obtain ⟨env, st', e7, k7, w7, s7, t7, rfl, rfl⟩ := forL_all (body := turn (cf Fs n) (T.tnm 3) b__law_things_2) (xs := rngD 0 so.length) (env := [some (.lst (rows.map rowD)), some (.lst (so.map someD)), some (.ref st.length), none, none, none, none, none]) (st := st ++ [some (.lst [])])
    (fun i env st' => ∃ k w s t : Option D, env = [some (.lst (rows.map rowD)), some (.lst (so.map someD)), some (.ref st.length), k, w, s, t, none] ∧ st' = st ++ [some (.lst ((thg 0 (gath rows (so.take i))).map tupD))]) (by
      rintro y i env st' hy ⟨k, w, s, t, rfl, rfl⟩
      have hi : i < so.length := by simpa [rngD] using (List.getElem?_eq_some_iff.mp hy).1
      have ey : y = .int (i : Nat) := by
        simp only [rngD, List.getElem?_map, List.getElem?_range hi, Option.map_some, Int.zero_add, Option.some.injEq] at hy
        exact hy.symm
      subst ey
      obtain ⟨w', s', t', h⟩ := things_turn (cf Fs n) rows so hso hrl st i so[i] (List.getElem?_eq_getElem hi) (thg 0 (gath rows (so.take i))) (by have := tl i; omega) k w s t
      refine ⟨_, _, .inl h, _, _, _, _, rfl, ?_⟩
      have tk : so.take (i + 1) = so.take i ++ [so[i]] := by rw [List.take_add_one, List.getElem?_eq_getElem hi]; rfl
      have gl : (gath rows (so.take i)).length = i := by simp [gath]; omega
      rw [tk, show gath rows (so.take i ++ [so[i]]) = gath rows (so.take i) ++ [(rows.getD so[i].1 [], so[i].2.1, so[i].2.2)] by rw [gath, List.map_append]; rfl, thg_app, gl]
      simp [thg]) ⟨none, none, none, none, rfl, by simp [gath, thg]⟩
  rw [PA.rngD_len, List.take_length] at e7
  have sr := fun (l : Nat) (st : Store) (h : lstOf st (.ref l) = some ((thg 0 (gath rows so)).map tupD)) => sortedL_tups st false (.ref l) (thg 0 (gath rows so)) (thg_ne _ 0) h
  simp! [List.length_map, rngF, rng1F, r0, Int.toNat_natCast, e7]
  rw [sr st.length _ (by simp [lstOf, Cell.xs])]
  simp! []
/-- the worths of the things, in order -/
def wts (g : List S3) : List Int := (srtT (thg 0 g)).map hd0
theorem wts_perm {g : List S3} (h : ∀ x ∈ g, Good x) : (wts g).Perm (nums g) := by
  rw [← thg_fst g 0 h]
  exact (srtT_perm _).map _
theorem tup_hd {g : List S3} {t : List Int} (h : t ∈ srtT (thg 0 g)) : (t.map D.int)[0]? = some (.int (hd0 t)) := by
  have := thg_ne g 0 t ((srtT_perm _).mem_iff.mp h)
  cases t with
  | nil => exact absurd rfl this
  | cons x t => rfl
theorem filt_wts {g : List S3} (h : ∀ x ∈ g, Good x) (p : Int → Bool) : ((wts g).filter p).length = ((nums g).filter p).length := ((wts_perm h).filter p).length_eq
theorem isn_ok {Fs : List Fn} {n i : Nat} (hF : Fs[i]? = some f__law_is_number) (x : Int) (st : Store) : cf Fs (n + 1) i [.int x] st = .ok (.bl true) st := by
  rw [cf_at hF rfl]; simp only [f__law_is_number, t__law_is_number]
  simp! []
theorem len_lst' (xs : List D) (m : Bool) (st : Store) : bltF .len m [.lst xs] st = .ok (.int (xs.length : Nat)) st := rfl
theorem slc_rf {st : Store} {l : Nat} {xs : List D} (h : lstOf st (.ref l) = some xs) (m : Bool) (lo hi : Option Int) : slcF m (.ref l) lo hi st = mk m (cutD xs lo hi) st := by
  simp only [slcF, h]
theorem add_rl {st : Store} {l : Nat} {xs ys : List D} (h : lstOf st (.ref l) = some xs) (m : Bool) (hs : xs.length + ys.length ≤ 16777216) : binF m .Add (.ref l) (.lst ys) st = mk m (xs ++ ys) st := by
  simp only [binF, addF, h, show lstOf st (.lst ys) = some ys from rfl]
  exact if_pos hs
end Zn.PM

/-! PQ: the so-many-th thing, ranks. -/
namespace Zn.PM
open PySem PySem.Spec PyProof.Rows L2 Zn Zn.PB Zn.PT Zn.PG
/-! ### things in order -/
theorem nums_cons (x : S3) (g : List S3) : nums (x :: g) = seg x ++ nums g := by simp [nums]
def eqc (w : Int) (ns : List Int) : Nat := (ns.filter fun y => decide (y = w)).length
def cT (t : List Int) (l : List (List Int)) : Nat := (l.filter fun u => HT.lexLt u t).length
theorem cT_app (t : List Int) (a b : List (List Int)) : cT t (a ++ b) = cT t a + cT t b := by simp [cT]
theorem cT_cons (t u : List Int) (l : List (List Int)) : cT t (u :: l) = (if HT.lexLt u t = true then 1 else 0) + cT t l := by
  simp only [cT, List.filter_cons]
  split <;> simp <;> omega
theorem eqc_cons (w y : Int) (l : List Int) : eqc w (y :: l) = (if y = w then 1 else 0) + eqc w l := by
  simp only [eqc, List.filter_cons]
  by_cases h : y = w <;> simp [h] <;> omega
theorem cl_cons (w y : Int) (l : List Int) : cl w (y :: l) = (if y < w then 1 else 0) + cl w l := by
  simp only [cl, List.filter_cons]
  by_cases h : y < w <;> simp [h] <;> omega
theorem eqc_app (w : Int) (a b : List Int) : eqc w (a ++ b) = eqc w a + eqc w b := by simp [eqc]
theorem cl_succ (w : Int) : ∀ ns : List Int, cl (w + 1) ns = cl w ns + eqc w ns
  | [] => rfl
  | y :: ns => by
    rw [cl_cons, cl_cons, eqc_cons, cl_succ w ns]
    by_cases h : y < w
    · rw [if_pos (by omega), if_pos h, if_neg (by omega)]; omega
    · by_cases h2 : y = w
      · rw [if_pos (by omega), if_neg h, if_pos h2]; omega
      · rw [if_neg (by omega), if_neg h, if_neg h2]; omega
def thL (j : Nat) : Nat → List Int → List (List Int)
  | _, [] => []
  | p, y :: ys => [y, (j : Int), (p : Int)] :: thL j (p + 1) ys
theorem thL_eq (j : Nat) (row : List Int) : ∀ (N s : Nat), s + N ≤ row.length → (List.range N).map (fun i => [row.getD (s + i) 0, (j : Int), ((s + i : Nat) : Int)]) = thL j s ((row.drop s).take N)
  | 0, s, h => by simp [thL]
  | N + 1, s, h => by
    have ih := thL_eq j row N (s + 1) (by omega)
    have e : row.drop s = row[s] :: row.drop (s + 1) := List.drop_eq_getElem_cons (by omega)
    rw [List.range_succ_eq_map, List.map_cons, List.map_map, e, List.take_succ_cons, thL, ← ih]
    congr 1
    · simp only [Nat.add_zero]
      rw [List.getD_eq_getElem?_getD, List.getElem?_eq_getElem (by omega)]
      rfl
    · apply List.map_congr_left
      intro i _
      simp only [Function.comp]
      rw [show s + Nat.succ i = s + 1 + i by omega]
theorem thA_eq (j : Nat) {x : S3} (h : Good x) : thA j x = thL j x.2.1 (seg x) := thL_eq j x.1 (x.2.2 - x.2.1) x.2.1 (by have := h.1; have := h.2; omega)
theorem lex3 (a b c w j p : Int) : HT.lexLt [a, b, c] [w, j, p] = (decide (a < w) || (decide (a = w) && (decide (b < j) || (decide (b = j) && decide (c < p))))) := by
  rw [HT.lexLt_cons, HT.lexLt_cons, HT.lexLt_cons, HT.lexLt_nil_nil]
  by_cases h : a = w
  · subst h
    by_cases h2 : b = j
    · subst h2
      by_cases h3 : c = p
      · subst h3; simp
      · simp [h3]
    · simp [h2]
  · simp [h]
theorem cT_before (w : Int) (j j' : Nat) (p' : Int) (hj : j < j') : ∀ (ys : List Int) (p : Nat), cT [w, j', p'] (thL j p ys) = cl w ys + eqc w ys
  | [], _ => rfl
  | y :: ys, p => by
    rw [thL, cT_cons, cT_before w j j' p' hj ys, cl_cons, eqc_cons, lex3]
    have : (j : Int) < j' := by omega
    by_cases h : y < w
    · have h2 : ¬ y = w := by omega
      simp [h, h2]; omega
    · by_cases h2 : y = w
      · simp [h2, this]; omega
      · simp [h, h2]
theorem cT_after (w : Int) (j j' : Nat) (p' : Int) (hj : j' < j) : ∀ (ys : List Int) (p : Nat), cT [w, j', p'] (thL j p ys) = cl w ys
  | [], _ => rfl
  | y :: ys, p => by
    rw [thL, cT_cons, cT_after w j j' p' hj ys, cl_cons, lex3]
    have h3 : ¬ (j : Int) < j' := by omega
    have h4 : ¬ (j : Int) = j' := by omega
    by_cases h : y < w
    · simp [h]
    · simp [h, h3, h4]
theorem cT_same (w : Int) (j : Nat) : ∀ (ys : List Int) (p q : Nat), cT [w, j, ((p + q : Nat) : Int)] (thL j p ys) = cl w ys + eqc w (ys.take q)
  | [], _, _ => by simp [thL, cT, cl, eqc]
  | y :: ys, p, q => by
    rw [thL, cT_cons, cl_cons, lex3]
    cases q with
    | zero =>
      have ih := cT_same w j ys (p + 1) 0
      have hh : cT [w, (j : Int), ((p + 0 : Nat) : Int)] (thL j (p + 1) ys) = cl w ys := by
        have : ∀ (ys : List Int) (r : Nat), p ≤ r → cT [w, (j : Int), ((p + 0 : Nat) : Int)] (thL j r ys) = cl w ys := by
          intro ys
          induction ys with
          | nil => intro r _; rfl
          | cons z zs ih2 =>
            intro r hr
            rw [thL, cT_cons, cl_cons, ih2 (r + 1) (by omega), lex3]
            have h5 : ¬ (r : Int) < ((p + 0 : Nat) : Int) := by omega
            by_cases h : z < w
            · simp [h]
            · simp [h]; intro; omega
        exact this ys (p + 1) (by omega)
      rw [hh, List.take_zero]
      by_cases h : y < w
      · simp [h, eqc]
      · simp [h, eqc]
    | succ q =>
      have ih := cT_same w j ys (p + 1) q
      rw [show p + (q + 1) = p + 1 + q by omega, ih, List.take_succ_cons, eqc_cons]
      have h5 : (p : Int) < ((p + 1 + q : Nat) : Int) := by omega
      by_cases h : y < w
      · have h2 : ¬ y = w := by omega
        simp [h, h2]; omega
      · by_cases h2 : y = w
        · have h6 : (p : Int) < (p : Int) + 1 + (q : Int) := by omega
          simp [h2, h6]; omega
        · simp [h, h2]
theorem cT_thg (w : Int) : ∀ (g : List S3) (j0 j : Nat) (x : S3) (p : Nat), (∀ x ∈ g, Good x) → g[j]? = some x → x.2.1 ≤ p → p ≤ x.2.2 → cT [w, ((j0 + j : Nat) : Int), (p : Int)] (thg j0 g) = cl w (nums g) + eqc w (nums (g.take j)) + eqc w ((seg x).take (p - x.2.1))
  | [], j0, j, x, p, _, h, _, _ => by simp at h
  | y :: g, j0, 0, x, p, hg, h, h1, h2 => by
    simp only [List.getElem?_cons_zero, Option.some.injEq] at h
    subst h
    have rest : ∀ (g : List S3) (i : Nat), (∀ x ∈ g, Good x) → j0 < i → cT [w, ((j0 + 0 : Nat) : Int), (p : Int)] (thg i g) = cl w (nums g) := by
      intro g
      induction g with
      | nil => intro i _ _; rfl
      | cons z g ih =>
        intro i hg hi
        rw [thg, cT_app, thA_eq i (hg z (by simp)), cT_after w i (j0 + 0) p (by omega), ih (i + 1) (fun u hu => hg u (by simp [hu])) (by omega), nums_cons, cl_app]
    have e : p = y.2.1 + (p - y.2.1) := by omega
    rw [thg, cT_app, thA_eq j0 (hg y (by simp)), rest g (j0 + 1) (fun u hu => hg u (by simp [hu])) (by omega), nums_cons, cl_app, List.take_zero]
    conv => lhs; rw [e]
    rw [show ((j0 + 0 : Nat) : Int) = (j0 : Int) by simp, cT_same]
    simp [eqc, nums]
    omega
  | y :: g, j0, j + 1, x, p, hg, h, h1, h2 => by
    rw [List.getElem?_cons_succ] at h
    have ih := cT_thg w g (j0 + 1) j x p (fun u hu => hg u (by simp [hu])) h h1 h2
    rw [thg, cT_app, thA_eq j0 (hg y (by simp)), cT_before w j0 (j0 + (j + 1)) p (by omega), show j0 + (j + 1) = j0 + 1 + j by omega, ih, nums_cons, cl_app, List.take_succ_cons, nums_cons, eqc_app]
    omega
theorem thL_mem {j : Nat} {t : List Int} : ∀ {ys : List Int} {p : Nat}, t ∈ thL j p ys → ∃ (y : Int) (q : Nat), t = [y, (j : Int), (q : Int)] ∧ p ≤ q ∧ ys[q - p]? = some y
  | [], _, h => by simp [thL] at h
  | y :: ys, p, h => by
    rw [thL, List.mem_cons] at h
    rcases h with rfl | h
    · exact ⟨y, p, rfl, Nat.le_refl _, by simp⟩
    · obtain ⟨z, q, e, h1, h2⟩ := thL_mem h
      refine ⟨z, q, e, by omega, ?_⟩
      rw [show q - p = (q - (p + 1)) + 1 by omega, List.getElem?_cons_succ]
      exact h2
theorem mem_thL {j : Nat} : ∀ {ys : List Int} {p q : Nat} {y : Int}, ys[q]? = some y → [y, (j : Int), ((p + q : Nat) : Int)] ∈ thL j p ys
  | [], _, _, _, h => by simp at h
  | z :: ys, p, 0, y, h => by
    simp only [List.getElem?_cons_zero, Option.some.injEq] at h
    subst h
    simp [thL]
  | z :: ys, p, q + 1, y, h => by
    rw [List.getElem?_cons_succ] at h
    have := mem_thL (j := j) (p := p + 1) h
    rw [thL, show p + (q + 1) = p + 1 + q by omega]
    exact List.mem_cons_of_mem _ this
theorem thL_nodup (j : Nat) : ∀ (ys : List Int) (p : Nat), (thL j p ys).Nodup
  | [], _ => List.nodup_nil
  | y :: ys, p => by
    rw [thL, List.nodup_cons]
    refine ⟨fun h => ?_, thL_nodup j ys (p + 1)⟩
    obtain ⟨z, q, e, h1, _⟩ := thL_mem h
    simp only [List.cons.injEq] at e
    omega
theorem thg_mem {t : List Int} : ∀ {g : List S3} {j0 : Nat}, (∀ x ∈ g, Good x) → t ∈ thg j0 g → ∃ (j : Nat) (x : S3) (y : Int) (q : Nat), g[j]? = some x ∧ t = [y, ((j0 + j : Nat) : Int), (q : Int)] ∧ x.2.1 ≤ q ∧ (seg x)[q - x.2.1]? = some y
  | [], _, _, h => by simp [thg] at h
  | x :: g, j0, hg, h => by
    rw [thg, List.mem_append, thA_eq j0 (hg x (by simp))] at h
    rcases h with h | h
    · obtain ⟨y, q, e, h1, h2⟩ := thL_mem h
      exact ⟨0, x, y, q, rfl, by simpa using e, h1, h2⟩
    · obtain ⟨j, x', y, q, e1, e2, h1, h2⟩ := thg_mem (fun u hu => hg u (by simp [hu])) h
      exact ⟨j + 1, x', y, q, by simpa using e1, by rw [e2, show j0 + 1 + j = j0 + (j + 1) by omega], h1, h2⟩
theorem mem_thg : ∀ {g : List S3} {j0 j : Nat} {x : S3} {y : Int} {q : Nat}, (∀ x ∈ g, Good x) → g[j]? = some x → (seg x)[q]? = some y → [y, ((j0 + j : Nat) : Int), ((x.2.1 + q : Nat) : Int)] ∈ thg j0 g
  | [], _, _, _, _, _, _, h, _ => by simp at h
  | z :: g, j0, 0, x, y, q, hg, h, hy => by
    simp only [List.getElem?_cons_zero, Option.some.injEq] at h
    subst h
    rw [thg, List.mem_append, thA_eq j0 (hg z (by simp))]
    exact .inl (mem_thL hy)
  | z :: g, j0, j + 1, x, y, q, hg, h, hy => by
    rw [List.getElem?_cons_succ] at h
    rw [thg, List.mem_append, show j0 + (j + 1) = j0 + 1 + j by omega]
    exact .inr (mem_thg (fun u hu => hg u (by simp [hu])) h hy)
theorem thg_nodup : ∀ (g : List S3) (j0 : Nat), (∀ x ∈ g, Good x) → (thg j0 g).Nodup
  | [], _, _ => List.nodup_nil
  | x :: g, j0, hg => by
    rw [thg, List.nodup_append]
    have hg' : ∀ y ∈ g, Good y := fun u hu => hg u (by simp [hu])
    rw [thA_eq j0 (hg x (by simp))]
    refine ⟨thL_nodup _ _ _, thg_nodup g (j0 + 1) hg', fun a ha b hb e => ?_⟩
    subst e
    obtain ⟨y, q, e1, _, _⟩ := thL_mem ha
    obtain ⟨j, x', y', q', _, e2, _, _⟩ := thg_mem hg' hb
    rw [e1] at e2
    simp only [List.cons.injEq] at e2
    omega
theorem sortedT_at : ∀ {l : List (List Int)} {t : List Int}, l.Pairwise (fun x y => HT.lexLt y x = false) → l.Nodup → t ∈ l → l[cT t l]? = some t
  | [], _, _, _, h => by simp at h
  | u :: l, t, hs, hn, h => by
    rw [List.pairwise_cons] at hs
    rw [List.nodup_cons] at hn
    rw [cT_cons]
    by_cases e : t = u
    · subst e
      have z : cT t l = 0 := by
        rw [cT, List.length_eq_zero_iff, List.filter_eq_nil_iff]
        intro v hv
        rw [hs.1 v hv]
        simp
      rw [z, (NtL.swo_lexL (α := List Int) (fun x => x)).refl t]
      rfl
    · have ht : t ∈ l := by
        rcases List.mem_cons.mp h with h | h
        · exact absurd h e
        · exact h
      have lt : HT.lexLt u t = true := by
        cases c : HT.lexLt u t with
        | true => rfl
        | false => exact absurd (lex_anti c (hs.1 t ht)).symm e
      rw [lt, if_pos rfl, Nat.add_comm, List.getElem?_cons_succ]
      exact sortedT_at hs.2 hn.2 ht
theorem cT_perm {t : List Int} {a b : List (List Int)} (h : a.Perm b) : cT t a = cT t b := (h.filter _).length_eq
/-- the thing that has a rank stands there -/
theorem thing_at {g : List S3} (hg : ∀ x ∈ g, Good x) {j : Nat} {x : S3} {w : Int} {q : Nat} (h1 : g[j]? = some x) (h2 : (seg x)[q]? = some w) :
    (srtT (thg 0 g))[cl w (nums g) + eqc w (nums (g.take j)) + eqc w ((seg x).take q)]? = some [w, (j : Int), ((x.2.1 + q : Nat) : Int)] := by
  have hm := mem_thg (j0 := 0) hg h1 h2
  rw [Nat.zero_add] at hm
  have hq : q < (seg x).length := (List.getElem?_eq_some_iff.mp h2).1
  have hx := hg x (List.mem_of_getElem? h1)
  rw [seg_len hx] at hq
  have hc := cT_thg w g 0 j x (x.2.1 + q) hg h1 (by omega) (by omega)
  rw [Nat.zero_add, show x.2.1 + q - x.2.1 = q by omega] at hc
  rw [← hc, ← cT_perm (srtT_perm (thg 0 g))]
  exact sortedT_at (srtT_le _) ((srtT_perm _).nodup_iff.mpr (thg_nodup g 0 hg)) ((srtT_perm _).mem_iff.mpr hm)
end Zn.PM

/-! PR: gone down to a number's own way; the so-many-th thing, as it is computed. -/
namespace Zn.PM
open PySem PySem.Spec PyProof.Rows L2 Zn Zn.PB Zn.PT Zn.PG
theorem eq_all {w : Int} : ∀ {ns : List Int}, (∀ y ∈ ns, y = w) → ns.filter (fun y => decide (y = w)) = ns := fun h => List.filter_eq_self.mpr fun y hy => by simpa using h y hy
theorem filt_half (low : Int) (e : Nat) (w : Int) (ns : List Int) : (half low e (bit (low + 2 ^ e) w) ns).filter (fun y => decide (y = w)) = ns.filter (fun y => decide (y = w)) := by
  rw [half, List.filter_filter]
  apply List.filter_congr
  intro y _
  by_cases h : y = w
  · subst h; simp
  · simp [h]
theorem led_full : ∀ (e : Nat) (low w : Int) (x : S3), low ≤ w → w < low + 2 ^ e → Good x → InB low e x.1 →
    ledS e low (wy e low w) x = (x.1.filter (fun y => decide (y = w)), eqc w (x.1.take x.2.1), eqc w (x.1.take x.2.2))
  | 0, low, w, (row, s, t), h1, h2, hg, hb => by
    have hw : low = w := by simp at h2; omega
    subst hw
    have ha : ∀ y ∈ row, y = low := fun y hy => by have := hb y hy; simp at this; omega
    have hs := hg.1
    have ht := hg.2
    simp only at hs ht
    rw [wy, ledS]
    simp only [eqc]
    rw [eq_all ha, eq_all fun y hy => ha y (List.mem_of_mem_take hy), eq_all fun y hy => ha y (List.mem_of_mem_take hy), List.length_take, List.length_take, Nat.min_eq_left (by omega), Nat.min_eq_left ht]
  | e + 1, low, w, (row, s, t), h1, h2, hg, hb => by
    have hbw := bit_in h1 h2
    have ih := led_full e (low + bit (low + 2 ^ e) w * 2 ^ e) w (hl low e (bit (low + 2 ^ e) w) (row, s, t)) hbw.1 hbw.2 (hg.hl _ _ _) (inB_half hb (bit01 _ _))
    rw [wy, ledS, ih]
    simp only [hl, eqc]
    rw [half_pre, half_pre, filt_half, filt_half, filt_half]
theorem seg_full {low w : Int} {e : Nat} {x : S3} (h1 : low ≤ w) (h2 : w < low + 2 ^ e) (hg : Good x) (hb : InB low e x.1) : (seg (ledS e low (wy e low w) x)).length = eqc w (seg x) ∧ ∀ y ∈ seg (ledS e low (wy e low w) x), y = w := by
  have hl := led_full e low w x h1 h2 hg hb
  have hgd := Good.ledS (wy e low w) e low hg
  refine ⟨?_, fun y hy => ?_⟩
  · rw [seg_len hgd, hl]
    have e1 : x.1.take x.2.2 = x.1.take x.2.1 ++ (x.1.drop x.2.1).take (x.2.2 - x.2.1) := by
      rw [← List.take_add]
      congr 1; have := hg.1; omega
    simp only
    rw [e1, eqc_app, seg]
    omega
  · have : y ∈ (ledS e low (wy e low w) x).1 := List.mem_of_mem_drop (List.mem_of_mem_take hy)
    rw [hl] at this
    simpa using (List.mem_filter.mp this).2
theorem nums_full {low w : Int} {e : Nat} (h1 : low ≤ w) (h2 : w < low + 2 ^ e) : ∀ (g : List S3), (∀ x ∈ g, Good x) → (∀ x ∈ g, InB low e x.1) → (nums (g.map (ledS e low (wy e low w)))).length = eqc w (nums g)
  | [], _, _ => rfl
  | x :: g, hg, hb => by
    rw [List.map_cons, nums_cons, nums_cons, List.length_append, eqc_app, (seg_full h1 h2 (hg x (by simp)) (hb x (by simp))).1, nums_full h1 h2 g (fun y hy => hg y (by simp [hy])) fun y hy => hb y (by simp [hy])]
theorem inside_wy : ∀ (e : Nat) (low w x : Int), low ≤ w → w < low + 2 ^ e → low ≤ x → x < low + 2 ^ e → inside e low (wy e low w) x = decide (x = w)
  | 0, low, w, x, h1, h2, h3, h4 => by
    simp at h2 h4
    have : x = w := by omega
    simp [wy, inside, this]
  | e + 1, low, w, x, h1, h2, h3, h4 => by
    rw [wy]
    show (decide (bit (low + 2 ^ e) x = bit (low + 2 ^ e) w) && inside e (low + bit (low + 2 ^ e) w * 2 ^ e) (wy e (low + bit (low + 2 ^ e) w * 2 ^ e) w) x) = _
    have hw := bit_in h1 h2
    have hx := bit_in h3 h4
    by_cases c : bit (low + 2 ^ e) x = bit (low + 2 ^ e) w
    · rw [decide_eq_true c, Bool.true_and]
      rw [c] at hx
      exact inside_wy e _ w x hw.1 hw.2 hx.1 hx.2
    · rw [decide_eq_false c, Bool.false_and]
      have : x ≠ w := fun h => c (by rw [h])
      simp [this]
theorem ids_full {low w : Int} {L : Nat} {row : List Int} (h1 : low ≤ w) (h2 : w < low + 2 ^ L) (hb : InB low L row) : ids L low row (wy L low w) = idx (fun x => decide (x = w)) 0 row := by
  rw [ids]
  apply idx_congr
  intro x hx
  have := hb x hx
  exact inside_wy L low w x h1 h2 this.1 this.2
theorem idx_ex (f : Int → Bool) : ∀ (row : List Int) (k q : Nat), q < (row.filter f).length → ∃ (p : Nat) (x : Int), (idx f k row)[q]? = some (k + p) ∧ row[p]? = some x ∧ f x = true ∧ ((row.take p).filter f).length = q
  | [], k, q, h => by simp at h
  | y :: row, k, q, h => by
    by_cases hy : f y = true
    · rw [List.filter_cons_of_pos hy, List.length_cons] at h
      simp only [idx, if_pos hy]
      cases q with
      | zero => exact ⟨0, y, by simp, rfl, hy, rfl⟩
      | succ q =>
        obtain ⟨p, x, e1, e2, e3, e4⟩ := idx_ex f row (k + 1) q (by omega)
        exact ⟨p + 1, x, by rw [List.getElem?_cons_succ, e1]; congr 1; omega, by simpa using e2, e3, by rw [List.take_succ_cons, List.filter_cons_of_pos hy, List.length_cons, e4]⟩
    · rw [List.filter_cons_of_neg hy] at h
      simp only [idx, if_neg hy]
      obtain ⟨p, x, e1, e2, e3, e4⟩ := idx_ex f row (k + 1) q h
      exact ⟨p + 1, x, by rw [e1]; congr 1; omega, by simpa using e2, e3, by rw [List.take_succ_cons, List.filter_cons_of_neg hy, e4]⟩
/-- the place of a worth's so-many-th number in a stretch -/
theorem lift_full {low w : Int} {L : Nat} {x : S3} (h1 : low ≤ w) (h2 : w < low + 2 ^ L) (hg : Good x) (hb : InB low L x.1) {q : Nat} (hq : q < eqc w (seg x)) :
    ∃ r : Nat, (ids L low x.1 (wy L low w))[eqc w (x.1.take x.2.1) + q]? = some (x.2.1 + r) ∧ (seg x)[r]? = some w ∧ eqc w ((seg x).take r) = q := by
  obtain ⟨row, s, t⟩ := x
  obtain ⟨hg1, hg2⟩ := hg
  simp only at hg1 hg2 hb hq ⊢
  rw [ids_full h1 h2 hb]
  have split : row = row.take s ++ (row.drop s) := (List.take_append_drop s row).symm
  have split2 : row.drop s = (row.drop s).take (t - s) ++ (row.drop s).drop (t - s) := (List.take_append_drop _ _).symm
  have hseg : seg (row, s, t) = (row.drop s).take (t - s) := rfl
  have hc : eqc w row = eqc w (row.take s) + (eqc w (seg (row, s, t)) + eqc w ((row.drop s).drop (t - s))) := by
    conv => lhs; rw [split, eqc_app, split2, eqc_app]
    rw [hseg]
  obtain ⟨p, y, e1, e2, e3, e4⟩ := idx_ex (fun y => decide (y = w)) row 0 (eqc w (row.take s) + q) (by show _ < eqc w row; omega)
  have e4 : eqc w (row.take p) = eqc w (row.take s) + q := e4
  have ey : y = w := by simpa using e3
  subst ey
  have hp1 : p < row.length := (List.getElem?_eq_some_iff.mp e2).1
  have mono : ∀ a b : Nat, a ≤ b → eqc y (row.take b) = eqc y (row.take a) + eqc y ((row.drop a).take (b - a)) := by
    intro a b hab
    rw [← eqc_app, ← List.take_add]
    congr 2; omega
  have step : eqc y (row.take (p + 1)) = eqc y (row.take p) + 1 := by
    rw [List.take_add_one, eqc_app, e2]
    simp [eqc]
  have hsp : s ≤ p := by
    by_cases c : s ≤ p
    · exact c
    · have m1 := mono (p + 1) s (by omega)
      omega
  have hpt : p < t := by
    by_cases c : p < t
    · exact c
    · have m1 := mono t p (by omega)
      have m2 := mono s t hg1
      rw [hseg] at hq
      omega
  refine ⟨p - s, ?_, ?_, ?_⟩
  · rw [e1]; congr 1; omega
  · rw [hseg, List.getElem?_take_of_lt (by omega), List.getElem?_drop, show s + (p - s) = p by omega, e2]
  · have m1 := mono s p hsp
    rw [hseg, List.take_take, Nat.min_eq_left (by omega)]
    omega

/-! ### way_to -/
theorem way_loop {Fs : List Fn} {n il im io ia : Nat} (hm : Fs[im]? = some f_many_in) (hF : Fs[il]? = some (f_led io)) (ho : Fs[io]? = some (f_led_one ia)) (ha : Fs[ia]? = some f_ahead) (st : Store) (A : Option D) : ∀ (e : Nat) (xs : List Int) (low : Int) (g : List S3) (k : Nat) (ms : List Int) (x4 x5 x6 : Option D), xs.length = e → e ≤ 60 → ms.length + e ≤ 60 → (∀ x ∈ g, Good x) → g.length ≤ 1000 → InB low e (nums g) → k < (nums g).length →
    ∃ (w : Int) (x4' x5' x6' : Option D), forL (turn (cf Fs (n + 3)) (.tnm 4) (b_way_to_1 il im)) (xs.map .int) [A, some (gaD e low g), some (.int (k : Nat)), some (.tup (ms.map .int)), x4, x5, x6] st =
      .nx [A, some (gaD 0 w (g.map (ledS e low (wy e low w)))), some (.int ((k - cl w (nums g) : Nat) : Int)), some (.tup ((ms ++ wy e low w).map .int)), x4', x5', x6'] st ∧ low ≤ w ∧ w < low + 2 ^ e ∧ cl w (nums g) ≤ k ∧ k < cl (w + 1) (nums g)
  | 0, xs, low, g, k, ms, x4, x5, x6, hx, he, hms, hg, hgl, hb, hk => by
    have : xs = [] := List.length_eq_zero_iff.mp hx
    subst this
    have h0 : cl low (nums g) = 0 := cl_lo low _ fun y hy => (hb y hy).1
    have h1 : cl (low + 1) (nums g) = (nums g).length := cl_all _ _ fun y hy => by have := hb y hy; simp at this; omega
    have hid : g.map (ledS 0 low (wy 0 low low)) = g := (List.map_congr_left (f := ledS 0 low (wy 0 low low)) (g := id) fun x _ => rfl).trans (List.map_id g)
    refine ⟨low, x4, x5, x6, ?_, Int.le_refl _, by simp; omega, by omega, by omega⟩
    rw [hid, h0]
    simp [wy, forL_nil]
  | e + 1, xs, low, g, k, ms, x4, x5, x6, hx, he, hms, hg, hgl, hb, hk => by
    obtain ⟨i, xs, rfl⟩ : ∃ i ys, xs = i :: ys := by
      cases xs with
      | nil => simp at hx
      | cons i ys => exact ⟨i, ys, rfl⟩
    have hgh : ∀ m, ∀ y ∈ g.map (hl low e m), Good y := fun m y hy => by
      obtain ⟨z, hz, rfl⟩ := List.mem_map.mp hy
      exact (hg z hz).hl low e m
    have l0 := fun st => led1_ok (n := n) hF ho ha 0 (.inl rfl) e low g he hg hgl st
    have l1 := fun st => led1_ok (n := n) hF ho ha 1 (.inr rfl) e low g he hg hgl st
    have mo := fun st => many_ok (n := n + 2) hm e (low + 0 * 2 ^ e) (g.map (hl low e 0)) (hgh 0) (by simpa using hgl) st
    have n0 := nums_hl low e 0 g hg
    have n1 := nums_hl low e 1 g hg
    have hlen := halves_len low e (nums g)
    have hb0 : InB (low + 0 * 2 ^ e) e (nums (g.map (hl low e 0))) := by rw [n0]; exact inB_half hb (.inl rfl)
    have hb1 : InB (low + 1 * 2 ^ e) e (nums (g.map (hl low e 1))) := by rw [n1]; exact inB_half hb (.inr rfl)
    have hs : (2 : Int) ^ (e + 1) = 2 ^ e * 2 := Int.pow_succ ..
    have hpp : (0 : Int) < 2 ^ e := Int.pow_pos (by omega)
    rw [List.map_cons]
    by_cases c : k < (nums (g.map (hl low e 0))).length
    · obtain ⟨w, y4, y5, y6, ih, h1, h2, h3, h4⟩ := way_loop (n := n) hm hF ho ha st A e xs (low + 0 * 2 ^ e) (g.map (hl low e 0)) k (ms ++ [0]) (some (.int i)) (some (gaD e (low + 0 * 2 ^ e) (g.map (hl low e 0)))) (some (.int ((nums (g.map (hl low e 0))).length : Nat))) (by simpa using hx) (by omega) (by simp; omega) (hgh 0) (by simpa using hgl) hb0 c
      have hwb : bit (low + 2 ^ e) w = 0 := by unfold bit; rw [if_neg (by omega)]
      have hc : ∀ z, z ≤ low + 2 ^ e → cl z (nums g) = cl z (nums (g.map (hl low e 0))) := fun z hz => by
        rw [cl_halves low e z (nums g), ← n0, ← n1, cl_lo z (nums (g.map (hl low e 1))) fun y hy => by have := hb1 y hy; omega]
        rfl
      refine ⟨w, y4, y5, y6, ?_, by omega, by omega, by rw [hc w (by omega)]; exact h3, by rw [hc (w + 1) (by omega)]; exact h4⟩
      rw [hc w (by omega)]
      have e1 : g.map (ledS (e + 1) low (wy (e + 1) low w)) = (g.map (hl low e 0)).map (ledS e (low + 0 * 2 ^ e) (wy e (low + 0 * 2 ^ e) w)) := by
        rw [List.map_map]
        apply List.map_congr_left
        intro x _
        rw [wy, hwb, ledS]
        rfl
      have e2 : ms ++ wy (e + 1) low w = (ms ++ [0]) ++ wy e (low + 0 * 2 ^ e) w := by rw [wy, hwb]; simp
      rw [e1, e2, ← ih]
      refine forL_nx ?_
      have ck : decide ((k : Int) < ((nums (g.map (hl low e 0))).length : Nat)) = true := decide_eq_true (by omega)
      simp only [turn, b_way_to_1]
      simp! [l0, mo, tk_len, ck]
      ((try simp! []); (repeat (walk_at "zo"; try simp! [])))
      simp
    · obtain ⟨w, y4, y5, y6, ih, h1, h2, h3, h4⟩ := way_loop (n := n) hm hF ho ha st A e xs (low + 1 * 2 ^ e) (g.map (hl low e 1)) (k - (nums (g.map (hl low e 0))).length) (ms ++ [1]) (some (.int i)) (some (gaD e (low + 0 * 2 ^ e) (g.map (hl low e 0)))) (some (.int ((nums (g.map (hl low e 0))).length : Nat))) (by simpa using hx) (by omega) (by simp; omega) (hgh 1) (by simpa using hgl) hb1 (by rw [n0] at c ⊢; rw [n1]; omega)
      have hwb : bit (low + 2 ^ e) w = 1 := by unfold bit; rw [if_pos (by omega)]
      have hc : ∀ z, low + 2 ^ e ≤ z → cl z (nums g) = (nums (g.map (hl low e 0))).length + cl z (nums (g.map (hl low e 1))) := fun z hz => by
        rw [cl_halves low e z (nums g), ← n0, ← n1, cl_all z (nums (g.map (hl low e 0))) fun y hy => by have := hb0 y hy; omega]
      refine ⟨w, y4, y5, y6, ?_, by omega, by omega, by rw [hc w (by omega)]; omega, by rw [hc (w + 1) (by omega)]; omega⟩
      rw [hc w (by omega), show k - ((nums (g.map (hl low e 0))).length + cl w (nums (g.map (hl low e 1)))) = k - (nums (g.map (hl low e 0))).length - cl w (nums (g.map (hl low e 1))) by omega]
      have e1 : g.map (ledS (e + 1) low (wy (e + 1) low w)) = (g.map (hl low e 1)).map (ledS e (low + 1 * 2 ^ e) (wy e (low + 1 * 2 ^ e) w)) := by
        rw [List.map_map]
        apply List.map_congr_left
        intro x _
        rw [wy, hwb, ledS]
        rfl
      have e2 : ms ++ wy (e + 1) low w = (ms ++ [1]) ++ wy e (low + 1 * 2 ^ e) w := by rw [wy, hwb]; simp
      rw [e1, e2, ← ih]
      refine forL_nx ?_
      have ck : decide ((k : Int) < ((nums (g.map (hl low e 0))).length : Nat)) = false := decide_eq_false (by omega)
      have es : (k : Int) - ((nums (g.map (hl low e 0))).length : Nat) = ((k - (nums (g.map (hl low e 0))).length : Nat) : Int) := by omega
      simp only [turn, b_way_to_1]
      simp! [l0, l1, mo, tk_len, ck, es]
      ((try simp! []); (repeat (walk_at "zo"; try simp! [])))
      simp
theorem way_to_ok {Fs : List Fn} {n i il im io ia : Nat} (hW : Fs[i]? = some (f_way_to il im)) (hm : Fs[im]? = some f_many_in) (hF : Fs[il]? = some (f_led io)) (ho : Fs[io]? = some (f_led_one ia)) (ha : Fs[ia]? = some f_ahead) (low : Int) (L : Nat) (hL : L ≤ 60) (g : List S3) (hg : ∀ x ∈ g, Good x) (hgl : g.length ≤ 1000) (hb : InB low L (nums g)) (k : Nat) (hk : k < (nums g).length) :
    ∃ w : Int, (∀ st : Store, cf Fs (n + 4) i [.int (L : Nat), gaD L low g, .int (k : Nat)] st = .ok (.tup [.tup ((wy L low w).map .int), gaD 0 w (g.map (ledS L low (wy L low w))), .int ((k - cl w (nums g) : Nat) : Int)]) st) ∧ low ≤ w ∧ w < low + 2 ^ L ∧ cl w (nums g) ≤ k ∧ k < cl (w + 1) (nums g) := by
  have er : rngD 0 L = ((List.range L).map fun (k : Nat) => (k : Int)).map D.int := by
    rw [rngD, List.map_map]
    apply List.map_congr_left
    intro k _
    simp
  have hr : rngOk (L : Int) = true := by simp only [rngOk, Bool.and_eq_true, decide_eq_true_eq]; omega
  obtain ⟨w, _, _, _, _, h1, h2, h3, h4⟩ := way_loop (n := n) hm hF ho ha [] (some (.int (L : Nat))) L ((List.range L).map fun (k : Nat) => (k : Int)) low g k [] none none none (by simp) hL (by simpa using hL) hg hgl hb hk
  refine ⟨w, fun st => ?_, h1, h2, h3, h4⟩
  obtain ⟨w', x4, x5, x6, lp, h1', h2', h3', h4'⟩ := way_loop (n := n) hm hF ho ha st (some (.int (L : Nat))) L ((List.range L).map fun (k : Nat) => (k : Int)) low g k [] none none none (by simp) hL (by simpa using hL) hg hgl hb hk
  have mono : ∀ (ns : List Int) (a b : Int), a ≤ b → cl a ns ≤ cl b ns := by
    intro ns a b hab
    induction ns with
    | nil => simp [cl]
    | cons y ns ih =>
      rw [cl_cons, cl_cons]
      by_cases c : y < a
      · rw [if_pos c, if_pos (by omega)]; omega
      · rw [if_neg c]; omega
  have ew : w' = w := by
    by_cases c1 : w' < w
    · have := mono (nums g) (w' + 1) w (by omega); omega
    · by_cases c2 : w < w'
      · have := mono (nums g) (w + 1) w' (by omega); omega
      · omega
  subst ew
  rw [← er, List.nil_append] at lp
  rw [cf_at hW rfl]; simp only [f_way_to, t_way_to]
  rw [List.map_nil] at lp
  simp! [rngF, rng1F, hr, Int.toNat_natCast, lp]
  rfl

/-! ### nth_least -/
theorem nth_loop {F : CallF} (i1 i2 i3 i4 : Nat) (w : Int) (ps : List S3) (hps : ∀ x ∈ ps, Good x) (st : Store) (B G K W : Option D) : ∀ (post pre : List S3) (left fl : Nat), ps = pre ++ post → left < (nums post).length → post.length < fl →
    ∃ (j left' : Nat) (y : S3), whileL (ev F (w_nth_least_1 i1 i2 i3 i4)) (ex F (b_nth_least_2 i1 i2 i3 i4)) fl [B, G, K, some (.int (pre.length : Nat)), W, some (.lst (ps.map (stD 0 w))), some (.int (left : Nat))] st =
      .nx [B, G, K, some (.int (j : Nat)), W, some (.lst (ps.map (stD 0 w))), some (.int (left' : Nat))] st ∧ ps[j]? = some y ∧ left' < (seg y).length ∧ (nums (ps.take j)).length + left' = (nums pre).length + left
  | [], pre, left, fl, _, h, _ => by simp [nums] at h
  | x :: post, pre, left, fl, he, h, hf => by
    obtain ⟨fl, rfl⟩ : ∃ f, fl = f + 1 := ⟨fl - 1, by omega⟩
    have hg : ps[pre.length]? = some x := by rw [he, List.getElem?_append_right (Nat.le_refl _), Nat.sub_self]; rfl
    have hgD : (ps.map (stD 0 w))[pre.length]? = some (stD 0 w x) := by rw [List.getElem?_map, hg]; rfl
    have hx := hps x (by rw [he]; simp)
    have hsl := seg_len hx
    have hx1 := hx.1
    by_cases c : left < (seg x).length
    · refine ⟨pre.length, left, x, ?_, hg, c, by rw [he, List.take_left]⟩
      refine while_f ?_
      have ck : decide (((x.2.2 : Nat) : Int) - ((x.2.1 : Nat) : Int) ≤ (left : Int)) = false := decide_eq_false (by omega)
      simp only [w_nth_least_1]
      simp! [hgD, stD, ck]
    · have e1 : (left : Int) - (((x.2.2 : Nat) : Int) - ((x.2.1 : Nat) : Int)) = ((left - (seg x).length : Nat) : Int) := by omega
      rw [nums_cons, List.length_append] at h
      obtain ⟨j, left', y, ih, h1, h2, h3⟩ := nth_loop (F := F) i1 i2 i3 i4 w ps hps st B G K W post (pre ++ [x]) (left - (seg x).length) fl (by rw [he]; simp) (by omega) (by simp at hf; omega)
      have hn : (nums (pre ++ [x])).length = (nums pre).length + (seg x).length := by simp [nums]
      refine ⟨j, left', y, ?_, h1, h2, by omega⟩
      rw [← ih]
      refine while_t (st1 := st) ?_ ?_
      · have ck : decide (((x.2.2 : Nat) : Int) - ((x.2.1 : Nat) : Int) ≤ (left : Int)) = true := decide_eq_true (by omega)
        simp only [w_nth_least_1]
        simp! [hgD, stD, ck]
      · simp only [b_nth_least_2]
        simp! [hgD, stD, e1]
        simp
theorem nums_take_full {low w : Int} {e : Nat} (h1 : low ≤ w) (h2 : w < low + 2 ^ e) (g : List S3) (hg : ∀ x ∈ g, Good x) (hb : ∀ x ∈ g, InB low e x.1) (j : Nat) : (nums ((g.map (ledS e low (wy e low w))).take j)).length = eqc w (nums (g.take j)) := by
  rw [← List.map_take]
  exact nums_full h1 h2 (g.take j) (fun x hx => hg x (List.mem_of_mem_take hx)) fun x hx => hb x (List.mem_of_mem_take hx)
theorem g_inB {g : List S3} {low : Int} {L : Nat} (h : ∀ x ∈ g, InB low L x.1) : InB low L (nums g) := fun y hy => by
  obtain ⟨x, hx, hy⟩ := nums_mem hy
  exact h x hx y hy
theorem nth_ok {Fs : List Fn} {n i iw il ip is im ii io ia isp : Nat} {rs rl : T} (hN : Fs[i]? = some (f_nth_least rs iw ii im isp)) (hW : Fs[iw]? = some (f_way_to il im)) (hm : Fs[im]? = some f_many_in) (hF : Fs[il]? = some (f_led io)) (ho : Fs[io]? = some (f_led_one ia)) (ha : Fs[ia]? = some f_ahead) (hli : Fs[ii]? = some (f_lifted rl ip is)) (hp : Fs[ip]? = some (f_place_of rl)) (hs : Fs[is]? = some PT.f_size_of) (hsp : Fs[isp]? = some f_span_of)
    (low : Int) (L : Nat) (hL : L ≤ 60) (g : List S3) (hg : ∀ x ∈ g, Good x) (hgl : g.length ≤ 1000) (hb : ∀ x ∈ g, InB low L x.1) (hrl : ∀ x ∈ g, x.1.length ≤ 1000) (k : Nat) (hk : k < (nums g).length) :
    ∃ (w : Int) (j q : Nat) (x : S3), (∀ st : Store, cf Fs (n + 5) i [Bd low L, gaD L low g, .int (k : Nat)] st = .ok (tupD [w, (j : Int), ((x.2.1 + q : Nat) : Int)]) st) ∧ g[j]? = some x ∧ (seg x)[q]? = some w ∧ cl w (nums g) + eqc w (nums (g.take j)) + eqc w ((seg x).take q) = k ∧ (srtT (thg 0 g))[k]? = some [w, (j : Int), ((x.2.1 + q : Nat) : Int)] := by
  have hbn := g_inB hb
  obtain ⟨w, wt, h1, h2, h3, h4⟩ := way_to_ok (n := n) hW hm hF ho ha low L hL g hg hgl hbn k hk
  rw [cl_succ] at h4
  obtain ⟨ps, hps⟩ : ∃ ps, ps = g.map (ledS L low (wy L low w)) := ⟨_, rfl⟩
  have hpg : ∀ x ∈ ps, Good x := fun x hx => by
    rw [hps] at hx
    obtain ⟨z, hz, rfl⟩ := List.mem_map.mp hx
    exact Good.ledS _ _ _ (hg z hz)
  have hpn : (nums ps).length = eqc w (nums g) := by rw [hps]; exact nums_full h1 h2 g hg hb
  have lp := fun (F : CallF) (st : Store) (B G K W : Option D) => nth_loop (F := F) iw ii im isp w ps hpg st B G K W ps [] (k - cl w (nums g)) fuel rfl (by omega) (by rw [hps, List.length_map]; simp only [fuel]; omega)
  obtain ⟨j, left, y, _, j1, j2, j3⟩ := lp (cf Fs (n + 4)) [] none none none none
  obtain ⟨x, hx, hxy⟩ : ∃ x, g[j]? = some x ∧ ledS L low (wy L low w) x = y := by
    rw [hps, List.getElem?_map] at j1
    obtain ⟨x, hx, e⟩ := Option.map_eq_some_iff.mp j1
    exact ⟨x, hx, e⟩
  have hxm := List.mem_of_getElem? hx
  have hfull := led_full L low w x h1 h2 (hg x hxm) (hb x hxm)
  have hsl := (seg_full h1 h2 (hg x hxm) (hb x hxm)).1
  rw [hxy] at hfull hsl
  obtain ⟨q, q1, q2, q3⟩ := lift_full h1 h2 (hg x hxm) (hb x hxm) (q := left) (by omega)
  have hcount : cl w (nums g) + eqc w (nums (g.take j)) + eqc w ((seg x).take q) = k := by
    rw [hps, nums_take_full h1 h2 g hg hb] at j3
    simp only [nums, List.map_nil, List.flatten_nil, List.length_nil, Nat.zero_add] at j3
    rw [q3, nums]
    simp only [nums] at h3 h4 ⊢
    omega
  refine ⟨w, j, q, x, fun st => ?_, hx, q2, hcount, ?_⟩
  · rw [cf_at hN rfl]; simp only [f_nth_least, t_nth_least]
    have mo := fun st => many_ok (n := n + 3) hm L low g hg hgl st
    have hgD : (g.map (stD L low))[j]? = some (stD L low x) := by rw [List.getElem?_map, hx]; rfl
    have hyD : (ps.map (stD 0 w))[j]? = some (stD 0 w y) := by rw [List.getElem?_map, j1]; rfl
    have hlf := fun st => lift_at (n := n + 2) hli hp hs L hL low x.1 (wy L low w) (hrl x hxm) (wy_marks _ _ _) (by rw [wy_len]; omega) (eqc w (x.1.take x.2.1) + left) (x.2.1 + q) q1 st false
    have hspn := fun st => span_ok (n := n + 3) hsp low L hL (wy L low w) (wy_marks _ _ _) (by rw [wy_len]; omega) st
    rw [wy_low L low w h1 h2] at hspn
    have c1 : decide ((0 : Int) ≤ (k : Int)) = true := decide_eq_true (by omega)
    have c2 : decide ((k : Int) < ((nums g).length : Nat)) = true := decide_eq_true (by omega)
    obtain ⟨j', left', y', lp', k1, k2, k3⟩ := lp (cf Fs (n + 4)) st (some (Bd low L)) (some (gaD L low g)) (some (.int (k : Nat))) (some (.tup ((wy L low w).map .int)))
    -- the same place by any other road
    have hjj : j' = j ∧ left' = left := by
      have tot : ∀ (a b : Nat) (z z' : S3) (l l' : Nat), ps[a]? = some z → ps[b]? = some z' → l < (seg z).length → l' < (seg z').length → (nums (ps.take a)).length + l = (nums (ps.take b)).length + l' → a ≤ b := by
        intro a b z z' l l' ha hb hl hl' e
        by_cases c : a ≤ b
        · exact c
        · exfalso
          have hbl : b < ps.length := (List.getElem?_eq_some_iff.mp hb).1
          have e1 : ps.take a = ps.take (b + 1) ++ (ps.drop (b + 1)).take (a - (b + 1)) := by
            rw [← List.take_add]
            congr 1; omega
          have e2 : ps.take (b + 1) = ps.take b ++ [z'] := by rw [List.take_add_one, hb]; rfl
          have e3 : (nums (ps.take a)).length = (nums (ps.take b)).length + (seg z').length + (nums ((ps.drop (b + 1)).take (a - (b + 1)))).length := by
            rw [e1, e2]
            simp [nums, Nat.add_assoc]
          omega
      have a1 := tot j' j y' y left' left k1 j1 k2 j2 (by rw [k3, j3])
      have a2 := tot j j' y y' left left' j1 k1 j2 k2 (by rw [k3, j3])
      have : j' = j := by omega
      subst this
      exact ⟨rfl, by rw [← j3] at k3; omega⟩
    obtain ⟨rfl, rfl⟩ := hjj
    rw [List.length_nil] at lp'
    rw [← hps] at wt
    rw [bd_eq, gaD] at *
    have e0 : ((0 : Nat) : Int) = 0 := rfl
    rw [e0] at lp'
    rw [gaD] at wt
    have f1 : y.2.1 = eqc w (x.1.take x.2.1) := by rw [hfull]
    simp! [mo, tk_len, c1, c2, wt, x_swhile, lp', hspn, hgD, stD, hyD, f1, ← Int.natCast_add, hlf]
    rfl
  · rw [← hcount]
    exact thing_at hg hx q2
end Zn.PM

/-! PS: what comes next; ranks; sums of the least. -/
namespace Zn.PM
open PySem PySem.Spec PyProof.Rows L2 Zn Zn.PB Zn.PT Zn.PG
theorem wts_sorted (g : List S3) : (wts g).Pairwise (· ≤ ·) := by
  rw [wts, List.pairwise_map]
  have hne : ∀ t ∈ srtT (thg 0 g), t ≠ [] := fun t h => thg_ne g 0 t ((srtT_perm _).mem_iff.mp h)
  refine (List.pairwise_iff_forall_sublist.mpr fun {a b} hab => ?_)
  have h := List.pairwise_iff_forall_sublist.mp (srtT_le (thg 0 g)) hab
  have ha := hne a (hab.mem (by simp))
  have hb := hne b (hab.mem (by simp))
  cases a with
  | nil => exact absurd rfl ha
  | cons x a =>
    cases b with
    | nil => exact absurd rfl hb
    | cons y b =>
      rw [HT.lexLt_cons] at h
      show x ≤ y
      by_cases e : y = x
      · omega
      · rw [if_neg e] at h
        have := of_decide_eq_false h
        omega
theorem wts_at {g : List S3} {k : Nat} {w : Int} {r : List Int} (h : (srtT (thg 0 g))[k]? = some (w :: r)) : (wts g)[k]? = some w := by
  rw [wts, List.getElem?_map, h]
  rfl
theorem cl_wts {g : List S3} (h : ∀ x ∈ g, Good x) (x : Int) : cl x (wts g) = cl x (nums g) := filt_wts h _
theorem wts_len {g : List S3} (h : ∀ x ∈ g, Good x) : (wts g).length = (nums g).length := (wts_perm h).length_eq
theorem sorted_gt (x : Int) : ∀ W : List Int, W.Pairwise (· ≤ ·) → W.filter (fun y => decide (x < y)) = W.drop (cl (x + 1) W)
  | [], _ => rfl
  | y :: W, h => by
    rw [List.pairwise_cons] at h
    rw [cl_cons]
    by_cases c : y < x + 1
    · rw [if_pos c, List.filter_cons_of_neg (by simp; omega), Nat.add_comm, List.drop_succ_cons, sorted_gt x W h.2]
    · have h0 : cl (x + 1) W = 0 := cl_lo _ _ fun z hz => by have := h.1 z hz; omega
      rw [if_neg c, h0, List.filter_eq_self.mpr]
      · rfl
      · intro z hz
        rcases List.mem_cons.mp hz with rfl | hz
        · simp; omega
        · have := h.1 z hz; simp; omega
theorem sorted_lt (x : Int) : ∀ W : List Int, W.Pairwise (· ≤ ·) → W.filter (fun y => decide (y < x)) = W.take (cl x W)
  | [], _ => rfl
  | y :: W, h => by
    rw [List.pairwise_cons] at h
    rw [cl_cons]
    by_cases c : y < x
    · rw [if_pos c, List.filter_cons_of_pos (by simpa using c), Nat.add_comm, List.take_succ_cons, sorted_lt x W h.2]
    · have h0 : cl x W = 0 := cl_lo _ _ fun z hz => by have := h.1 z hz; omega
      rw [if_neg c, h0, List.filter_eq_nil_iff.mpr]
      · rfl
      · intro z hz
        rcases List.mem_cons.mp hz with rfl | hz
        · simpa using c
        · have := h.1 z hz; simp; omega
theorem cl_le (x : Int) (ns : List Int) : cl x ns ≤ ns.length := List.length_filter_le _ _
/-- what is told of the first of some worths -/
def upD (g : List S3) : List Int → D
  | [] => .non
  | w :: _ => .tup [.int w, .int (eqc w (nums g) : Nat)]
theorem in_lst (st : Store) (x : D) (xs : List D) (h : flatD x = true) (hs : xs.all flatD = true) : cmpF .In x (.lst xs) st = some (xs.any fun z => eqFl z x) := by
  simp only [cmpF, inF, seqOf, lstOf]; exact if_pos ⟨h, hs⟩
section
variable {Fs : List Fn} {n iN iB iW : Nat} {low : Int} {L : Nat} {g : List S3}
theorem eqc_btw (w : Int) (ns : List Int) : (ns.filter fun y => decide (w ≤ y) && decide (y ≤ w)).length = eqc w ns := by
  rw [eqc]
  congr 1
  apply List.filter_congr
  intro y _
  by_cases h : y = w
  · subst h; simp
  · simp [h]; omega
theorem with_many_ok {i ib : Nat} (hF : Fs[i]? = some (f_with_many ib)) (hb : ∀ (a b : Int) (st : Store), cf Fs (n + 5) ib [Bd low L, gaD L low g, .int a, .int b] st = .ok (.int (((nums g).filter fun y => decide (a ≤ y) && decide (y ≤ b)).length : Nat)) st) (w : Int) (st : Store) :
    cf Fs (n + 6) i [Bd low L, gaD L low g, .int w] st = .ok (.tup [.int w, .int (eqc w (nums g) : Nat)]) st := by
  rw [cf_at hF rfl]; simp only [f_with_many, t_with_many]
  simp! [hb, tk_len, eqc_btw]
theorem next_up_ok {i ib iw im iN : Nat} (hF : Fs[i]? = some (f_next_up ib iw im iN)) (hg : ∀ x ∈ g, Good x)
    (hb : ∀ (x : Int) (st : Store), cf Fs (n + 6) ib [Bd low L, gaD L low g, .int x] st = .ok (.int (cl x (nums g) : Nat)) st)
    (hw : ∀ (w : Int) (st : Store), cf Fs (n + 6) iw [Bd low L, gaD L low g, .int w] st = .ok (.tup [.int w, .int (eqc w (nums g) : Nat)]) st)
    (hm : ∀ (st : Store), cf Fs (n + 6) im [gaD L low g] st = .ok (.int ((nums g).length : Nat)) st)
    (hn : ∀ k, k < (nums g).length → ∃ (w : Int) (r : List Int), (∀ st : Store, cf Fs (n + 6) iN [Bd low L, gaD L low g, .int (k : Nat)] st = .ok (tupD (w :: r)) st) ∧ (srtT (thg 0 g))[k]? = some (w :: r)) (x : Int) (st : Store) :
    cf Fs (n + 7) i [Bd low L, gaD L low g, .int x] st = .ok (upD g ((wts g).filter fun y => decide (x < y))) st := by
  rw [cf_at hF rfl]; simp only [f_next_up, t_next_up]
  rw [sorted_gt x _ (wts_sorted g), cl_wts hg]
  by_cases c : cl (x + 1) (nums g) = (nums g).length
  · rw [c, ← wts_len hg, List.drop_length]
    simp! [hb, tk_len, hm, c, eqD_int, eq_self]
    rfl
  · have hlt : cl (x + 1) (nums g) < (nums g).length := by have := cl_le (x + 1) (nums g); omega
    obtain ⟨w, r, h1, h2⟩ := hn _ hlt
    have h3 := wts_at h2
    have hd : (wts g).drop (cl (x + 1) (nums g)) = w :: (wts g).drop (cl (x + 1) (nums g) + 1) := by
      obtain ⟨hl, he⟩ := List.getElem?_eq_some_iff.mp h3
      rw [List.drop_eq_getElem_cons hl, he]
    have ck : decide (((cl (x + 1) (nums g) : Nat) : Int) = ((nums g).length : Nat)) = false := decide_eq_false (by omega)
    have ct : ∀ (k : Nat) (st : Store), callEnd false k (tupD (w :: r)) st = .ok (tupD (w :: r)) (st.take k) := fun _ _ => rfl
    rw [hd]
    simp! [hb, tk_len, hm, eqD_int, ck, h1, ct]
    simp only [tupD]
    simp! [hw, tk_len]
    rfl
theorem next_down_ok {i ib iw iN : Nat} (hF : Fs[i]? = some (f_next_down ib iw iN)) (hg : ∀ x ∈ g, Good x)
    (hb : ∀ (x : Int) (st : Store), cf Fs (n + 6) ib [Bd low L, gaD L low g, .int x] st = .ok (.int (cl x (nums g) : Nat)) st)
    (hw : ∀ (w : Int) (st : Store), cf Fs (n + 6) iw [Bd low L, gaD L low g, .int w] st = .ok (.tup [.int w, .int (eqc w (nums g) : Nat)]) st)
    (hn : ∀ k, k < (nums g).length → ∃ (w : Int) (r : List Int), (∀ st : Store, cf Fs (n + 6) iN [Bd low L, gaD L low g, .int (k : Nat)] st = .ok (tupD (w :: r)) st) ∧ (srtT (thg 0 g))[k]? = some (w :: r)) (x : Int) (st : Store) :
    cf Fs (n + 7) i [Bd low L, gaD L low g, .int x] st = .ok (upD g ((wts g).filter fun y => decide (y < x)).reverse) st := by
  rw [cf_at hF rfl]; simp only [f_next_down, t_next_down]
  rw [sorted_lt x _ (wts_sorted g), cl_wts hg]
  by_cases c : cl x (nums g) = 0
  · rw [c]
    simp! [hb, tk_len, c, eqD_int, eq_self, show ((0 : Nat) : Int) = 0 from rfl]
    rfl
  · obtain ⟨k, hk⟩ : ∃ k, cl x (nums g) = k + 1 := ⟨cl x (nums g) - 1, by omega⟩
    have hlt : k < (nums g).length := by have := cl_le x (nums g); omega
    obtain ⟨w, r, h1, h2⟩ := hn _ hlt
    have h3 := wts_at h2
    have hd : ((wts g).take (cl x (nums g))).reverse = w :: ((wts g).take k).reverse := by
      rw [hk, List.take_add_one, h3]
      simp
    have ck : decide (((cl x (nums g) : Nat) : Int) = 0) = false := decide_eq_false (by omega)
    have es : ((cl x (nums g) : Nat) : Int) - 1 = (k : Nat) := by omega
    have ct : ∀ (k : Nat) (st : Store), callEnd false k (tupD (w :: r)) st = .ok (tupD (w :: r)) (st.take k) := fun _ _ => rfl
    rw [hd]
    simp! [hb, tk_len, eqD_int, ck, es, h1, ct]
    simp only [tupD]
    simp! [hw, tk_len]
    rfl
end
end Zn.PM

/-! PV: sums of the least; whole numbers drawn in a row. -/
namespace Zn.PM
open PySem PySem.Spec PyProof.Rows L2 Zn Zn.PB Zn.PT Zn.PG
theorem drawB_ints {F : CallF} {m : Bool} {tg elt : T} {env : Zn.Env} {lo hi : Int} (c0 : Nat) (xs : List D) (A R : Store) (c q : Int) (hq0 : -1 ≤ q) (hq : q + c0 * xs.length < 10 ^ 29) (hs : xs.length ≤ sizeLine)
    (h : ∀ x ∈ xs, ∀ (c q : Int) (R : Store), -1 ≤ q → q < 10 ^ 29 → ∃ v c' q' : Int, cturn F tg .no elt env x (A ++ penB c q :: R) = .ok (some (.int v)) (A ++ penB c' q' :: R) ∧ lo ≤ v ∧ v < hi ∧ -1 ≤ q' ∧ q' ≤ q + c0) :
    ∃ (ms : List Int) (c' q' : Int), compS F m tg .no elt env (.fix xs) (A ++ penB c q :: R) = mk m (ms.map .int) (A ++ penB c' q' :: R) ∧ ms.length = xs.length ∧ (∀ v ∈ ms, lo ≤ v ∧ v < hi) ∧ -1 ≤ q' ∧ q' ≤ q + c0 * xs.length := by
  obtain ⟨zs, st2, e, _, c2, q2, ms, rfl, rfl, h1, h2, hms, hml⟩ := compS_inv (F := F) (m := m) (tg := tg) (cond := .no) (elt := elt) (env := env) (st := A ++ penB c q :: R) (xs := xs)
    (fun i acc st => ∃ (c2 q2 : Int) (ms : List Int), acc = List.map D.int ms ∧ st = A ++ penB c2 q2 :: R ∧ -1 ≤ q2 ∧ q2 ≤ q + (c0 * i : Nat) ∧ (∀ v ∈ ms, lo ≤ v ∧ v < hi) ∧ ms.length = i)
    (by
      rintro x i acc st1 hx ⟨c2, q2, ms, rfl, rfl, h1, h2, hms, hml⟩ hl
      have hi : i < xs.length := (List.getElem?_eq_some_iff.mp hx).1
      have hc : c0 * i ≤ c0 * xs.length := Nat.mul_le_mul_left c0 (by omega)
      have hc' : ((c0 * xs.length : Nat) : Int) = (c0 : Int) * (xs.length : Int) := by rw [Int.natCast_mul]
      obtain ⟨v, c3, q3, e3, hv0, hv1, h3, h4⟩ := h x (List.mem_of_getElem? hx) c2 q2 (R ++ [some (.lst (List.map D.int ms))]) h1 (by omega)
      have hcs : c0 * (i + 1) = c0 * i + c0 := Nat.mul_succ c0 i
      refine ⟨some (.int v), A ++ penB c3 q3 :: R, ?_, by simp, fun d h => by cases h; rfl, c3, q3, ms ++ [v], by simp, rfl, h3, by rw [hcs]; omega, ?_, by simp [hml]⟩
      · rw [show (A ++ penB c2 q2 :: R) ++ [some (Cell.lst (List.map D.int ms))] = A ++ penB c2 q2 :: (R ++ [some (.lst (List.map D.int ms))]) by simp, e3]
        simp
      · intro w hw
        rcases List.mem_append.mp hw with hw | hw
        · exact hms w hw
        · rw [List.mem_singleton.mp hw]; exact ⟨hv0, hv1⟩)
    hs ⟨c, q, [], rfl, rfl, hq0, by omega, by simp, rfl⟩
  refine ⟨ms, c2, q2, e, hml, hms, h1, ?_⟩
  rw [Int.natCast_mul] at h2
  exact h2
/-! ### sums of the least -/
theorem srt_wts {g : List S3} (h : ∀ x ∈ g, Good x) : srtI (nums g) = wts g := sorted_same ((srtI_perm _).trans (wts_perm h).symm) (srtI_le _) (wts_sorted g)
theorem halves_perm (low : Int) (e : Nat) : ∀ ns : List Int, (half low e 0 ns ++ half low e 1 ns).Perm ns
  | [] => .refl _
  | y :: ns => by
    have ih := halves_perm low e ns
    simp only [half] at ih ⊢
    rcases bit01 (low + 2 ^ e) y with h | h
    · rw [List.filter_cons_of_pos (by simp [h]), List.filter_cons_of_neg (by simp [h])]
      exact .cons y ih
    · rw [List.filter_cons_of_neg (by simp [h]), List.filter_cons_of_pos (by simp [h])]
      exact List.perm_middle.trans (.cons y ih)
theorem srt_halves {low : Int} {e : Nat} {ns : List Int} (hb : InB low (e + 1) ns) : srtI ns = srtI (half low e 0 ns) ++ srtI (half low e 1 ns) := by
  have h0 := inB_half hb (m := 0) (.inl rfl)
  have h1 := inB_half hb (m := 1) (.inr rfl)
  refine sorted_same ((srtI_perm ns).trans ((halves_perm low e ns).symm.trans ((srtI_perm _).symm.append (srtI_perm _).symm))) (srtI_le _) ?_
  rw [List.pairwise_append]
  refine ⟨srtI_le _, srtI_le _, fun a ha b hb => ?_⟩
  have ha := h0 a ((srtI_perm _).mem_iff.mp ha)
  have hb := h1 b ((srtI_perm _).mem_iff.mp hb)
  omega
theorem srt_len (ns : List Int) : (srtI ns).length = ns.length := (srtI_perm ns).length_eq
theorem sum_same (w : Int) : ∀ ns : List Int, (∀ y ∈ ns, y = w) → ns.sum = ns.length * w
  | [], _ => by simp
  | y :: ns, h => by
    rw [List.sum_cons, sum_same w ns fun z hz => h z (by simp [hz]), h y (by simp), List.length_cons, Int.natCast_succ, Int.add_mul]
    omega
theorem least_ok {Fs : List Fn} {n i il im isp io ia : Nat} (hA : Fs[i]? = some (f_least_added il i im isp)) (hm : Fs[im]? = some f_many_in) (hF : Fs[il]? = some (f_led io)) (ho : Fs[io]? = some (f_led_one ia)) (ha : Fs[ia]? = some f_ahead) (hsp : Fs[isp]? = some f_span_of) (low0 : Int) (L : Nat) (hL : L ≤ 60) : ∀ (e : Nat) (low : Int) (g : List S3) (ms : List Int) (k : Nat) (st : Store), ms.length + e = L → Marks ms → lowOf low0 L ms = low → (∀ x ∈ g, Good x) → g.length ≤ 1000 → InB low e (nums g) → k ≤ (nums g).length → k ≤ 10 ^ 20 → -10 ^ 60 < low → low + 2 ^ e < 10 ^ 60 →
    cf Fs (n + e + 4) i [Bd low0 L, gaD e low g, .tup (ms.map .int), .int (k : Nat)] st = .ok (.int ((srtI (nums g)).take k).sum) st
  | 0, low, g, ms, k, st, hms, hmk, hlow, hg, hgl, hb, hk, hk2, hl1, hl2 => by
    rw [cf_at hA rfl]; simp only [f_least_added, t_least_added]
    have hspn := fun st => span_ok (n := n + 2) hsp low0 L hL ms hmk (by omega) st
    rw [hlow] at hspn
    by_cases c : k = 0
    · subst c
      simp! [bd_eq, eqD_int, eq_self, show ((0 : Nat) : Int) = 0 from rfl]
      rfl
    · have ck : decide ((k : Int) = 0) = false := decide_eq_false (by omega)
      have cl' : decide (((ms.length : Nat) : Int) = ((L : Nat) : Int)) = true := decide_eq_true (by omega)
      have hs : ((srtI (nums g)).take k).sum = k * low := by
        rw [sum_same low _ fun y hy => by
          have := hb y ((srtI_perm _).mem_iff.mp (List.mem_of_mem_take hy))
          simp at this
          omega, List.length_take, srt_len, Nat.min_eq_left hk]
      rw [bd_eq] at *
      rw [hs]
      simp at hl2
      simp! [eqD_int, ck, List.length_map, cl', hspn, tk_len]
      ((try simp! []); (repeat (walk_at "zo"; try simp! [])))
  | e + 1, low, g, ms, k, st, hms, hmk, hlow, hg, hgl, hb, hk, hk2, hl1, hl2 => by
    rw [show n + (e + 1) + 4 = (n + e + 4) + 1 by omega, cf_at hA rfl]; simp only [f_least_added, t_least_added]
    have hs2 : (2 : Int) ^ (e + 1) = 2 ^ e * 2 := Int.pow_succ ..
    have hpp : (0 : Int) < 2 ^ e := Int.pow_pos (by omega)
    by_cases c : k = 0
    · subst c
      simp! [bd_eq, eqD_int, eq_self, show ((0 : Nat) : Int) = 0 from rfl]
      rfl
    · have hgh : ∀ m, ∀ y ∈ g.map (hl low e m), Good y := fun m y hy => by
        obtain ⟨z, hz, rfl⟩ := List.mem_map.mp hy
        exact (hg z hz).hl low e m
      have l0 := fun st => led1_ok (n := n + e + 1) hF ho ha 0 (.inl rfl) e low g (by omega) hg hgl st
      have l1 := fun st => led1_ok (n := n + e + 1) hF ho ha 1 (.inr rfl) e low g (by omega) hg hgl st
      have mo := fun st => many_ok (n := n + e + 3) hm e (low + 0 * 2 ^ e) (g.map (hl low e 0)) (hgh 0) (by simpa using hgl) st
      have n0 := nums_hl low e 0 g hg
      have n1 := nums_hl low e 1 g hg
      have hlen := halves_len low e (nums g)
      have hb0 : InB (low + 0 * 2 ^ e) e (nums (g.map (hl low e 0))) := by rw [n0]; exact inB_half hb (.inl rfl)
      have hb1 : InB (low + 1 * 2 ^ e) e (nums (g.map (hl low e 1))) := by rw [n1]; exact inB_half hb (.inr rfl)
      have hls := low_snoc ms low0 L
      rw [hlow, show L - ms.length - 1 = e by omega] at hls
      have mk : ∀ m, (m = 0 ∨ m = 1) → Marks (ms ++ [m]) := fun m hm y hy => by
        rcases List.mem_append.mp hy with h | h
        · exact hmk y h
        · rw [List.mem_singleton.mp h]; exact hm
      obtain ⟨M, hM⟩ : ∃ M, M = min k (nums (g.map (hl low e 0))).length := ⟨_, rfl⟩
      have r0 := fun st => least_ok (n := n) hA hm hF ho ha hsp low0 L hL e (low + 0 * 2 ^ e) (g.map (hl low e 0)) (ms ++ [0]) M st (by simp; omega) (mk 0 (.inl rfl)) (hls 0) (hgh 0) (by simpa using hgl) hb0 (by omega) (by omega) (by omega) (by omega)
      have r1 := fun st => least_ok (n := n) hA hm hF ho ha hsp low0 L hL e (low + 1 * 2 ^ e) (g.map (hl low e 1)) (ms ++ [1]) (k - M) st (by simp; omega) (mk 1 (.inr rfl)) (hls 1) (hgh 1) (by simpa using hgl) hb1 (by rw [n0] at hM; rw [n1]; omega) (by omega) (by omega) (by omega)
      have ck : decide ((k : Int) = 0) = false := decide_eq_false (by omega)
      have cl' : decide (((ms.length : Nat) : Int) = ((L : Nat) : Int)) = false := decide_eq_false (by omega)
      have hmin : (if ((nums (g.map (hl low e 0))).length : Int) < (k : Int) then ((nums (g.map (hl low e 0))).length : Int) else (k : Int)) = ((M : Nat) : Int) := by
        rw [hM]; split <;> omega
      have hsub : (k : Int) - (M : Int) = ((k - M : Nat) : Int) := by omega
      have hsum : ((srtI (nums g)).take k).sum = ((srtI (nums (g.map (hl low e 0)))).take M).sum + ((srtI (nums (g.map (hl low e 1)))).take (k - M)).sum := by
        rw [srt_halves hb, n0, n1, List.take_append, List.sum_append, srt_len]
        rw [n0] at hM
        have q1 : (srtI (half low e 0 (nums g))).take k = (srtI (half low e 0 (nums g))).take M := by
          by_cases c2 : k ≤ (half low e 0 (nums g)).length
          · rw [hM, Nat.min_eq_left c2]
          · rw [List.take_of_length_le (by rw [srt_len]; omega), List.take_of_length_le (by rw [srt_len]; omega)]
        have q2 : (srtI (half low e 1 (nums g))).take (k - (half low e 0 (nums g)).length) = (srtI (half low e 1 (nums g))).take (k - M) := by
          by_cases c2 : k ≤ (half low e 0 (nums g)).length
          · rw [hM, Nat.min_eq_left c2, show k - (half low e 0 (nums g)).length = 0 by omega, Nat.sub_self]
          · rw [hM, Nat.min_eq_right (by omega)]
        rw [q1, q2]
      rw [bd_eq] at *
      rw [List.map_append, List.map_cons, List.map_nil] at r0 r1
      rw [hsum]
      have hml : ms.length ≤ 60 := by omega
      simp! [eqD_int, ck, List.length_map, cl', l0, mo, tk_len, hmin]
      ((try simp! [r0, tk_len, l1, hsub]); (repeat (walk_at "zo"; try simp! [r0, tk_len, l1, hsub])))
      rw [show n + e + 4 = n + e + 4 from rfl]
      ((try simp! [r1, tk_len]); (repeat (walk_at "zo"; try simp! [r1, tk_len])))
theorem sum_least_ok {Fs : List Fn} {n i ja il im isp io ia : Nat} {rs : T} (hS : Fs[i]? = some (f_sum_of_least rs ja im)) (hA : Fs[ja]? = some (f_least_added il ja im isp)) (hm : Fs[im]? = some f_many_in) (hF : Fs[il]? = some (f_led io)) (ho : Fs[io]? = some (f_led_one ia)) (ha : Fs[ia]? = some f_ahead) (hsp : Fs[isp]? = some f_span_of) (low : Int) (L : Nat) (hL : L ≤ 60) (hl1 : -10 ^ 50 < low) (hl2 : low < 10 ^ 50) (g : List S3) (hg : ∀ x ∈ g, Good x) (hgl : g.length ≤ 1000) (hb : InB low L (nums g)) (k : Nat) (hk : k ≤ (nums g).length) (hk2 : k ≤ 10 ^ 20) (st : Store) :
    cf Fs (n + L + 5) i [Bd low L, gaD L low g, .int (k : Nat)] st = .ok (.int ((wts g).take k).sum) st := by
  rw [cf_at hS rfl]; simp only [f_sum_of_least, t_sum_of_least]
  have hp := pow2 hL
  have mo := fun st => many_ok (n := n + L + 3) hm L low g hg hgl st
  have la := fun st => least_ok (n := n) hA hm hF ho ha hsp low L hL L low g [] k st (by simp) (by simp [Marks]) rfl hg hgl hb hk hk2 (by omega) (by omega)
  rw [srt_wts hg, List.map_nil] at la
  have c1 : decide ((0 : Int) ≤ (k : Int)) = true := decide_eq_true (by omega)
  have c2 : decide ((k : Int) ≤ ((nums g).length : Nat)) = true := decide_eq_true (by omega)
  simp! [mo, tk_len, c1, c2, la]
theorem sum_least_no {Fs : List Fn} {n i ja im : Nat} (hS : Fs[i]? = some (f_sum_of_least (.sraise 2) ja im)) (hm : Fs[im]? = some f_many_in) (low : Int) (L : Nat) (g : List S3) (hg : ∀ x ∈ g, Good x) (hgl : g.length ≤ 1000) (k : Int) (hk : k < 0 ∨ (nums g).length < k) (st : Store) :
    cf Fs (n + 3) i [Bd low L, gaD L low g, .int k] st = .exc ⟨2, none⟩ st := by
  rw [cf_at hS rfl]; simp only [f_sum_of_least, t_sum_of_least]
  have mo := fun st => many_ok (n := n + 1) hm L low g hg hgl st
  by_cases c : 0 ≤ k
  · have c1 : decide ((0 : Int) ≤ k) = true := decide_eq_true c
    have c2 : decide (k ≤ ((nums g).length : Int)) = false := decide_eq_false (by omega)
    simp! [mo, tk_len, c1, c2]
  · have c1 : decide ((0 : Int) ≤ k) = false := decide_eq_false c
    simp! [c1]
end Zn.PM

/-! PW: a wide row; refusals of nth_least; ranks. -/
namespace Zn.PM
open PySem PySem.Spec PyProof.Rows L2 Zn Zn.PB Zn.PT Zn.PG
def e__law_wide_1 (i__law_take : Nat) : T := (.bin false .Add (.sub (.var 1) (.con (.int 0))) (.call i__law_take false (.cons (.var 0) (.cons (.bin false .LShift (.con (.int 1)) (.sub (.var 1) (.con (.int 1)))) .nil))))
def e__law_wide_2 (i__law_take : Nat) : T := (.sub (.var 2) (.call i__law_take false (.cons (.var 0) (.cons (.blt .len false (.cons (.var 2) .nil)) .nil))))
def t__law_wide (i__law_take : Nat) : T :=
  (.cons (.sset (.tnm 1) (.tup (.cons (.bin false .Sub (.call i__law_take false (.cons (.var 0) (.cons (.con (.int 90)) .nil))) (.con (.int 40))) (.cons (.bin false .Add (.con (.int 1)) (.call i__law_take false (.cons (.var 0) (.cons (.con (.int 8)) .nil)))) .nil)))) (.cons (.sset (.tnm 2) (.comp false (.srng 1 (.cons (.bin false .Add (.con (.int 1)) (.call i__law_take false (.cons (.var 0) (.cons (.con (.int 5)) .nil)))) .nil)) (.tnm 5) [("_law_k", 5)] .no (e__law_wide_1 i__law_take))) (.cons (.sset (.tnm 3) (.comp false (.srng 1 (.cons (.bin false .Add (.con (.int 65)) (.call i__law_take false (.cons (.var 0) (.cons (.con (.int 236)) .nil)))) .nil)) (.tnm 5) [("_law_k", 5)] .no (e__law_wide_2 i__law_take))) (.cons (.sset (.tnm 4) (.call i__law_take false (.cons (.var 0) (.cons (.con (.int 30)) .nil)))) (.cons (.sret (.tup (.cons (.var 1) (.cons (.lst false (.cons (.var 3) .nil)) (.cons (.lst false (.cons (.tup (.cons (.con (.int 0)) (.cons (.var 4) (.cons (.bin false .Sub (.blt .len false (.cons (.var 3) .nil)) (.call i__law_take false (.cons (.var 0) (.cons (.con (.int 30)) .nil)))) .nil)))) .nil)) .nil))))) .nil)))))
def f__law_wide (i__law_take : Nat) : Fn := ⟨"_law_wide", ["_law_pen_here"], ["_law_pen_here", "_law_bounds_here", "_law_few", "_law_row", "_law_start", "_law_k"], t__law_wide i__law_take⟩

theorem wide_ok {Fs : List Fn} {n i it : Nat} (hF : Fs[i]? = some (f__law_wide it)) (ht : Fs[it]? = some f__law_take) (A R : Store) (c q : Int) (hq0 : -1 ≤ q) (hq : q < 10 ^ 27) :
    ∃ (low : Int) (L : Nat) (row : List Int) (s e : Nat) (c' q' : Int), cf Fs (n + 2) i [.ref A.length] (A ++ penB c q :: R) = .ok (.tup [Bd low L, .lst [rowD row], .lst [someD (0, s, e)]]) (A ++ penB c' q' :: R) ∧
      L ≤ 40 ∧ -10 ^ 40 < low ∧ low < 10 ^ 40 ∧ InB low L row ∧ row.length ≤ 300 ∧ s ≤ e ∧ e ≤ row.length ∧ -1 ≤ q' ∧ q' ≤ q + 400 := by
  have take := fun (c q : Int) (h0 : -1 ≤ q) (h : q < 10 ^ 30) (m : Int) (hm : 0 < m) (hm2 : m < 10 ^ 100) => takeB_ok (n := n) ht A R c q h0 h m hm hm2
  rw [cf_at hF rfl]; simp only [f__law_wide, t__law_wide]
  obtain ⟨a, c1, q1, e1, ha0, ha1, h1, h1'⟩ := take c q hq0 (by omega) 90 (by omega) (by omega)
  obtain ⟨b, c2, q2, e2, hb0, hb1, h2, h2'⟩ := take c1 q1 h1 (by omega) 8 (by omega) (by omega)
  obtain ⟨Bn, rfl, hB⟩ := nat_of hb0 hb1
  obtain ⟨d, c3, q3, e3, hd0, hd1, h3, h3'⟩ := take c2 q2 h2 (by omega) 5 (by omega) (by omega)
  obtain ⟨Dn, rfl, hD⟩ := nat_of hd0 hd1
  obtain ⟨low, hlow⟩ : ∃ low, low = a - 40 := ⟨_, rfl⟩
  obtain ⟨L, hL⟩ : ∃ L, L = 1 + Bn := ⟨_, rfl⟩
  have hp := pow2 (e := L) (by omega)
  have h1L : (1 : Int) * 2 ^ ((L : Int)).toNat = 2 ^ L := by simp
  have isInt : ∀ (N : Nat) (x : D), x ∈ rngD 0 N → ∃ j : Int, x = .int j := fun N x hx => by
    simp only [rngD] at hx
    obtain ⟨q, _, rfl⟩ := List.mem_map.mp hx
    exact ⟨_, rfl⟩
  obtain ⟨few, c4, q4, e4, hfl, hfb, h4, h4'⟩ := drawB_ints (F := cf Fs (n + 1)) (m := false) (tg := .tnm 5) (elt := e__law_wide_1 it) (env := [some (.ref A.length), some (.tup [.int low, .int (L : Nat)]), none, none, none, none]) (lo := low) (hi := low + 2 ^ L) 1 (rngD 0 (1 + Dn)) A R c3 q3 h3 (by rw [PA.rngD_len]; omega) (by rw [PA.rngD_len]; simp only [sizeLine]; omega) (by
    intro x hx c q R h1 h2
    obtain ⟨j, rfl⟩ := isInt _ x hx
    obtain ⟨v, c', q', e, h3, h4, h5, h6⟩ := takeB_ok (n := n) ht A R c q h1 (by omega) (2 ^ L) hp.1 (by omega)
    refine ⟨low + v, c', q', ?_, by omega, by omega, h5, h6⟩
    simp only [e__law_wide_1]
    simp! []
    ((try simp! [h1L, e, tkB]); (repeat (walk_at "zo"; try simp! [h1L, e, tkB]))))
  rw [PA.rngD_len] at hfl h4'
  obtain ⟨f, c5, q5, e5, hf0, hf1, h5, h5'⟩ := take c4 q4 h4 (by omega) 236 (by omega) (by omega)
  obtain ⟨Fn', rfl, hFn⟩ := nat_of hf0 hf1
  obtain ⟨row, c6, q6, e6, hrl, hrb, h6, h6'⟩ := drawB_ints (F := cf Fs (n + 1)) (m := false) (tg := .tnm 5) (elt := e__law_wide_2 it) (env := [some (.ref A.length), some (.tup [.int low, .int (L : Nat)]), some (.lst (few.map .int)), none, none, none]) (lo := low) (hi := low + 2 ^ L) 1 (rngD 0 (65 + Fn')) A R c5 q5 h5 (by rw [PA.rngD_len]; omega) (by rw [PA.rngD_len]; simp only [sizeLine]; omega) (by
    intro x hx c q R h1 h2
    obtain ⟨j, rfl⟩ := isInt _ x hx
    obtain ⟨v, c', q', e, h3, h4, h5, h6⟩ := takeB_ok (n := n) ht A R c q h1 (by omega) (few.length : Int) (by omega) (by omega)
    obtain ⟨y, hy, hym⟩ := PA.atI_mem (xs := few.map D.int) h3 (by simpa using h4)
    obtain ⟨z, hz, rfl⟩ := List.mem_map.mp hym
    have := hfb z hz
    refine ⟨z, c', q', ?_, this.1, this.2, h5, h6⟩
    simp only [e__law_wide_2]
    simp! [List.length_map, e, tkB, hy])
  rw [PA.rngD_len] at hrl h6'
  obtain ⟨s, c7, q7, e7, hs0, hs1, h7, h7'⟩ := take c6 q6 h6 (by omega) 30 (by omega) (by omega)
  obtain ⟨S, rfl, hS⟩ := nat_of hs0 hs1
  obtain ⟨t, c8, q8, e8, ht0, ht1, h8, h8'⟩ := take c7 q7 h7 (by omega) 30 (by omega) (by omega)
  have hE : ((row.length : Nat) : Int) - t = ((row.length - t.toNat : Nat) : Int) := by omega
  refine ⟨low, L, row, S, row.length - t.toNat, c8, q8, ?_, by omega, by omega, by omega, hrb, by omega, by omega, by omega, h8, by omega⟩
  rw [mk_false] at e4 e6
  have r1 : rngOk (1 + (Dn : Int)) = true := by simp only [rngOk, Bool.and_eq_true, decide_eq_true_eq]; omega
  have r2 : rngOk (65 + (Fn' : Int)) = true := by simp only [rngOk, Bool.and_eq_true, decide_eq_true_eq]; omega
  have n1 : (1 + (Dn : Int)).toNat = 1 + Dn := by omega
  have n2 : (65 + (Fn' : Int)).toNat = 65 + Fn' := by omega
  have hLc : 1 + (Bn : Int) = (L : Int) := by omega
  simp! [e1, e2, tkB, ← hlow, hLc, e3, rngF, rng1F, r1, n1, e4, e5, r2, n2, e6, e7, e8, List.length_map, hE]
  rfl
theorem nth_no {Fs : List Fn} {n i iw im ii isp : Nat} (hN : Fs[i]? = some (f_nth_least (.sraise 2) iw ii im isp)) (hm : Fs[im]? = some f_many_in) (low : Int) (L : Nat) (g : List S3) (hg : ∀ x ∈ g, Good x) (hgl : g.length ≤ 1000) (k : Int) (hk : k < 0 ∨ (nums g).length ≤ k) (st : Store) :
    cf Fs (n + 3) i [Bd low L, gaD L low g, .int k] st = .exc ⟨2, none⟩ st := by
  rw [cf_at hN rfl]; simp only [f_nth_least, t_nth_least]
  have mo := fun st => many_ok (n := n + 1) hm L low g hg hgl st
  by_cases c : 0 ≤ k
  · have c1 : decide ((0 : Int) ≤ k) = true := decide_eq_true c
    have c2 : decide (k < ((nums g).length : Int)) = false := decide_eq_false (by omega)
    simp! [mo, tk_len, c1, c2]
  · have c1 : decide ((0 : Int) ≤ k) = false := decide_eq_false c
    simp! [c1]
theorem ga_pl (L : Nat) (hL : L ≤ 60) (low : Int) (g : List S3) : Pl 64 (gaD L low g) := by
  refine (Pl.lst (k := L + 3) fun d hd => ?_).le (by omega)
  obtain ⟨x, _, rfl⟩ := List.mem_map.mp hd
  refine .tup fun d hd => ?_
  simp only [List.mem_cons, List.not_mem_nil, or_false] at hd
  rcases hd with rfl | rfl | rfl
  · exact tree_pl L low x.1
  · exact .int _
  · exact .int _
theorem tups_pl (nss : List (List Int)) : Pl 64 (.lst (nss.map tupD)) := by
  refine (Pl.lst (k := 1) fun d hd => ?_).le (by omega)
  obtain ⟨x, _, rfl⟩ := List.mem_map.mp hd
  exact Pl.tints x
end Zn.PM

/-! PX: ranks of things. -/
namespace Zn.PM
open PySem PySem.Spec PyProof.Rows L2 Zn Zn.PB Zn.PT Zn.PG
theorem seg_pre {x : S3} {r : Nat} (h : x.2.1 + r ≤ x.2.2) : seg (x.1, x.2.1, x.2.1 + r) = (seg x).take r := by
  simp only [seg]
  rw [List.take_take, show x.2.1 + r - x.2.1 = r by omega, Nat.min_eq_left (by omega)]
theorem nums_app (a b : List S3) : nums (a ++ b) = nums a ++ nums b := by simp [nums]
theorem rank_ok {Fs : List Fn} {n i ib im il iy iw it iN isp is io ia : Nat} {rs rn ry : T} (hR : Fs[i]? = some (f_rank_of rs iN ib im il iy)) (hB : Fs[ib]? = some (f_below iy iw im il)) (hy : Fs[iy]? = some (f_way_of ry iw)) (hw : Fs[iw]? = some (f_where it)) (ht : Fs[it]? = some f_top_of) (hm : Fs[im]? = some f_many_in) (hF : Fs[il]? = some (f_led io)) (ho : Fs[io]? = some (f_led_one ia)) (ha : Fs[ia]? = some f_ahead)
    (hN : Fs[iN]? = some (f_number_at rn ia isp is)) (hsp : Fs[isp]? = some f_span_of) (hs : Fs[is]? = some PT.f_size_of) (low : Int) (L : Nat) (hL : L ≤ 60) (g : List S3) (hg : ∀ x ∈ g, Good x) (hgl : g.length ≤ 900) (hb : ∀ x ∈ g, InB low L x.1) (hrl : ∀ x ∈ g, x.1.length ≤ 1000) (j : Nat) (x : S3) (w : Int) (r : Nat) (h1 : g[j]? = some x) (h2 : (seg x)[r]? = some w) (st : Store) :
    cf Fs (n + 5) i [Bd low L, gaD L low g, .int (j : Nat), .int ((x.2.1 + r : Nat) : Int)] st = .ok (.int ((cl w (nums g) + eqc w (nums (g.take j)) + eqc w ((seg x).take r) : Nat) : Int)) st := by
  rw [cf_at hR rfl]; simp only [f_rank_of, t_rank_of]
  have hj : j < g.length := (List.getElem?_eq_some_iff.mp h1).1
  have hxm := List.mem_of_getElem? h1
  have hgx := hg x hxm
  have hrs : r < (seg x).length := (List.getElem?_eq_some_iff.mp h2).1
  rw [seg_len hgx] at hrs
  have hrow : x.1[x.2.1 + r]? = some w := by
    have h2' := h2
    rw [seg, List.getElem?_take_of_lt hrs, List.getElem?_drop] at h2'
    exact h2'
  have hwb := hb x hxm w (List.mem_of_getElem? hrow)
  obtain ⟨row, s, t⟩ := x
  obtain ⟨hg1, hg2⟩ := hgx
  simp only at hg1 hg2 hrs hrow hwb h1 h2 ⊢
  have hgD : (g.map (stD L low))[j]? = some (stD L low (row, s, t)) := by rw [List.getElem?_map, h1]; rfl
  have nm := fun st => num_ok (n := n + 2) hN ha hsp hs low L hL row (by have := hrl _ hxm; simp only at this; omega) (hb _ hxm) (s + r) w hrow st
  have bl := fun st => below_ok (n := n) hB hy hw ht hm hF ho ha low L hL g hg (by omega) (g_inB hb) w st
  have wa := fun st => way_ok (n := n + 1) hy hw ht low L hL w hwb.1 hwb.2 st
  rw [wayD, way_wy L low w hwb.1 hwb.2] at wa
  obtain ⟨sg, hsg⟩ : ∃ sg, sg = g.take j ++ [(row, s, s + r)] := ⟨_, rfl⟩
  have hsgg : ∀ y ∈ sg, Good y := fun y hy => by
    rw [hsg] at hy
    rcases List.mem_append.mp hy with hy | hy
    · exact hg y (List.mem_of_mem_take hy)
    · rw [List.mem_singleton.mp hy]
      exact ⟨by simp, by simp only; omega⟩
  have hsgb : ∀ y ∈ sg, InB low L y.1 := fun y hy => by
    rw [hsg] at hy
    rcases List.mem_append.mp hy with hy | hy
    · exact hb y (List.mem_of_mem_take hy)
    · rw [List.mem_singleton.mp hy]
      exact hb (row, s, t) hxm
  have hsgl : sg.length ≤ 1000 := by rw [hsg]; simp; omega
  have ld := fun st => led_ok (n := n + 1) hF ho ha (wy L low w) L low sg (by rw [wy_len]; omega) hL (wy_marks _ _ _) hsgg hsgl false st
  have mo := fun st => many_ok (n := n + 3) hm (L - (wy L low w).length) (lowOf low L (wy L low w)) (sg.map (ledS L low (wy L low w))) (fun y hy => by
    obtain ⟨z, hz, rfl⟩ := List.mem_map.mp hy
    exact Good.ledS _ _ _ (hsgg z hz)) (by simpa using hsgl) st
  rw [nums_full hwb.1 hwb.2 sg hsgg hsgb] at mo
  have hsn : eqc w (nums sg) = eqc w (nums (g.take j)) + eqc w ((seg (row, s, t)).take r) := by
    have hsp2 := seg_pre (x := (row, s, t)) (r := r) (by simp only; omega)
    simp only at hsp2
    rw [hsg, nums_app, eqc_app]
    congr 1
    rw [show nums [(row, s, s + r)] = seg (row, s, s + r) by simp [nums], hsp2]
  have c1 : decide ((0 : Int) ≤ (j : Int)) = true := decide_eq_true (by omega)
  have c2 : decide ((j : Int) < (g.length : Nat)) = true := decide_eq_true (by omega)
  have c3 : decide ((s : Int) ≤ ((s + r : Nat) : Int)) = true := decide_eq_true (by omega)
  have c4 : decide (((s + r : Nat) : Int) < (t : Int)) = true := decide_eq_true (by omega)
  have sgD : (g.map (stD L low)).take j ++ [.tup [treeD L low row, .int (s : Nat), .int ((s + r : Nat) : Int)]] = sg.map (stD L low) := by
    rw [hsg, List.map_append, List.map_take]
    rfl
  rw [bd_eq, gaD] at *
  simp! [List.length_map, c1, c2, hgD, stD, c3, c4, nm, tk_len, cut_to, tree_noref]
  rw [add_lst _ _ _ _ (by simp; omega), sgD]
  simp! [bl, tk_len, wa, ld, mo, hsn]
  congr 2
  omega
theorem rank_no {Fs : List Fn} {n i ib im il iy iN : Nat} (hR : Fs[i]? = some (f_rank_of (.sraise 2) iN ib im il iy)) (low : Int) (L : Nat) (g : List S3) (j p : Int) (h : j < 0 ∨ (g.length : Int) ≤ j ∨ ∃ (J : Nat) (x : S3), j = J ∧ g[J]? = some x ∧ (p < x.2.1 ∨ (x.2.2 : Int) ≤ p)) (st : Store) :
    cf Fs (n + 1) i [Bd low L, gaD L low g, .int j, .int p] st = .exc ⟨2, none⟩ st := by
  rw [cf_at hR rfl]; simp only [f_rank_of, t_rank_of]
  rw [gaD]
  by_cases c : 0 ≤ j
  · have c1 : decide ((0 : Int) ≤ j) = true := decide_eq_true c
    by_cases c' : j < g.length
    · have c2 : decide (j < ((g.length : Nat) : Int)) = true := decide_eq_true c'
      obtain ⟨J, x, rfl, hx, hp⟩ : ∃ (J : Nat) (x : S3), j = J ∧ g[J]? = some x ∧ (p < x.2.1 ∨ (x.2.2 : Int) ≤ p) := by
        rcases h with h | h | h
        · omega
        · omega
        · exact h
      have hgD : (g.map (stD L low))[J]? = some (stD L low x) := by rw [List.getElem?_map, hx]; rfl
      by_cases c3 : (x.2.1 : Int) ≤ p
      · have c4 : decide ((x.2.1 : Int) ≤ p) = true := decide_eq_true c3
        have c5 : decide (p < (x.2.2 : Int)) = false := decide_eq_false (by omega)
        simp! [List.length_map, c1, c2, hgD, stD, c4, c5]
      · have c4 : decide ((x.2.1 : Int) ≤ p) = false := decide_eq_false c3
        simp! [List.length_map, c1, c2, hgD, stD, c4]
    · have c2 : decide (j < ((g.length : Nat) : Int)) = false := decide_eq_false c'
      simp! [List.length_map, c1, c2]
  · have c1 : decide ((0 : Int) ≤ j) = false := decide_eq_false c
    simp! [c1]
theorem nodup_inj {α : Type} {t : α} : ∀ {l : List α} {a b : Nat}, l.Nodup → l[a]? = some t → l[b]? = some t → a = b
  | [], _, _, _, h, _ => by simp at h
  | x :: l, 0, 0, _, _, _ => rfl
  | x :: l, 0, b + 1, hn, h1, h2 => by
    rw [List.nodup_cons] at hn
    simp only [List.getElem?_cons_zero, Option.some.injEq] at h1
    rw [List.getElem?_cons_succ] at h2
    exact absurd (List.mem_of_getElem? h2) (by rw [← h1]; exact hn.1)
  | x :: l, a + 1, 0, hn, h1, h2 => by
    rw [List.nodup_cons] at hn
    simp only [List.getElem?_cons_zero, Option.some.injEq] at h2
    rw [List.getElem?_cons_succ] at h1
    exact absurd (List.mem_of_getElem? h1) (by rw [← h2]; exact hn.1)
  | x :: l, a + 1, b + 1, hn, h1, h2 => by
    rw [List.nodup_cons] at hn
    rw [List.getElem?_cons_succ] at h1 h2
    rw [nodup_inj hn.2 h1 h2]
theorem things_nodup {g : List S3} (hg : ∀ x ∈ g, Good x) : (srtT (thg 0 g)).Nodup := (srtT_perm _).nodup_iff.mpr (thg_nodup g 0 hg)
theorem thing_rank {g : List S3} (hg : ∀ x ∈ g, Good x) {k : Nat} (hk : k < (srtT (thg 0 g)).length) : ∃ (w : Int) (j r : Nat) (x : S3), (srtT (thg 0 g))[k]? = some [w, (j : Int), ((x.2.1 + r : Nat) : Int)] ∧ g[j]? = some x ∧ (seg x)[r]? = some w ∧ cl w (nums g) + eqc w (nums (g.take j)) + eqc w ((seg x).take r) = k := by
  have h1 : (srtT (thg 0 g))[k]? = some (srtT (thg 0 g))[k] := List.getElem?_eq_getElem hk
  obtain ⟨j, x, w, q, hx, ht, hq, hw⟩ := thg_mem hg ((srtT_perm _).mem_iff.mp (List.mem_of_getElem? h1))
  rw [Nat.zero_add] at ht
  have e : x.2.1 + (q - x.2.1) = q := by omega
  have h2 := thing_at hg hx hw
  rw [e, ← ht] at h2
  exact ⟨w, j, q - x.2.1, x, by rw [e, h1, ht], hx, hw, nodup_inj (things_nodup hg) h2 h1⟩
end Zn.PM

/-! PY: unlike worths, rising; what a drawn gathering is. -/
namespace Zn.PM
open PySem PySem.Spec PyProof.Rows L2 Zn Zn.PB Zn.PT Zn.PG
theorem head_same : ∀ {l m : List Int}, l.Pairwise (· ≤ ·) → m.Pairwise (· ≤ ·) → (∀ x, x ∈ l ↔ x ∈ m) → l.head? = m.head?
  | [], [], _, _, _ => rfl
  | [], y :: _, _, _, h => absurd ((h y).mpr (by simp)) (by simp)
  | x :: _, [], _, _, h => absurd ((h x).mp (by simp)) (by simp)
  | x :: l, y :: m, hl, hm, h => by
    have h1 : y ≤ x := by
      rcases List.mem_cons.mp ((h x).mp (by simp)) with e | e
      · omega
      · exact (List.pairwise_cons.mp hm).1 x e
    have h2 : x ≤ y := by
      rcases List.mem_cons.mp ((h y).mpr (by simp)) with e | e
      · omega
      · exact (List.pairwise_cons.mp hl).1 y e
    simp only [List.head?_cons]
    congr 1
    omega
theorem rev_le {l : List Int} (h : l.Pairwise (· ≤ ·)) : (l.reverse.map fun x => -x).Pairwise (· ≤ ·) := by
  rw [List.pairwise_map, List.pairwise_reverse]
  exact h.imp fun h => by omega
theorem last_same {l m : List Int} (hl : l.Pairwise (· ≤ ·)) (hm : m.Pairwise (· ≤ ·)) (h : ∀ x, x ∈ l ↔ x ∈ m) : l.reverse.head? = m.reverse.head? := by
  have := head_same (rev_le hl) (rev_le hm) (fun x => by
    simp only [List.mem_map, List.mem_reverse]
    constructor
    · rintro ⟨y, hy, e⟩; exact ⟨y, (h y).mp hy, e⟩
    · rintro ⟨y, hy, e⟩; exact ⟨y, (h y).mpr hy, e⟩)
  simp only [List.head?_map] at this
  rcases h1 : l.reverse.head? with _ | a <;> rcases h2 : m.reverse.head? with _ | b <;> rw [h1, h2] at this <;> simp at this ⊢
  omega
/-- strictly rising lists with the same members are the same -/
theorem rise_same : ∀ {l m : List Int}, l.Pairwise (· < ·) → m.Pairwise (· < ·) → (∀ x, x ∈ l ↔ x ∈ m) → l = m
  | [], [], _, _, _ => rfl
  | [], y :: _, _, _, h => absurd ((h y).mpr (by simp)) (by simp)
  | x :: _, [], _, _, h => absurd ((h x).mp (by simp)) (by simp)
  | x :: l, y :: m, hl, hm, h => by
    have e := head_same (hl.imp fun h => Int.le_of_lt h) (hm.imp fun h => Int.le_of_lt h) h
    have e : x = y := by simpa using e
    subst e
    have hl' := List.pairwise_cons.mp hl
    have hm' := List.pairwise_cons.mp hm
    rw [rise_same hl'.2 hm'.2 fun z => ?_]
    have hz := h z
    simp only [List.mem_cons] at hz
    constructor
    · intro a
      rcases hz.mp (.inr a) with e | e
      · have := hl'.1 z a; omega
      · exact e
    · intro a
      rcases hz.mpr (.inr a) with e | e
      · have := hm'.1 z a; omega
      · exact e
/-- the unlike ones of a sorted list -/
def dst : List Int → List Int
  | [] => []
  | w :: r => w :: dst (r.filter fun y => decide (w < y))
termination_by l => l.length
decreasing_by simp only [List.length_cons, List.length_unattach]; exact Nat.lt_succ_of_le (Nat.le_trans (List.length_filter_le _ _) (by simp))
theorem dst_nil : dst [] = [] := by simp [dst]
theorem dst_cons (w : Int) (r : List Int) : dst (w :: r) = w :: dst (r.filter fun y => decide (w < y)) := by rw [dst]
theorem dst_mem : ∀ (n : Nat) (l : List Int), l.length ≤ n → l.Pairwise (· ≤ ·) → ∀ x, x ∈ dst l ↔ x ∈ l
  | _, [], _, _, x => by rw [dst_nil]
  | 0, _ :: _, h, _, _ => absurd h (by simp)
  | n + 1, w :: r, h, hp, x => by
    have hp' := List.pairwise_cons.mp hp
    rw [dst_cons, List.mem_cons, List.mem_cons, dst_mem n _ (by have := List.length_filter_le (fun y => decide (w < y)) r; simp only [List.length_cons] at h; omega) (hp'.2.filter _)]
    simp only [List.mem_filter, decide_eq_true_eq]
    constructor
    · rintro (h | h); exact .inl h; exact .inr h.1
    · rintro (h | h)
      · exact .inl h
      · have := hp'.1 x h
        by_cases e : x = w
        · exact .inl e
        · exact .inr ⟨h, by omega⟩
theorem dst_lt : ∀ (n : Nat) (l : List Int), l.length ≤ n → (dst l).Pairwise (· < ·)
  | _, [], _ => by rw [dst_nil]; exact .nil
  | 0, _ :: _, h => absurd h (by simp)
  | n + 1, w :: r, h => by
    have hl : (r.filter fun y => decide (w < y)).length ≤ n := by have := List.length_filter_le (fun y => decide (w < y)) r; simp only [List.length_cons] at h; omega
    rw [dst_cons, List.pairwise_cons]
    refine ⟨fun x hx => ?_, dst_lt n _ hl⟩
    have : ∀ (n : Nat) (l : List Int), l.length ≤ n → ∀ x ∈ dst l, x ∈ l := by
      intro n
      induction n with
      | zero => intro l h x hx; cases l with
        | nil => rw [dst_nil] at hx; exact hx
        | cons a b => simp at h
      | succ n ih => intro l h x hx; cases l with
        | nil => rw [dst_nil] at hx; exact hx
        | cons a b =>
          rw [dst_cons] at hx
          rcases List.mem_cons.mp hx with e | e
          · rw [e]; simp
          · have := ih _ (by have := List.length_filter_le (fun y => decide (a < y)) b; simp only [List.length_cons] at h; omega) x e
            exact List.mem_cons_of_mem _ (List.mem_filter.mp this).1
    have := this n _ hl x hx
    simpa using (List.mem_filter.mp this).2
/-- the unlike worths of a gathering, rising -/
def ws (g : List S3) : List Int := dst (wts g)
theorem ws_lt (g : List S3) : (ws g).Pairwise (· < ·) := dst_lt _ _ (Nat.le_refl _)
theorem ws_le (g : List S3) : (ws g).Pairwise (· ≤ ·) := (ws_lt g).imp fun h => Int.le_of_lt h
theorem ws_mem {g : List S3} (h : ∀ x ∈ g, Good x) (x : Int) : x ∈ ws g ↔ x ∈ nums g := by
  rw [ws, dst_mem _ _ (Nat.le_refl _) (wts_sorted g)]
  exact (wts_perm h).mem_iff
theorem upD_head (g : List S3) : ∀ {l m : List Int}, l.head? = m.head? → upD g l = upD g m
  | [], [], _ => rfl
  | [], _ :: _, h => by cases h
  | _ :: _, [], h => by cases h
  | x :: _, y :: _, h => by
    have : x = y := by simpa using h
    subst this
    rfl
theorem up_ws (g : List S3) (p : Int → Bool) : upD g ((wts g).filter p) = upD g ((ws g).filter p) := by
  refine upD_head g (head_same ((wts_sorted g).filter _) ((ws_le g).filter _) fun x => ?_)
  simp only [List.mem_filter, ws, dst_mem _ _ (Nat.le_refl _) (wts_sorted g)]
theorem dn_ws (g : List S3) (p : Int → Bool) : upD g ((wts g).filter p).reverse = upD g ((ws g).filter p).reverse := by
  refine upD_head g (last_same ((wts_sorted g).filter _) ((ws_le g).filter _) fun x => ?_)
  simp only [List.mem_filter, ws, dst_mem _ _ (Nat.le_refl _) (wts_sorted g)]
theorem eqc_pos {w : Int} {ns : List Int} (h : w ∈ ns) : 0 < eqc w ns := by
  rw [eqc, List.length_pos_iff_exists_mem]
  exact ⟨w, List.mem_filter.mpr ⟨h, by simp⟩⟩
theorem eqc_zero {w : Int} {ns : List Int} (h : w ∉ ns) : eqc w ns = 0 := by
  rw [eqc, List.length_eq_zero_iff, List.filter_eq_nil_iff]
  intro y hy e
  exact h (by rw [← of_decide_eq_true e]; exact hy)
/-- the manys of unlike worths among which all lie come to all -/
theorem eqc_sum : ∀ (us ns : List Int), us.Pairwise (· < ·) → (∀ x ∈ ns, x ∈ us) → (us.map fun w => eqc w ns).sum = ns.length
  | [], ns, _, h => by
    cases ns with
    | nil => rfl
    | cons a b => exact absurd (h a (by simp)) (by simp)
  | u :: us, ns, hp, h => by
    have hp' := List.pairwise_cons.mp hp
    have e : ∀ w ∈ us, eqc w ns = eqc w (ns.filter fun y => decide (y ≠ u)) := by
      intro w hw
      rw [eqc, eqc, List.filter_filter]
      congr 1
      apply List.filter_congr
      intro y _
      have := hp'.1 w hw
      by_cases e : y = w
      · subst e; simp; omega
      · simp [e]
    rw [List.map_cons, List.sum_cons, List.map_congr_left e, eqc_sum us _ hp'.2 (fun x hx => by
      have hx' := List.mem_filter.mp hx
      rcases List.mem_cons.mp (h x hx'.1) with e | e
      · simp [e] at hx'
      · exact e)]
    have : ∀ ns : List Int, eqc u ns + (ns.filter fun y => decide (y ≠ u)).length = ns.length := by
      intro ns
      induction ns with
      | nil => rfl
      | cons a b ih =>
        rw [eqc_cons, List.filter_cons]
        by_cases e : a = u
        · simp [e] at ih ⊢; omega
        · simp [e] at ih ⊢; omega
    exact this ns
/-- what a drawn gathering is -/
structure GC (low : Int) (L : Nat) (g : List S3) : Prop where
  hL : L ≤ 40
  lo : -10 ^ 45 < low
  hi : low < 10 ^ 45
  hg : ∀ x ∈ g, Good x
  hl : g.length ≤ 100
  hb : ∀ x ∈ g, InB low L x.1
  hr : ∀ x ∈ g, x.1.length ≤ 500
theorem GC.nb {low : Int} {L : Nat} {g : List S3} (G : GC low L g) : InB low L (nums g) := g_inB G.hb
theorem GC.nl {low : Int} {L : Nat} {g : List S3} (G : GC low L g) : (nums g).length ≤ 50000 := by
  have h1 := nums_len g G.hg 500 G.hr
  have h2 := G.hl
  have : 500 * g.length ≤ 500 * 100 := Nat.mul_le_mul_left _ h2
  omega
theorem GC.app {low : Int} {L : Nat} {a b : List S3} (A : GC low L a) (B : GC low L b) (h : a.length + b.length ≤ 100) : GC low L (a ++ b) :=
  ⟨A.hL, A.lo, A.hi, fun x hx => (List.mem_append.mp hx).elim (A.hg x) (B.hg x), by rw [List.length_append]; exact h, fun x hx => (List.mem_append.mp hx).elim (A.hb x) (B.hb x), fun x hx => (List.mem_append.mp hx).elim (A.hr x) (B.hr x)⟩
theorem GC.sub {low : Int} {L : Nat} {a b : List S3} (A : GC low L a) (h : ∀ x ∈ b, x ∈ a) (hl : b.length ≤ 100) : GC low L b :=
  ⟨A.hL, A.lo, A.hi, fun x hx => A.hg x (h x hx), hl, fun x hx => A.hb x (h x hx), fun x hx => A.hr x (h x hx)⟩
theorem GC.of {low : Int} {L : Nat} {rows : List (List Int)} {so : List (Nat × Nat × Nat)} (hL : L ≤ 40) (h1 : -10 ^ 40 < low) (h2 : low < 10 ^ 40) (hrows : ∀ r ∈ rows, InB low L r ∧ r.length ≤ 300) (hso : ∀ x ∈ so, OkSome rows x) (hs : so.length ≤ 50) : GC low L (gath rows so) := by
  have hmem : ∀ x ∈ gath rows so, x.1 ∈ rows := fun x hx => by
    obtain ⟨y, hy, rfl⟩ := List.mem_map.mp hx
    exact List.mem_of_getElem? (row_at (hso y hy)).1
  exact ⟨hL, by omega, by omega, gath_good hso, by simp [gath]; omega, fun x hx => (hrows _ (hmem x hx)).1, fun x hx => by have := (hrows _ (hmem x hx)).2; omega⟩
/-- the worth at a place in order -/
theorem wts_cl {g : List S3} (hg : ∀ x ∈ g, Good x) {k : Nat} {w : Int} (h : (wts g)[k]? = some w) : cl w (nums g) ≤ k ∧ k < cl w (nums g) + eqc w (nums g) := by
  have hs := wts_sorted g
  have e1 := sorted_lt w _ hs
  have e2 := sorted_gt w _ hs
  obtain ⟨hk, hw⟩ := List.getElem?_eq_some_iff.mp h
  have c1 := cl_wts hg w
  have c2 := cl_wts hg (w + 1)
  have c3 := cl_succ w (nums g)
  rw [← c1]
  constructor
  · apply Nat.le_of_not_lt
    intro hlt
    have : w ∈ (wts g).take (cl w (wts g)) := List.mem_of_getElem? (i := k) (by rw [List.getElem?_take_of_lt hlt]; exact h)
    rw [← e1] at this
    have := (List.mem_filter.mp this).2
    simp at this
  · apply Nat.lt_of_not_le
    intro hge
    have e3 : cl (w + 1) (wts g) ≤ k := by omega
    have : w ∈ (wts g).drop (cl (w + 1) (wts g)) := List.mem_of_getElem? (i := k - cl (w + 1) (wts g)) (by rw [List.getElem?_drop, show cl (w + 1) (wts g) + (k - cl (w + 1) (wts g)) = k by omega]; exact h)
    rw [← e2] at this
    have := (List.mem_filter.mp this).2
    simp at this
/-- a list with parts of it at unlike ends -/
theorem ws_drop {us : List Int} (h : us.Pairwise (· < ·)) {i : Nat} {u : Int} (hu : us[i]? = some u) : us.filter (fun y => decide (u < y)) = us.drop (i + 1) := by
  obtain ⟨hi, he⟩ := List.getElem?_eq_some_iff.mp hu
  have e : us = us.take i ++ u :: us.drop (i + 1) := by
    conv => lhs; rw [← List.take_append_drop i us, List.drop_eq_getElem_cons hi, he]
  rw [e] at h
  have hp := List.pairwise_append.mp h
  conv => lhs; rw [e]
  rw [List.filter_append, List.filter_eq_nil_iff.mpr (fun y hy => by have := hp.2.2 y hy u (by simp); simp; omega), List.filter_cons_of_neg (by simp), List.nil_append]
  exact List.filter_eq_self.mpr fun y hy => by simpa using (List.pairwise_cons.mp hp.2.1).1 y hy
theorem ws_take {us : List Int} (h : us.Pairwise (· < ·)) {i : Nat} {u : Int} (hu : us[i]? = some u) : us.filter (fun y => decide (y < u)) = us.take i := by
  obtain ⟨hi, he⟩ := List.getElem?_eq_some_iff.mp hu
  have e : us = us.take i ++ u :: us.drop (i + 1) := by
    conv => lhs; rw [← List.take_append_drop i us, List.drop_eq_getElem_cons hi, he]
  rw [e] at h
  have hp := List.pairwise_append.mp h
  conv => lhs; rw [e]
  rw [List.filter_append, List.filter_eq_self.mpr (fun y hy => by have := hp.2.2 y hy u (by simp); simp; omega), List.filter_cons_of_neg (by simp), List.filter_eq_nil_iff.mpr (fun y hy => by have := (List.pairwise_cons.mp hp.2.1).1 y hy; simp; omega), List.append_nil]
section
variable (F : CallF) (env : Zn.Env) (st : Store) (low : Int) (L e : Nat) (m : Bool) (k : Nat)
theorem bd0 : subIx (Bd low L) (.int 0) st = .ok (.int low) st := rfl
theorem bd1 : subIx (Bd low L) (.int 1) st = .ok (.int (L : Nat)) st := rfl
theorem bd_nr : (Bd low L).isRef = false := rfl
theorem as_bd (ts : T) : asg F (.ttp ts) (Bd low L) env st = asg.asgs F ts [.int low, .int (L : Nat)] env st := rfl
theorem ga_ce (g : List S3) : callEnd m k (gaD e low g) st = .ok (gaD e low g) (st.take k) := rfl
theorem ga_nr (g : List S3) : (gaD e low g).isRef = false := rfl
theorem ga_len (g : List S3) : bltF .len m [gaD e low g] st = .ok (.int (g.length : Nat)) st := by
  rw [gaD, len_lst, List.length_map]
theorem ga_sub {g : List S3} {j : Nat} {x : S3} (h : g[j]? = some x) : subIx (gaD e low g) (.int (j : Nat)) st = .ok (stD e low x) st := by
  rw [gaD, sub_lst, atI_ofNat, List.getElem?_map, h]; rfl
theorem ga_add (a b : List S3) (h : a.length + b.length ≤ 16777216) : binF false .Add (gaD e low a) (gaD e low b) st = .ok (gaD e low (a ++ b)) st := by
  rw [gaD, gaD, add_lst _ _ _ _ (by simpa using h), mk_false, ← List.map_append]; rfl
theorem ga_wk (g : List S3) : wkOf (gaD e low g) st = .ok (.fix (g.map (stD e low))) st := rfl
theorem ga_val (g : List S3) : val st (gaD e low g) = gaD e low g := rfl
theorem ga_lstOf (g : List S3) : lstOf st (gaD e low g) = some (g.map (stD e low)) := rfl
theorem st0 (x : S3) : subIx (stD e low x) (.int 0) st = .ok (treeD e low x.1) st := rfl
theorem st1 (x : S3) : subIx (stD e low x) (.int 1) st = .ok (.int (x.2.1 : Nat)) st := rfl
theorem st2 (x : S3) : subIx (stD e low x) (.int 2) st = .ok (.int (x.2.2 : Nat)) st := rfl
theorem as_st (ts : T) (x : S3) : asg F (.ttp ts) (stD e low x) env st = asg.asgs F ts [treeD e low x.1, .int (x.2.1 : Nat), .int (x.2.2 : Nat)] env st := rfl
theorem st_ce (x : S3) : callEnd m k (stD e low x) st = .ok (stD e low x) (st.take k) := rfl
theorem ce_int' (i : Int) : callEnd m k (.int i) st = .ok (.int i) (st.take k) := rfl
theorem tr_ce (row : List Int) : callEnd m k (treeD e low row) st = .ok (treeD e low row) (st.take k) := ce_dat m k st (tree_noref e low row)
theorem up_nr (g : List S3) (l : List Int) : (upD g l).isRef = false := by cases l <;> rfl
theorem up_ce (g : List S3) (l : List Int) : callEnd m k (upD g l) st = .ok (upD g l) (st.take k) := ce_dat m k st (up_nr g l)
theorem tup_ce (t : List Int) : callEnd m k (tupD t) st = .ok (tupD t) (st.take k) := rfl
end
theorem rng1_n (n : Nat) (h : n ≤ 1000000000) (st : Store) : rngF 1 [.int (n : Nat)] st = .ok (.fix (rngD 0 n)) st := by
  simp only [rngF, rng1F, Int.toNat_natCast]
  rw [if_pos (by simp only [rngOk, Bool.and_eq_true, decide_eq_true_eq]; omega)]
theorem rng2_n (a b : Nat) (h : a ≤ 1000000000) (h' : b ≤ 1000000000) (st : Store) : rngF 2 [.int (a : Nat), .int (b : Nat)] st = .ok (.fix (rngD a (b - a))) st := by
  simp only [rngF, rng2F]
  rw [if_pos (by simp only [rngOk, Bool.and_eq_true, decide_eq_true_eq]; omega), show ((b : Int) - (a : Int)).toNat = b - a by omega]
theorem rngD_at {lo : Int} {n i : Nat} {x : D} (h : (rngD lo n)[i]? = some x) : x = .int (lo + (i : Nat)) ∧ i < n := by
  simp only [rngD] at h
  obtain ⟨hi, he⟩ := List.getElem?_eq_some_iff.mp h
  simp only [List.getElem_map, List.getElem_range, List.length_map, List.length_range] at he hi
  exact ⟨he.symm, hi⟩
theorem rngD_map (lo : Int) (n : Nat) : rngD lo n = (List.range n).map fun (k : Nat) => D.int (lo + k) := rfl
/-- a loop through numbers -/
theorem rng_loop {body : D → Zn.Env → Store → SRes} {lo : Int} {n : Nat} {env : Zn.Env} {st : Store} (P : Nat → Zn.Env → Store → Prop)
    (step : ∀ i env st, i < n → P i env st → ∃ env' st', body (.int (lo + (i : Nat))) env st = .nx env' st' ∧ P (i + 1) env' st') (h0 : P 0 env st) :
    ∃ env' st', forL body (rngD lo n) env st = .nx env' st' ∧ P n env' st' := by
  obtain ⟨e, s, h1, h2⟩ := forL_all (body := body) (xs := rngD lo n) (env := env) (st := st) P (fun x i env st hx hp => by
    obtain ⟨rfl, hi⟩ := rngD_at hx
    obtain ⟨e, s, h1, h2⟩ := step i env st hi hp
    exact ⟨e, s, .inl h1, h2⟩) h0
  rw [PA.rngD_len] at h2
  exact ⟨e, s, h1, h2⟩
theorem dst_len : ∀ (n : Nat) (l : List Int), l.length ≤ n → (dst l).length ≤ l.length
  | _, [], _ => by rw [dst_nil]; exact Nat.le_refl _
  | 0, _ :: _, h => absurd h (by simp)
  | n + 1, w :: r, h => by
    have hl : (r.filter fun y => decide (w < y)).length ≤ r.length := List.length_filter_le _ _
    have := dst_len n (r.filter fun y => decide (w < y)) (by simp only [List.length_cons] at h; omega)
    rw [dst_cons, List.length_cons, List.length_cons]
    omega
theorem ws_len {g : List S3} (h : ∀ x ∈ g, Good x) : (ws g).length ≤ (nums g).length := by
  have := dst_len _ _ (Nat.le_refl (wts g).length)
  rw [← wts_len h]
  exact this
/-- a worth with its many -/
def prW (g : List S3) (w : Int) : D := .tup [.int w, .int (eqc w (nums g) : Nat)]
theorem upD_cons (g : List S3) (w : Int) (l : List Int) : upD g (w :: l) = .tup [.int w, .int (eqc w (nums g) : Nat)] := rfl
theorem upD_nil (g : List S3) : upD g [] = .non := rfl
theorem wts_take {g : List S3} {k : Nat} {w : Int} (h : (wts g)[k]? = some w) : ((wts g).take (k + 1)).sum - ((wts g).take k).sum = w := by
  rw [List.take_add_one, h, List.sum_append]
  simp
  omega
theorem drawB_gen {F : CallF} {m : Bool} {tg elt : T} {env : Zn.Env} {α : Type} (f : α → D) (hf : ∀ a, (f a).isRef = false) (P : α → Prop) (c0 : Nat) (xs : List D) (A R : Store) (B c q : Int) (hq0 : -1 ≤ q) (hq : q + c0 * xs.length < B) (hs : xs.length ≤ sizeLine)
    (h : ∀ x ∈ xs, ∀ (c q : Int) (R : Store), -1 ≤ q → q < B → ∃ (v : α) (c' q' : Int), cturn F tg .no elt env x (A ++ penB c q :: R) = .ok (some (f v)) (A ++ penB c' q' :: R) ∧ P v ∧ -1 ≤ q' ∧ q' ≤ q + c0) :
    ∃ (ms : List α) (c' q' : Int), compS F m tg .no elt env (.fix xs) (A ++ penB c q :: R) = mk m (ms.map f) (A ++ penB c' q' :: R) ∧ ms.length = xs.length ∧ (∀ v ∈ ms, P v) ∧ -1 ≤ q' ∧ q' ≤ q + c0 * xs.length := by
  obtain ⟨zs, st2, e, _, c2, q2, ms, rfl, rfl, h1, h2, hms, hml⟩ := compS_inv (F := F) (m := m) (tg := tg) (cond := .no) (elt := elt) (env := env) (st := A ++ penB c q :: R) (xs := xs)
    (fun i acc st => ∃ (c2 q2 : Int) (ms : List α), acc = List.map f ms ∧ st = A ++ penB c2 q2 :: R ∧ -1 ≤ q2 ∧ q2 ≤ q + (c0 * i : Nat) ∧ (∀ v ∈ ms, P v) ∧ ms.length = i)
    (by
      rintro x i acc st1 hx ⟨c2, q2, ms, rfl, rfl, h1, h2, hms, hml⟩ hl
      have hi : i < xs.length := (List.getElem?_eq_some_iff.mp hx).1
      have hc : c0 * i ≤ c0 * xs.length := Nat.mul_le_mul_left c0 (by omega)
      have hc' : ((c0 * xs.length : Nat) : Int) = (c0 : Int) * (xs.length : Int) := by rw [Int.natCast_mul]
      obtain ⟨v, c3, q3, e3, hv, h3, h4⟩ := h x (List.mem_of_getElem? hx) c2 q2 (R ++ [some (.lst (List.map f ms))]) h1 (by omega)
      have hcs : c0 * (i + 1) = c0 * i + c0 := Nat.mul_succ c0 i
      refine ⟨some (f v), A ++ penB c3 q3 :: R, ?_, by simp, fun d h => by cases h; exact hf v, c3, q3, ms ++ [v], by simp, rfl, h3, by rw [hcs]; omega, ?_, by simp [hml]⟩
      · rw [show (A ++ penB c2 q2 :: R) ++ [some (Cell.lst (List.map f ms))] = A ++ penB c2 q2 :: (R ++ [some (.lst (List.map f ms))]) by simp, e3]
        simp
      · intro w hw
        rcases List.mem_append.mp hw with hw | hw
        · exact hms w hw
        · rw [List.mem_singleton.mp hw]; exact hv)
    hs ⟨c, q, [], rfl, rfl, hq0, by omega, by simp, rfl⟩
  refine ⟨ms, c2, q2, e, hml, hms, h1, ?_⟩
  rw [Int.natCast_mul] at h2
  exact h2
theorem forR_all {body : D → Zn.Env → Store → SRes} {l : Nat} {xs : List D} (Q : Nat → Zn.Env → Store → Prop)
    (step : ∀ i x env st, xs[i]? = some x → Q i env st → lstOf st (.ref l) = some xs → ∃ env' st', body x env st = .nx env' st' ∧ Q (i + 1) env' st' ∧ lstOf st' (.ref l) = some xs) :
    ∀ (fl i : Nat) (env : Zn.Env) (st : Store), i ≤ xs.length → xs.length - i < fl → Q i env st → lstOf st (.ref l) = some xs →
      ∃ env' st', forR body l fl i env st = .nx env' st' ∧ Q xs.length env' st' ∧ lstOf st' (.ref l) = some xs
  | 0, _, _, _, _, h, _, _ => absurd h (by omega)
  | fl + 1, i, env, st, hi, hf, hq, hl => by
    by_cases c : i < xs.length
    · obtain ⟨e1, s1, h1, h2, h3⟩ := step i _ env st (List.getElem?_eq_getElem c) hq hl
      obtain ⟨e2, s2, k1, k2, k3⟩ := forR_all Q step fl (i + 1) e1 s1 (by omega) (by omega) h2 h3
      refine ⟨e2, s2, ?_, k2, k3⟩
      simp only [forR, hl, List.getElem?_eq_getElem c, h1, k1]
    · have : i = xs.length := by omega
      subst this
      refine ⟨env, st, ?_, hq, hl⟩
      simp only [forR, hl, List.getElem?_eq_none (Nat.le_refl _)]
/-- a walk over a list, whether it stands or not, that the body leaves as it is -/
theorem walk_any {F : CallF} {tg b : T} {xs : List D} {p : D} {env : Zn.Env} {st : Store} (hP : lstOf st p = some xs) (Q : Nat → Zn.Env → Store → Prop)
    (step : ∀ i x env st, xs[i]? = some x → Q i env st → lstOf st p = some xs → ∃ env' st', turn F tg b x env st = .nx env' st' ∧ Q (i + 1) env' st' ∧ lstOf st' p = some xs)
    (h0 : Q 0 env st) (hx : xs.length < 100000000) :
    ∃ env' st', (wkOf p st).thenS env (walkS F tg b env) = .nx env' st' ∧ Q xs.length env' st' ∧ lstOf st' p = some xs := by
  cases p with
  | lst ys =>
    have e : ys = xs := Option.some.inj hP
    subst e
    obtain ⟨e1, s1, h1, h2⟩ := forL_all (body := turn F tg b) (xs := ys) (env := env) (st := st) Q (fun x i env st hx hq => by
      obtain ⟨e1, s1, h1, h2, _⟩ := step i x env st hx hq rfl
      exact ⟨e1, s1, .inl h1, h2⟩) h0
    exact ⟨e1, s1, h1, h2, rfl⟩
  | ref l =>
    obtain ⟨e1, s1, h1, h2, h3⟩ := forR_all Q step fuel 0 env st (by omega) (by simp only [fuel]; omega) h0 hP
    refine ⟨e1, s1, ?_, h2, h3⟩
    simp only [wkOf, hP, thenS_ok, walkS_live, h1]
  | _ => cases hP
theorem comp_any {F : CallF} {m : Bool} {tg cond elt : T} {env : Zn.Env} {st : Store} {p : D} {xs : List D} (g : D → Option D) (hl : lstOf st p = some xs)
    (h : ∀ x ∈ xs, ∀ acc, cturn F tg cond elt env x (st ++ [some (.lst acc)]) = .ok (g x) (st ++ [some (.lst acc)])) (hr : ∀ x ∈ xs, ∀ d, g x = some d → d.isRef = false) (hs : xs.length ≤ sizeLine) :
    (wkOf p st).bind (compS F m tg cond elt env) = mk m (xs.filterMap g) st := by
  cases p with
  | lst ys =>
    have e : ys = xs := Option.some.inj hl
    subst e
    exact compS_map g h hr hs
  | ref l =>
    simp only [wkOf, hl, bind_ok]
    exact compS_live g hl h hr hs
  | _ => cases hl
theorem comp_anyM {F : CallF} {m : Bool} {tg elt : T} {env : Zn.Env} {st : Store} {p : D} {α : Type} {xs : List α} (f h : α → D) (G : D → D) (hG : ∀ a ∈ xs, G (f a) = h a) (hl : lstOf st p = some (xs.map f))
    (hb : ∀ a ∈ xs, ∀ acc, cturn F tg .no elt env (f a) (st ++ [some (.lst acc)]) = .ok (some (h a)) (st ++ [some (.lst acc)])) (hr : ∀ a, (h a).isRef = false) (hs : xs.length ≤ sizeLine) :
    (wkOf p st).bind (compS F m tg .no elt env) = mk m (xs.map h) st := by
  rw [comp_any (fun d => some (G d)) hl (fun x hx acc => ?_) (fun x hx d e => ?_) (by simpa using hs)]
  · congr 1
    rw [List.filterMap_map]
    have : ∀ ys : List α, (∀ a ∈ ys, G (f a) = h a) → ys.filterMap ((fun d => some (G d)) ∘ f) = ys.map h := by
      intro ys
      induction ys with
      | nil => intro _; rfl
      | cons y ys ih => intro hy; rw [List.filterMap_cons, List.map_cons, ih (fun a ha => hy a (by simp [ha]))]; simp only [Function.comp, hy y (by simp)]
    exact this xs hG
  · obtain ⟨a, ha, rfl⟩ := List.mem_map.mp hx
    rw [hb a ha acc, hG a ha]
  · obtain ⟨a, ha, rfl⟩ := List.mem_map.mp hx
    cases e
    rw [hG a ha]
    exact hr a
theorem lstOf_app {st : Store} {p : D} {xs : List D} (X : Store) (h : lstOf st p = some xs) : lstOf (st ++ X) p = some xs := by
  cases p with
  | lst ys => exact h
  | ref l =>
    rw [lstOf_ref] at h ⊢
    by_cases hlt : l < st.length
    · rw [List.getElem?_append_left hlt]; exact h
    · rw [List.getElem?_eq_none (by omega)] at h; cases h
  | _ => cases h
/-- what a call comes to, whatever stands -/
def rsD (r : Res D) : D := match r with
  | .ok d _ => d
  | _ => .non
theorem nat_sum {α : Type} (f : α → Nat) : ∀ l : List α, (l.map fun w => ((f w : Nat) : Int)).sum = (((l.map f).sum : Nat) : Int)
  | [] => rfl
  | a :: l => by simp only [List.map_cons, List.sum_cons, nat_sum f l, Int.natCast_add]
theorem ledS_snoc : ∀ (ms : List Int) (e : Nat) (low m : Int) (x : S3), ms.length < e → ledS e low (ms ++ [m]) x = hl (lowOf low e ms) (e - ms.length - 1) m (ledS e low ms x)
  | [], e + 1, low, m, x, _ => by simp only [List.nil_append, ledS, lowOf, List.length_nil]; rfl
  | k :: ms, e + 1, low, m, x, h => by
    simp only [List.length_cons] at h
    rw [List.cons_append, ledS, ledS_snoc ms e _ m _ (by omega), lowOf, ledS, List.length_cons, show e + 1 - 1 = e by omega, show e + 1 - (ms.length + 1) - 1 = e - ms.length - 1 by omega]
  | _, 0, _, _, _, h => absurd h (by omega)
theorem rng2_1 (b : Nat) (h : b ≤ 1000000000) (st : Store) : rngF 2 [.int 1, .int (b : Nat)] st = .ok (.fix (rngD 1 (b - 1))) st := rng2_n 1 b (by omega) h st
theorem eqc_le (w : Int) (ns : List Int) : eqc w ns ≤ ns.length := List.length_filter_le _ _
theorem btw_cl {a b : Int} (h : a ≤ b + 1) : ∀ ns : List Int, cl a ns + (ns.filter fun y => decide (a ≤ y) && decide (y ≤ b)).length = cl (b + 1) ns
  | [] => rfl
  | y :: ns => by
    have ih := btw_cl h ns
    rw [cl_cons, cl_cons, List.filter_cons]
    by_cases h1 : a ≤ y <;> by_cases h2 : y ≤ b <;> simp [h1, h2] <;> split <;> split <;> omega
theorem prW_pl (g : List S3) (w : Int) : Pl 3 (prW g w) := (Pl.tup (k := 2) fun d hd => by
  simp only [List.mem_cons, List.not_mem_nil, or_false] at hd
  rcases hd with rfl | rfl <;> exact .int _)
theorem prWs_pl (g : List S3) (l : List Int) : Pl 64 (.lst (l.map (prW g))) := (Pl.lst (k := 3) fun d hd => by
  obtain ⟨w, _, rfl⟩ := List.mem_map.mp hd
  exact prW_pl g w).le (by omega)
theorem cellB_all {Fs : List Fn} {i : Nat} (hF : Fs[i]? = some f__law_cell) (ns : List Int) (k : Nat) (hk : k < 10 ^ 30) :
    ∃ v : Int, ∀ (n : Nat) (st : Store), cf Fs (n + 1) i [.scr ns, .int k] st = .ok (.int v) st := by
  obtain ⟨v, hv⟩ := cellB_ok (Fs := Fs) (n := 0) hF ns k hk
  refine ⟨v, fun n st => ?_⟩
  obtain ⟨w, hw⟩ := cellB_ok (Fs := Fs) (n := n) hF ns k hk
  have h1 := hv st
  rw [cf_at hF rfl] at h1
  have h2 := hw st
  rw [cf_at hF rfl] at h2
  have e : ex (cf Fs 0) f__law_cell.body (startE f__law_cell.N.length f__law_cell.ps.length [.scr ns, .int k]) st = ex (cf Fs n) f__law_cell.body (startE f__law_cell.N.length f__law_cell.ps.length [.scr ns, .int k]) st := rfl
  rw [e] at h1
  rw [cf_at hF rfl]
  exact h1
theorem penB_ok {Fs : List Fn} {n i : Nat} (hF : Fs[i]? = some f__law_pen) (v : Int) (st : Store) : (cf Fs (n + 1) i [.int v] st).bind (callEnd true st.length) = .ok (.ref st.length) (st ++ [penB v 0]) := by
  rw [cf_at hF rfl]; simp only [f__law_pen, t__law_pen]
  simp! []
  have : callEnd true st.length (.ref st.length) (st ++ [some (.lst [.int v, .int 0])]) = .ok (.ref st.length) (st ++ [penB v 0]) := by rw [ce_new, mk_true, penB]
  exact this
end Zn.PM

/-! ### the trees of the text -/
namespace Tx
open PySem PySem.Spec PyProof.Rows L2 Zn
def topS (i : Nat) : Stmt := PySem.Challenge.pw_manyleast_k16_gatherings_led.main.body.getD i (.Pass ⟨0, 0, 0, 0⟩)
def t_ahead : T :=
  (.cons (.sset (.tnm 3) (.blt .sum false (.cons (.slc false (.var 0) .no (.so (.var 2))) .nil))) (.cons (.sif (.cmp .Eq (.var 1) (.con (.int 1))) (.cons (.sret (.var 3)) .nil) .nil) (.cons (.sret (.bin false .Sub (.var 2) (.var 3))) .nil)))
def f_ahead : Fn := ⟨"ahead", ["marks", "mark", "place"], ["marks", "mark", "place", "ones"], t_ahead⟩
def e_many_in_1 : T := (.bin false .Sub (.var 3) (.var 2))
def t_many_in : T :=
  (.cons (.sret (.blt .sum false (.cons (.comp false (.sit (.var 0)) (.ttp (.cons (.tnm 1) (.cons (.tnm 2) (.cons (.tnm 3) .nil)))) [("tree", 1), ("start", 2), ("end", 3)] .no e_many_in_1) .nil))) .nil)
def f_many_in : Fn := ⟨"many_in", ["gathering"], ["gathering", "tree", "start", "end"], t_many_in⟩
def b_led_one_1 : T := (.cons (.sif (.cmp .Is (.var 3) (.con .non)) (.cons (.sret (.tup (.cons (.con .non) (.cons (.con (.int 0)) (.cons (.con (.int 0)) .nil))))) .nil) .nil) (.cons (.sset (.tnm 4) (.call 0 false (.cons (.sub (.var 3) (.con (.int 1))) (.cons (.var 2) (.cons (.var 4) .nil))))) (.cons (.sset (.tnm 5) (.call 0 false (.cons (.sub (.var 3) (.con (.int 1))) (.cons (.var 2) (.cons (.var 5) .nil))))) (.cons (.sset (.tnm 3) (.sub (.var 3) (.bin false .Add (.con (.int 2)) (.var 2)))) .nil))))
def t_led_one : T :=
  (.cons (.sset (.ttp (.cons (.tnm 3) (.cons (.tnm 4) (.cons (.tnm 5) .nil)))) (.var 0)) (.cons (.sfor (.sit (.var 1)) (.tnm 2) b_led_one_1) (.cons (.sret (.tup (.cons (.var 3) (.cons (.var 4) (.cons (.var 5) .nil))))) .nil)))
def f_led_one : Fn := ⟨"led_one", ["stretch", "way"], ["stretch", "way", "mark", "tree", "start", "end"], t_led_one⟩
def e_led_1 : T := (.call 2 false (.cons (.var 2) (.cons (.var 1) .nil)))
def t_led : T :=
  (.cons (.sret (.comp true (.sit (.var 0)) (.tnm 2) [("stretch", 2)] .no e_led_1)) .nil)
def f_led : Fn := ⟨"led", ["gathering", "way"], ["gathering", "way", "stretch"], t_led⟩
def t__law_cell : T :=
  (.cons (.sif (.cmp .Lt (.var 1) (.blt .len false (.cons (.var 0) .nil))) (.cons (.sret (.sub (.var 0) (.var 1))) .nil) .nil) (.cons (.sset (.tnm 2) (.bin false .Add (.bin false .Mult (.var 1) (.con (.int 7919))) (.con (.int 5)))) (.cons (.sif (.cmp .Gt (.blt .len false (.cons (.var 0) .nil)) (.con (.int 0))) (.cons (.sset (.tnm 2) (.bin false .Add (.bin false .Mult (.bin false .Mod (.sub (.var 0) (.bin false .Mod (.bin false .Mult (.var 1) (.con (.int 7))) (.blt .len false (.cons (.var 0) .nil)))) (.con (.int 2147483647))) (.con (.int 48271))) (.bin false .Mult (.var 1) (.con (.int 7919))))) .nil) .nil) (.cons (.sret (.bin false .Mod (.bin false .Mult (.var 2) (.var 2)) (.con (.int 2147483629)))) .nil))))
def f__law_cell : Fn := ⟨"_law_cell", ["_law_script", "_law_k"], ["_law_script", "_law_k", "_law_number"], t__law_cell⟩
def t__law_pen : T :=
  (.cons (.sret (.lst true (.cons (.var 0) (.cons (.con (.int 0)) .nil)))) .nil)
def f__law_pen : Fn := ⟨"_law_pen", ["_law_cell_here"], ["_law_cell_here"], t__law_pen⟩
def t__law_take : T :=
  (.cons (.sif (.bop .Or (.cons (.cmp .Lt (.sub (.var 0) (.con (.int 1))) (.con (.int 0))) (.cons (.bop .And (.cons (.cmp .Eq (.sub (.var 0) (.con (.int 1))) (.con (.int 0))) (.cons (.cmp .GtE (.sub (.var 0) (.con (.int 0))) (.bin false .Pow (.con (.int 10)) (.con (.int 18)))) .nil))) .nil))) (.cons (.sset (.tix (.var 0) (.con (.int 1))) (.neg (.con (.int 1)))) (.cons (.sset (.tnm 3) (.bin false .Mod (.sub (.var 0) (.con (.int 0))) (.var 1))) (.cons (.sset (.tix (.var 0) (.con (.int 0))) (.bin false .FloorDiv (.sub (.var 0) (.con (.int 0))) (.var 1))) (.cons (.sret (.var 3)) .nil)))) .nil) (.cons (.sset (.tix (.var 0) (.con (.int 1))) (.bin false .Add (.sub (.var 0) (.con (.int 1))) (.con (.int 1)))) (.cons (.sset (.tnm 2) (.bin false .Mod (.bin false .Add (.bin false .Add (.bin false .Mod (.sub (.var 0) (.con (.int 0))) (.con (.int 2147483647))) (.bin false .Mult (.con (.int 40503)) (.sub (.var 0) (.con (.int 1))))) (.con (.int 11))) (.con (.int 2147483629)))) (.cons (.sset (.tnm 2) (.bin false .Mod (.bin false .Mult (.var 2) (.bin false .Add (.var 2) (.con (.int 48271)))) (.con (.int 2147483587)))) (.cons (.sret (.bin false .Mod (.bin false .FloorDiv (.bin false .Mod (.bin false .Mult (.var 2) (.bin false .Add (.var 2) (.con (.int 69621)))) (.con (.int 2305843009213693951))) (.con (.int 5))) (.var 1))) .nil)))))
def f__law_take : Fn := ⟨"_law_take", ["_law_pen_here", "_law_size"], ["_law_pen_here", "_law_size", "_law_number", "_law_digit"], t__law_take⟩
def t__law_bounds : T :=
  (.cons (.sset (.tnm 1) (.sub (.lst false (.cons (.call 6 false (.cons (.var 0) (.cons (.con (.int 5)) .nil))) (.cons (.con (.int 3)) (.cons (.call 6 false (.cons (.var 0) (.cons (.con (.int 41)) .nil))) (.cons (.con (.int 2)) .nil))))) (.call 6 false (.cons (.var 0) (.cons (.con (.int 4)) .nil))))) (.cons (.sset (.tnm 2) (.sub (.lst false (.cons (.con (.int 0)) (.cons (.neg (.con (.int 7))) (.cons (.bin false .Sub (.call 6 false (.cons (.var 0) (.cons (.bin false .Pow (.con (.int 10)) (.con (.int 39))) .nil))) (.bin false .Pow (.con (.int 10)) (.con (.int 38)))) (.cons (.con (.int 1)) .nil))))) (.call 6 false (.cons (.var 0) (.cons (.con (.int 4)) .nil))))) (.cons (.sret (.tup (.cons (.var 2) (.cons (.var 1) .nil)))) .nil)))
def f__law_bounds : Fn := ⟨"_law_bounds", ["_law_pen_here"], ["_law_pen_here", "_law_levels", "_law_low"], t__law_bounds⟩
def b__law_numbers_1 : T := (.cons (.sif (.bop .And (.cons (.cmp .Eq (.call 6 false (.cons (.var 0) (.cons (.con (.int 4)) .nil))) (.con (.int 3))) (.cons (.cmp .NotEq (.var 3) (.lst false .nil)) .nil))) (.cons (.sexp (.mth .append (.var 3) (.cons (.sub (.var 3) (.call 6 false (.cons (.var 0) (.cons (.blt .len false (.cons (.var 3) .nil)) .nil)))) .nil))) .nil) (.cons (.sexp (.mth .append (.var 3) (.cons (.bin false .Add (.sub (.var 1) (.con (.int 0))) (.call 6 false (.cons (.var 0) (.cons (.bin false .LShift (.con (.int 1)) (.sub (.var 1) (.con (.int 1)))) .nil)))) .nil))) .nil)) .nil)
def t__law_numbers : T :=
  (.cons (.sset (.tnm 3) (.lst true .nil)) (.cons (.sfor (.srng 1 (.cons (.call 6 false (.cons (.var 0) (.cons (.bin false .Add (.var 2) (.con (.int 1))) .nil))) .nil)) (.tnm 4) b__law_numbers_1) (.cons (.sret (.var 3)) .nil)))
def f__law_numbers : Fn := ⟨"_law_numbers", ["_law_pen_here", "_law_bounds_here", "_law_long"], ["_law_pen_here", "_law_bounds_here", "_law_long", "_law_found", "_law_k"], t__law_numbers⟩
def e__law_grown_1 : T := (.blt .int false (.cons (.cmp .GtE (.var 5) (.var 2)) .nil))
def q__law_grown_2 : T := (.cmp .Lt (.var 5) (.var 2))
def q__law_grown_3 : T := (.cmp .GtE (.var 5) (.var 2))
def e__law_grown_4 : T := (.bin false .Sub (.var 5) (.var 2))
def t__law_grown : T :=
  (.cons (.sif (.cmp .Eq (.var 1) (.lst false .nil)) (.cons (.sret (.con .non)) .nil) .nil) (.cons (.sif (.cmp .Eq (.var 0) (.con (.int 0))) (.cons (.sret (.tup (.cons (.con (.str "many")) (.cons (.blt .len false (.cons (.var 1) .nil)) .nil)))) .nil) .nil) (.cons (.sset (.tnm 2) (.bin false .LShift (.con (.int 1)) (.bin false .Sub (.var 0) (.con (.int 1))))) (.cons (.sset (.tnm 3) (.blt .tuple false (.cons (.comp false (.sit (.var 1)) (.tnm 5) [("_law_offset", 5)] .no e__law_grown_1) .nil))) (.cons (.sset (.tnm 4) (.call 9 false (.cons (.bin false .Sub (.var 0) (.con (.int 1))) (.cons (.comp false (.sit (.var 1)) (.tnm 5) [("_law_offset", 5)] (.so q__law_grown_2) (.var 5)) .nil)))) (.cons (.sret (.tup (.cons (.con (.str "part")) (.cons (.var 3) (.cons (.var 4) (.cons (.call 9 false (.cons (.bin false .Sub (.var 0) (.con (.int 1))) (.cons (.comp false (.sit (.var 1)) (.tnm 5) [("_law_offset", 5)] (.so q__law_grown_3) e__law_grown_4) .nil))) .nil)))))) .nil))))))
def f__law_grown : Fn := ⟨"_law_grown", ["_law_levels", "_law_offsets"], ["_law_levels", "_law_offsets", "_law_half", "_law_marks", "_law_lower", "_law_offset"], t__law_grown⟩
def e__law_tree_1 : T := (.bin false .Sub (.var 2) (.sub (.var 0) (.con (.int 0))))
def t__law_tree : T :=
  (.cons (.sret (.call 9 false (.cons (.sub (.var 0) (.con (.int 1))) (.cons (.comp false (.sit (.var 1)) (.tnm 2) [("_law_number", 2)] .no e__law_tree_1) .nil)))) .nil)
def f__law_tree : Fn := ⟨"_law_tree", ["_law_bounds_here", "_law_row"], ["_law_bounds_here", "_law_row", "_law_number"], t__law_tree⟩
def e__law_drawn_1 : T := (.call 8 false (.cons (.var 0) (.cons (.var 2) (.cons (.sub (.lst false (.cons (.con (.int 12)) (.cons (.con (.int 12)) (.cons (.con (.int 4)) (.cons (.var 1) .nil))))) (.call 6 false (.cons (.var 0) (.cons (.con (.int 4)) .nil)))) .nil))))
def b__law_drawn_2 : T := (.cons (.sset (.tnm 6) (.call 6 false (.cons (.var 0) (.cons (.blt .len false (.cons (.var 3) .nil)) .nil)))) (.cons (.sset (.tnm 7) (.call 6 false (.cons (.var 0) (.cons (.bin false .Add (.blt .len false (.cons (.sub (.var 3) (.var 6)) .nil)) (.con (.int 1))) .nil)))) (.cons (.sset (.tnm 8) (.bin false .Add (.var 7) (.call 6 false (.cons (.var 0) (.cons (.bin false .Sub (.bin false .Add (.blt .len false (.cons (.sub (.var 3) (.var 6)) .nil)) (.con (.int 1))) (.var 7)) .nil))))) (.cons (.sif (.cmp .Eq (.call 6 false (.cons (.var 0) (.cons (.con (.int 3)) .nil))) (.con (.int 0))) (.cons (.spar 7 8 (.con (.int 0)) (.blt .len false (.cons (.sub (.var 3) (.var 6)) .nil))) .nil) .nil) (.cons (.sexp (.mth .append (.var 4) (.cons (.tup (.cons (.var 6) (.cons (.var 7) (.cons (.var 8) .nil)))) .nil))) .nil)))))
def t__law_drawn : T :=
  (.cons (.sset (.tnm 2) (.call 7 false (.cons (.var 0) .nil))) (.cons (.sset (.tnm 3) (.comp false (.srng 1 (.cons (.bin false .Add (.con (.int 1)) (.call 6 false (.cons (.var 0) (.cons (.con (.int 3)) .nil)))) .nil)) (.tnm 5) [("_law_k", 5)] .no e__law_drawn_1)) (.cons (.sset (.tnm 4) (.lst true .nil)) (.cons (.sfor (.srng 1 (.cons (.bin false .Add (.con (.int 1)) (.bin false .Mult (.call 6 false (.cons (.var 0) (.cons (.con (.int 4)) .nil))) (.bin false .Add (.con (.int 1)) (.call 6 false (.cons (.var 0) (.cons (.con (.int 2)) .nil)))))) .nil)) (.tnm 5) b__law_drawn_2) (.cons (.sret (.tup (.cons (.var 2) (.cons (.var 3) (.cons (.frz (.var 4)) .nil))))) .nil)))))
def f__law_drawn : Fn := ⟨"_law_drawn", ["_law_pen_here", "_law_long"], ["_law_pen_here", "_law_long", "_law_bounds_here", "_law_rows", "_law_some", "_law_k", "_law_which", "_law_start", "_law_end"], t__law_drawn⟩
def e__law_gathering_1 : T := (.call 10 false (.cons (.var 0) (.cons (.var 4) .nil)))
def e__law_gathering_2 : T := (.tup (.cons (.sub (.var 3) (.var 5)) (.cons (.var 6) (.cons (.var 7) .nil))))
def t__law_gathering : T :=
  (.cons (.sset (.tnm 3) (.comp false (.sit (.var 1)) (.tnm 4) [("_law_row", 4)] .no e__law_gathering_1)) (.cons (.sret (.comp true (.sit (.var 2)) (.ttp (.cons (.tnm 5) (.cons (.tnm 6) (.cons (.tnm 7) .nil)))) [("_law_which", 5), ("_law_start", 6), ("_law_end", 7)] .no e__law_gathering_2)) .nil))
def f__law_gathering : Fn := ⟨"_law_gathering", ["_law_bounds_here", "_law_rows", "_law_some"], ["_law_bounds_here", "_law_rows", "_law_some", "_law_trees", "_law_row", "_law_which", "_law_start", "_law_end"], t__law_gathering⟩
def b__law_within_1 : T := (.cons (.sset (.tnm 4) (.bin false .FloorDiv (.var 4) (.con (.int 2)))) (.cons (.sif (.cmp .NotEq (.bin false .FloorDiv (.var 3) (.var 4)) (.var 5)) (.cons (.sret (.con (.bl false))) .nil) .nil) (.cons (.sset (.tnm 3) (.bin false .Mod (.var 3) (.var 4))) .nil)))
def t__law_within : T :=
  (.cons (.sset (.tnm 3) (.var 0)) (.cons (.sset (.tnm 4) (.bin false .LShift (.con (.int 1)) (.sub (.var 1) (.con (.int 1))))) (.cons (.sfor (.sit (.var 2)) (.tnm 5) b__law_within_1) (.cons (.sret (.con (.bl true))) .nil))))
def f__law_within : Fn := ⟨"_law_within", ["_law_offset", "_law_bounds_here", "_law_way_here"], ["_law_offset", "_law_bounds_here", "_law_way_here", "_law_rest", "_law_half", "_law_mark"], t__law_within⟩
def q__law_led_right_1 : T := (.call 13 false (.cons (.bin false .Sub (.sub (.var 2) (.var 13)) (.sub (.var 1) (.con (.int 0)))) (.cons (.var 1) (.cons (.var 4) .nil))))
def e__law_led_right_2 : T := (.bin false .Mod (.bin false .Sub (.sub (.var 2) (.var 13)) (.sub (.var 1) (.con (.int 0)))) (.var 6))
def q__law_led_right_3 : T := (.cmp .Lt (.var 13) (.var 11))
def q__law_led_right_4 : T := (.cmp .Lt (.var 13) (.var 12))
def t__law_led_right : T :=
  (.cons (.sset (.ttp (.cons (.tnm 10) (.cons (.tnm 11) (.cons (.tnm 12) .nil)))) (.var 3)) (.cons (.sif (.bop .Or (.cons (.nt (.isi (.var 0) "tuple")) (.cons (.cmp .NotEq (.blt .len false (.cons (.var 0) .nil)) (.con (.int 3))) .nil))) (.cons (.sret (.con (.bl false))) .nil) .nil) (.cons (.sset (.tnm 5) (.comp false (.srng 1 (.cons (.blt .len false (.cons (.var 2) .nil)) .nil)) (.tnm 13) [("_law_place", 13)] (.so q__law_led_right_1) (.var 13))) (.cons (.sif (.cmp .Eq (.var 5) (.lst false .nil)) (.cons (.sret (.cmp .Eq (.var 0) (.tup (.cons (.con .non) (.cons (.con (.int 0)) (.cons (.con (.int 0)) .nil)))))) .nil) .nil) (.cons (.sset (.tnm 6) (.bin false .LShift (.con (.int 1)) (.bin false .Sub (.sub (.var 1) (.con (.int 1))) (.blt .len false (.cons (.var 4) .nil))))) (.cons (.sset (.tnm 7) (.call 9 false (.cons (.bin false .Sub (.sub (.var 1) (.con (.int 1))) (.blt .len false (.cons (.var 4) .nil))) (.cons (.comp false (.sit (.var 5)) (.tnm 13) [("_law_place", 13)] .no e__law_led_right_2) .nil)))) (.cons (.sset (.tnm 8) (.blt .len false (.cons (.comp false (.sit (.var 5)) (.tnm 13) [("_law_place", 13)] (.so q__law_led_right_3) (.var 13)) .nil))) (.cons (.sset (.tnm 9) (.blt .len false (.cons (.comp false (.sit (.var 5)) (.tnm 13) [("_law_place", 13)] (.so q__law_led_right_4) (.var 13)) .nil))) (.cons (.sret (.bop .And (.cons (.cmp .Eq (.var 0) (.tup (.cons (.var 7) (.cons (.var 8) (.cons (.var 9) .nil))))) (.cons (.nt (.isi (.sub (.var 0) (.con (.int 1))) "bool")) .nil)))) .nil)))))))))
def f__law_led_right : Fn := ⟨"_law_led_right", ["_law_found", "_law_bounds_here", "_law_row", "_law_one", "_law_way_here"], ["_law_found", "_law_bounds_here", "_law_row", "_law_one", "_law_way_here", "_law_spots", "_law_span", "_law_part", "_law_begin", "_law_stop", "_law_which", "_law_start", "_law_end", "_law_place"], t__law_led_right⟩
def e__law_way_1 : T := (.bin false .Mod (.bin false .FloorDiv (.var 4) (.bin false .LShift (.con (.int 1)) (.var 6))) (.con (.int 2)))
def t__law_way : T :=
  (.cons (.sset (.tnm 3) (.sub (.var 2) (.call 6 false (.cons (.var 0) (.cons (.blt .len false (.cons (.var 2) .nil)) .nil))))) (.cons (.sset (.tnm 4) (.call 6 false (.cons (.var 0) (.cons (.bin false .LShift (.con (.int 1)) (.sub (.var 1) (.con (.int 1)))) .nil)))) (.cons (.sif (.bop .And (.cons (.cmp .NotEq (.var 3) (.lst false .nil)) (.cons (.cmp .Gt (.call 6 false (.cons (.var 0) (.cons (.con (.int 4)) .nil))) (.con (.int 0))) .nil))) (.cons (.sset (.tnm 4) (.bin false .Sub (.sub (.var 3) (.call 6 false (.cons (.var 0) (.cons (.blt .len false (.cons (.var 3) .nil)) .nil)))) (.sub (.var 1) (.con (.int 0))))) .nil) .nil) (.cons (.sset (.tnm 5) (.blt .tuple false (.cons (.rev false (.comp false (.srng 1 (.cons (.sub (.var 1) (.con (.int 1))) .nil)) (.tnm 6) [("_law_level", 6)] .no e__law_way_1)) .nil))) (.cons (.sret (.slc false (.var 5) .no (.so (.call 6 false (.cons (.var 0) (.cons (.bin false .Add (.sub (.var 1) (.con (.int 1))) (.con (.int 1))) .nil)))))) .nil)))))
def f__law_way : Fn := ⟨"_law_way", ["_law_pen_here", "_law_bounds_here", "_law_rows"], ["_law_pen_here", "_law_bounds_here", "_law_rows", "_law_row", "_law_offset", "_law_whole", "_law_level"], t__law_way⟩
def e__law_wide_1 : T := (.bin false .Add (.sub (.var 1) (.con (.int 0))) (.call 6 false (.cons (.var 0) (.cons (.bin false .LShift (.con (.int 1)) (.sub (.var 1) (.con (.int 1)))) .nil))))
def e__law_wide_2 : T := (.sub (.var 2) (.call 6 false (.cons (.var 0) (.cons (.blt .len false (.cons (.var 2) .nil)) .nil))))
def t__law_wide : T :=
  (.cons (.sset (.tnm 1) (.tup (.cons (.bin false .Sub (.call 6 false (.cons (.var 0) (.cons (.con (.int 90)) .nil))) (.con (.int 40))) (.cons (.bin false .Add (.con (.int 1)) (.call 6 false (.cons (.var 0) (.cons (.con (.int 8)) .nil)))) .nil)))) (.cons (.sset (.tnm 2) (.comp false (.srng 1 (.cons (.bin false .Add (.con (.int 1)) (.call 6 false (.cons (.var 0) (.cons (.con (.int 5)) .nil)))) .nil)) (.tnm 5) [("_law_k", 5)] .no e__law_wide_1)) (.cons (.sset (.tnm 3) (.comp false (.srng 1 (.cons (.bin false .Add (.con (.int 65)) (.call 6 false (.cons (.var 0) (.cons (.con (.int 236)) .nil)))) .nil)) (.tnm 5) [("_law_k", 5)] .no e__law_wide_2)) (.cons (.sset (.tnm 4) (.call 6 false (.cons (.var 0) (.cons (.con (.int 30)) .nil)))) (.cons (.sret (.tup (.cons (.var 1) (.cons (.lst false (.cons (.var 3) .nil)) (.cons (.lst false (.cons (.tup (.cons (.con (.int 0)) (.cons (.var 4) (.cons (.bin false .Sub (.blt .len false (.cons (.var 3) .nil)) (.call 6 false (.cons (.var 0) (.cons (.con (.int 30)) .nil)))) .nil)))) .nil)) .nil))))) .nil)))))
def f__law_wide : Fn := ⟨"_law_wide", ["_law_pen_here"], ["_law_pen_here", "_law_bounds_here", "_law_few", "_law_row", "_law_start", "_law_k"], t__law_wide⟩
def e_law_1 : T := (.bin false .Sub (.var 15) (.var 14))
def b_law_2 : T := (.cons (.sif (.nt (.call 14 false (.cons (.var 12) (.cons (.var 6) (.cons (.sub (.var 7) (.sub (.var 11) (.con (.int 0)))) (.cons (.var 11) (.cons (.var 9) .nil))))))) (.cons (.sret (.con (.bl false))) .nil) .nil) .nil)
def e_law_3 : T := (.bin false .Sub (.sub (.var 12) (.con (.int 2))) (.sub (.var 12) (.con (.int 1))))
def b_law_4 : T := (.cons (.sset (.tnm 9) (.call 15 false (.cons (.var 2) (.cons (.var 6) (.cons (.var 7) .nil))))) (.cons (.sset (.tnm 10) (.call 3 true (.cons (.var 4) (.cons (.var 9) .nil)))) (.cons (.sif (.bop .Or (.cons (.nt (.isi (.var 10) "list")) (.cons (.cmp .NotEq (.blt .len false (.cons (.var 10) .nil)) (.blt .len false (.cons (.var 8) .nil))) (.cons (.cmp .NotEq (.var 4) (.var 3)) .nil)))) (.cons (.sret (.con (.bl false))) .nil) .nil) (.cons (.sfor (.szip (.var 8) (.var 10)) (.ttp (.cons (.tnm 11) (.cons (.tnm 12) .nil))) b_law_2) (.cons (.sif (.cmp .NotEq (.call 1 false (.cons (.var 10) .nil)) (.blt .sum false (.cons (.comp false (.sit (.var 10)) (.tnm 12) [("_law_told", 12)] .no e_law_3) .nil))) (.cons (.sret (.con (.bl false))) .nil) .nil) (.cons (.sexp (.mth .clear (.var 10) .nil)) .nil))))))
def b_law_5 : T := (.cons (.sset (.tnm 2) (.call 5 true (.cons (.call 4 false (.cons (.var 0) (.cons (.var 1) .nil))) .nil))) (.cons (.sset (.ttp (.cons (.tnm 6) (.cons (.tnm 7) (.cons (.tnm 8) .nil)))) (.call 11 false (.cons (.var 2) (.cons (.con (.int 60)) .nil)))) (.cons (.sif (.cmp .Eq (.call 6 false (.cons (.var 2) (.cons (.con (.int 16)) .nil))) (.con (.int 0))) (.cons (.sset (.ttp (.cons (.tnm 6) (.cons (.tnm 7) (.cons (.tnm 8) .nil)))) (.call 16 false (.cons (.var 2) .nil))) .nil) .nil) (.cons (.sset (.tnm 3) (.call 12 false (.cons (.var 6) (.cons (.var 7) (.cons (.var 8) .nil))))) (.cons (.sset (.tnm 4) (.blt .list false (.cons (.var 3) .nil))) (.cons (.sif (.cmp .NotEq (.call 1 false (.cons (.var 4) .nil)) (.blt .sum false (.cons (.comp false (.sit (.var 8)) (.ttp (.cons (.tnm 13) (.cons (.tnm 14) (.cons (.tnm 15) .nil)))) [("_law_which", 13), ("_law_start", 14), ("_law_end", 15)] .no e_law_1) .nil))) (.cons (.sret (.con (.bl false))) .nil) .nil) (.cons (.sfor (.srng 1 (.cons (.con (.int 4)) .nil)) (.tnm 5) b_law_4) .nil)))))))
def t_law : T :=
  (.cons (.sfor (.srng 1 (.cons (.con (.int 2)) .nil)) (.tnm 1) b_law_5) (.cons (.sret (.cmp .Eq (.call 1 false (.cons (.var 4) .nil)) (.call 1 false (.cons (.var 3) .nil)))) .nil))
def f_law : Fn := ⟨"law", ["_law_script"], ["_law_script", "_law_k", "_law_pen_here", "_law_gathering_here", "_law_handed", "_law_turn", "_law_bounds_here", "_law_rows", "_law_some", "_law_way_here", "_law_found", "_law_one", "_law_told", "_law_which", "_law_start", "_law_end"], t_law⟩
def Fs : List Fn := [f_ahead, f_many_in, f_led_one, f_led, f__law_cell, f__law_pen, f__law_take, f__law_bounds, f__law_numbers, f__law_grown, f__law_tree, f__law_drawn, f__law_gathering, f__law_within, f__law_led_right, f__law_way, f__law_wide, f_law]
abbrev C (n f : Nat) (ds : List D) (st : Store) : Res D := cf Fs n f ds st
def i_ahead : Nat := 0
def i_many_in : Nat := 1
def i_led_one : Nat := 2
def i_led : Nat := 3
def i__law_cell : Nat := 4
def i__law_pen : Nat := 5
def i__law_take : Nat := 6
def i__law_bounds : Nat := 7
def i__law_numbers : Nat := 8
def i__law_grown : Nat := 9
def i__law_tree : Nat := 10
def i__law_drawn : Nat := 11
def i__law_gathering : Nat := 12
def i__law_within : Nat := 13
def i__law_led_right : Nat := 14
def i__law_way : Nat := 15
def i__law_wide : Nat := 16
def i_law : Nat := 17
end Tx


/-! ### the text has these trees; the end -/
namespace Tx
open PySem PySem.Spec PyProof.Rows L2 Zn
theorem s_ahead : FnScope f_ahead.N f_ahead.ps (defScope (topS 1)) := ⟨rfl, rfl, rfl, by decide +kernel, rfl, by decide +kernel, by decide +kernel⟩
theorem c_ahead : chkSs f_ahead.N Fs (defScope (topS 1)) f_ahead.body (defBody (topS 1)) = true := by decide +kernel
theorem s_many_in : FnScope f_many_in.N f_many_in.ps (defScope (topS 3)) := ⟨rfl, rfl, rfl, by decide +kernel, rfl, by decide +kernel, by decide +kernel⟩
theorem c_many_in : chkSs f_many_in.N Fs (defScope (topS 3)) f_many_in.body (defBody (topS 3)) = true := by decide +kernel
theorem s_led_one : FnScope f_led_one.N f_led_one.ps (defScope (topS 4)) := ⟨rfl, rfl, rfl, by decide +kernel, rfl, by decide +kernel, by decide +kernel⟩
theorem c_led_one : chkSs f_led_one.N Fs (defScope (topS 4)) f_led_one.body (defBody (topS 4)) = true := by decide +kernel
theorem s_led : FnScope f_led.N f_led.ps (defScope (topS 5)) := ⟨rfl, rfl, rfl, by decide +kernel, rfl, by decide +kernel, by decide +kernel⟩
theorem c_led : chkSs f_led.N Fs (defScope (topS 5)) f_led.body (defBody (topS 5)) = true := by decide +kernel
theorem s__law_cell : FnScope f__law_cell.N f__law_cell.ps (defScope (topS 7)) := ⟨rfl, rfl, rfl, by decide +kernel, rfl, by decide +kernel, by decide +kernel⟩
theorem c__law_cell : chkSs f__law_cell.N Fs (defScope (topS 7)) f__law_cell.body (defBody (topS 7)) = true := by decide +kernel
theorem s__law_pen : FnScope f__law_pen.N f__law_pen.ps (defScope (topS 8)) := ⟨rfl, rfl, rfl, by decide +kernel, rfl, by decide +kernel, by decide +kernel⟩
theorem c__law_pen : chkSs f__law_pen.N Fs (defScope (topS 8)) f__law_pen.body (defBody (topS 8)) = true := by decide +kernel
theorem s__law_take : FnScope f__law_take.N f__law_take.ps (defScope (topS 9)) := ⟨rfl, rfl, rfl, by decide +kernel, rfl, by decide +kernel, by decide +kernel⟩
theorem c__law_take : chkSs f__law_take.N Fs (defScope (topS 9)) f__law_take.body (defBody (topS 9)) = true := by decide +kernel
theorem s__law_bounds : FnScope f__law_bounds.N f__law_bounds.ps (defScope (topS 10)) := ⟨rfl, rfl, rfl, by decide +kernel, rfl, by decide +kernel, by decide +kernel⟩
theorem c__law_bounds : chkSs f__law_bounds.N Fs (defScope (topS 10)) f__law_bounds.body (defBody (topS 10)) = true := by decide +kernel
theorem s__law_numbers : FnScope f__law_numbers.N f__law_numbers.ps (defScope (topS 11)) := ⟨rfl, rfl, rfl, by decide +kernel, rfl, by decide +kernel, by decide +kernel⟩
theorem c__law_numbers : chkSs f__law_numbers.N Fs (defScope (topS 11)) f__law_numbers.body (defBody (topS 11)) = true := by decide +kernel
theorem s__law_grown : FnScope f__law_grown.N f__law_grown.ps (defScope (topS 12)) := ⟨rfl, rfl, rfl, by decide +kernel, rfl, by decide +kernel, by decide +kernel⟩
theorem c__law_grown : chkSs f__law_grown.N Fs (defScope (topS 12)) f__law_grown.body (defBody (topS 12)) = true := by decide +kernel
theorem s__law_tree : FnScope f__law_tree.N f__law_tree.ps (defScope (topS 13)) := ⟨rfl, rfl, rfl, by decide +kernel, rfl, by decide +kernel, by decide +kernel⟩
theorem c__law_tree : chkSs f__law_tree.N Fs (defScope (topS 13)) f__law_tree.body (defBody (topS 13)) = true := by decide +kernel
theorem s__law_drawn : FnScope f__law_drawn.N f__law_drawn.ps (defScope (topS 14)) := ⟨rfl, rfl, rfl, by decide +kernel, rfl, by decide +kernel, by decide +kernel⟩
theorem c__law_drawn : chkSs f__law_drawn.N Fs (defScope (topS 14)) f__law_drawn.body (defBody (topS 14)) = true := by decide +kernel
theorem s__law_gathering : FnScope f__law_gathering.N f__law_gathering.ps (defScope (topS 15)) := ⟨rfl, rfl, rfl, by decide +kernel, rfl, by decide +kernel, by decide +kernel⟩
theorem c__law_gathering : chkSs f__law_gathering.N Fs (defScope (topS 15)) f__law_gathering.body (defBody (topS 15)) = true := by decide +kernel
theorem s__law_within : FnScope f__law_within.N f__law_within.ps (defScope (topS 17)) := ⟨rfl, rfl, rfl, by decide +kernel, rfl, by decide +kernel, by decide +kernel⟩
theorem c__law_within : chkSs f__law_within.N Fs (defScope (topS 17)) f__law_within.body (defBody (topS 17)) = true := by decide +kernel
theorem s__law_led_right : FnScope f__law_led_right.N f__law_led_right.ps (defScope (topS 18)) := ⟨rfl, rfl, rfl, by decide +kernel, rfl, by decide +kernel, by decide +kernel⟩
theorem c__law_led_right : chkSs f__law_led_right.N Fs (defScope (topS 18)) f__law_led_right.body (defBody (topS 18)) = true := by decide +kernel
theorem s__law_way : FnScope f__law_way.N f__law_way.ps (defScope (topS 19)) := ⟨rfl, rfl, rfl, by decide +kernel, rfl, by decide +kernel, by decide +kernel⟩
theorem c__law_way : chkSs f__law_way.N Fs (defScope (topS 19)) f__law_way.body (defBody (topS 19)) = true := by decide +kernel
theorem s__law_wide : FnScope f__law_wide.N f__law_wide.ps (defScope (topS 20)) := ⟨rfl, rfl, rfl, by decide +kernel, rfl, by decide +kernel, by decide +kernel⟩
theorem c__law_wide : chkSs f__law_wide.N Fs (defScope (topS 20)) f__law_wide.body (defBody (topS 20)) = true := by decide +kernel
theorem s_law : FnScope f_law.N f_law.ps (defScope (topS 21)) := ⟨rfl, rfl, rfl, by decide +kernel, rfl, by decide +kernel, by decide +kernel⟩
theorem c_law : chkSs f_law.N Fs (defScope (topS 21)) f_law.body (defBody (topS 21)) = true := by decide +kernel
set_option maxHeartbeats 0 in
theorem tab {K : PySem.W.Frag} {h : Heap} {mg : Str → Option Value} (X : K.In h) (G : h.Ns mainGlobals mg)
    {f0 f1 f2 f3 f4 f5 f6 f7 f8 f9 f10 f11 f12 f13 f14 f15 f16 f17 : Addr} {od0 an0 od1 an1 od2 an2 od3 an3 od4 an4 od5 an5 od6 an6 od7 an7 od8 an8 od9 an9 od10 an10 od11 an11 od12 an12 od13 an13 od14 an14 od15 an15 od16 an16 od17 an17 : Option Addr} {sl0 sl1 sl2 sl3 sl4 sl5 sl6 sl7 sl8 sl9 sl10 sl11 sl12 sl13 sl14 sl15 sl16 sl17 : Array (Option Value)} {oc0 kV0 dc0 pm0 cd0 ct0 oc1 kV1 dc1 pm1 cd1 ct1 oc2 kV2 dc2 pm2 cd2 ct2 oc3 kV3 dc3 pm3 cd3 ct3 oc4 kV4 dc4 pm4 cd4 ct4 oc5 kV5 dc5 pm5 cd5 ct5 oc6 kV6 dc6 pm6 cd6 ct6 oc7 kV7 dc7 pm7 cd7 ct7 oc8 kV8 dc8 pm8 cd8 ct8 oc9 kV9 dc9 pm9 cd9 ct9 oc10 kV10 dc10 pm10 cd10 ct10 oc11 kV11 dc11 pm11 cd11 ct11 oc12 kV12 dc12 pm12 cd12 ct12 oc13 kV13 dc13 pm13 cd13 ct13 oc14 kV14 dc14 pm14 cd14 ct14 oc15 kV15 dc15 pm15 cd15 ct15 oc16 kV16 dc16 pm16 cd16 ct16 oc17 kV17 dc17 pm17 cd17 ct17 : Value}
    (a0 : PySem.W.nsIn K mainGlobals "ahead" = some (some (.ref f0))) (l0 : K.lookup f0 = some ⟨oc0, od0, .func (PySem.W.fnOf "ahead" "ahead" (defArgs (topS 1)) (defBody (topS 1)) (defScope (topS 1)) .none kV0 dc0 pm0 an0 cd0 ct0), sl0⟩) (c0 : PySem.W.codeIn K cd0 "ahead" = true) (k0 : PySem.W.keepIn K (.ref f0) = true)
    (a1 : PySem.W.nsIn K mainGlobals "many_in" = some (some (.ref f1))) (l1 : K.lookup f1 = some ⟨oc1, od1, .func (PySem.W.fnOf "many_in" "many_in" (defArgs (topS 3)) (defBody (topS 3)) (defScope (topS 3)) .none kV1 dc1 pm1 an1 cd1 ct1), sl1⟩) (c1 : PySem.W.codeIn K cd1 "many_in" = true) (k1 : PySem.W.keepIn K (.ref f1) = true)
    (a2 : PySem.W.nsIn K mainGlobals "led_one" = some (some (.ref f2))) (l2 : K.lookup f2 = some ⟨oc2, od2, .func (PySem.W.fnOf "led_one" "led_one" (defArgs (topS 4)) (defBody (topS 4)) (defScope (topS 4)) .none kV2 dc2 pm2 an2 cd2 ct2), sl2⟩) (c2 : PySem.W.codeIn K cd2 "led_one" = true) (k2 : PySem.W.keepIn K (.ref f2) = true)
    (a3 : PySem.W.nsIn K mainGlobals "led" = some (some (.ref f3))) (l3 : K.lookup f3 = some ⟨oc3, od3, .func (PySem.W.fnOf "led" "led" (defArgs (topS 5)) (defBody (topS 5)) (defScope (topS 5)) .none kV3 dc3 pm3 an3 cd3 ct3), sl3⟩) (c3 : PySem.W.codeIn K cd3 "led" = true) (k3 : PySem.W.keepIn K (.ref f3) = true)
    (a4 : PySem.W.nsIn K mainGlobals "_law_cell" = some (some (.ref f4))) (l4 : K.lookup f4 = some ⟨oc4, od4, .func (PySem.W.fnOf "_law_cell" "_law_cell" (defArgs (topS 7)) (defBody (topS 7)) (defScope (topS 7)) .none kV4 dc4 pm4 an4 cd4 ct4), sl4⟩) (c4 : PySem.W.codeIn K cd4 "_law_cell" = true) (k4 : PySem.W.keepIn K (.ref f4) = true)
    (a5 : PySem.W.nsIn K mainGlobals "_law_pen" = some (some (.ref f5))) (l5 : K.lookup f5 = some ⟨oc5, od5, .func (PySem.W.fnOf "_law_pen" "_law_pen" (defArgs (topS 8)) (defBody (topS 8)) (defScope (topS 8)) .none kV5 dc5 pm5 an5 cd5 ct5), sl5⟩) (c5 : PySem.W.codeIn K cd5 "_law_pen" = true) (k5 : PySem.W.keepIn K (.ref f5) = true)
    (a6 : PySem.W.nsIn K mainGlobals "_law_take" = some (some (.ref f6))) (l6 : K.lookup f6 = some ⟨oc6, od6, .func (PySem.W.fnOf "_law_take" "_law_take" (defArgs (topS 9)) (defBody (topS 9)) (defScope (topS 9)) .none kV6 dc6 pm6 an6 cd6 ct6), sl6⟩) (c6 : PySem.W.codeIn K cd6 "_law_take" = true) (k6 : PySem.W.keepIn K (.ref f6) = true)
    (a7 : PySem.W.nsIn K mainGlobals "_law_bounds" = some (some (.ref f7))) (l7 : K.lookup f7 = some ⟨oc7, od7, .func (PySem.W.fnOf "_law_bounds" "_law_bounds" (defArgs (topS 10)) (defBody (topS 10)) (defScope (topS 10)) .none kV7 dc7 pm7 an7 cd7 ct7), sl7⟩) (c7 : PySem.W.codeIn K cd7 "_law_bounds" = true) (k7 : PySem.W.keepIn K (.ref f7) = true)
    (a8 : PySem.W.nsIn K mainGlobals "_law_numbers" = some (some (.ref f8))) (l8 : K.lookup f8 = some ⟨oc8, od8, .func (PySem.W.fnOf "_law_numbers" "_law_numbers" (defArgs (topS 11)) (defBody (topS 11)) (defScope (topS 11)) .none kV8 dc8 pm8 an8 cd8 ct8), sl8⟩) (c8 : PySem.W.codeIn K cd8 "_law_numbers" = true) (k8 : PySem.W.keepIn K (.ref f8) = true)
    (a9 : PySem.W.nsIn K mainGlobals "_law_grown" = some (some (.ref f9))) (l9 : K.lookup f9 = some ⟨oc9, od9, .func (PySem.W.fnOf "_law_grown" "_law_grown" (defArgs (topS 12)) (defBody (topS 12)) (defScope (topS 12)) .none kV9 dc9 pm9 an9 cd9 ct9), sl9⟩) (c9 : PySem.W.codeIn K cd9 "_law_grown" = true) (k9 : PySem.W.keepIn K (.ref f9) = true)
    (a10 : PySem.W.nsIn K mainGlobals "_law_tree" = some (some (.ref f10))) (l10 : K.lookup f10 = some ⟨oc10, od10, .func (PySem.W.fnOf "_law_tree" "_law_tree" (defArgs (topS 13)) (defBody (topS 13)) (defScope (topS 13)) .none kV10 dc10 pm10 an10 cd10 ct10), sl10⟩) (c10 : PySem.W.codeIn K cd10 "_law_tree" = true) (k10 : PySem.W.keepIn K (.ref f10) = true)
    (a11 : PySem.W.nsIn K mainGlobals "_law_drawn" = some (some (.ref f11))) (l11 : K.lookup f11 = some ⟨oc11, od11, .func (PySem.W.fnOf "_law_drawn" "_law_drawn" (defArgs (topS 14)) (defBody (topS 14)) (defScope (topS 14)) .none kV11 dc11 pm11 an11 cd11 ct11), sl11⟩) (c11 : PySem.W.codeIn K cd11 "_law_drawn" = true) (k11 : PySem.W.keepIn K (.ref f11) = true)
    (a12 : PySem.W.nsIn K mainGlobals "_law_gathering" = some (some (.ref f12))) (l12 : K.lookup f12 = some ⟨oc12, od12, .func (PySem.W.fnOf "_law_gathering" "_law_gathering" (defArgs (topS 15)) (defBody (topS 15)) (defScope (topS 15)) .none kV12 dc12 pm12 an12 cd12 ct12), sl12⟩) (c12 : PySem.W.codeIn K cd12 "_law_gathering" = true) (k12 : PySem.W.keepIn K (.ref f12) = true)
    (a13 : PySem.W.nsIn K mainGlobals "_law_within" = some (some (.ref f13))) (l13 : K.lookup f13 = some ⟨oc13, od13, .func (PySem.W.fnOf "_law_within" "_law_within" (defArgs (topS 17)) (defBody (topS 17)) (defScope (topS 17)) .none kV13 dc13 pm13 an13 cd13 ct13), sl13⟩) (c13 : PySem.W.codeIn K cd13 "_law_within" = true) (k13 : PySem.W.keepIn K (.ref f13) = true)
    (a14 : PySem.W.nsIn K mainGlobals "_law_led_right" = some (some (.ref f14))) (l14 : K.lookup f14 = some ⟨oc14, od14, .func (PySem.W.fnOf "_law_led_right" "_law_led_right" (defArgs (topS 18)) (defBody (topS 18)) (defScope (topS 18)) .none kV14 dc14 pm14 an14 cd14 ct14), sl14⟩) (c14 : PySem.W.codeIn K cd14 "_law_led_right" = true) (k14 : PySem.W.keepIn K (.ref f14) = true)
    (a15 : PySem.W.nsIn K mainGlobals "_law_way" = some (some (.ref f15))) (l15 : K.lookup f15 = some ⟨oc15, od15, .func (PySem.W.fnOf "_law_way" "_law_way" (defArgs (topS 19)) (defBody (topS 19)) (defScope (topS 19)) .none kV15 dc15 pm15 an15 cd15 ct15), sl15⟩) (c15 : PySem.W.codeIn K cd15 "_law_way" = true) (k15 : PySem.W.keepIn K (.ref f15) = true)
    (a16 : PySem.W.nsIn K mainGlobals "_law_wide" = some (some (.ref f16))) (l16 : K.lookup f16 = some ⟨oc16, od16, .func (PySem.W.fnOf "_law_wide" "_law_wide" (defArgs (topS 20)) (defBody (topS 20)) (defScope (topS 20)) .none kV16 dc16 pm16 an16 cd16 ct16), sl16⟩) (c16 : PySem.W.codeIn K cd16 "_law_wide" = true) (k16 : PySem.W.keepIn K (.ref f16) = true)
    (a17 : PySem.W.nsIn K mainGlobals "law" = some (some (.ref f17))) (l17 : K.lookup f17 = some ⟨oc17, od17, .func (PySem.W.fnOf "law" "law" (defArgs (topS 21)) (defBody (topS 21)) (defScope (topS 21)) .none kV17 dc17 pm17 an17 cd17 ct17), sl17⟩) (c17 : PySem.W.codeIn K cd17 "law" = true) (k17 : PySem.W.keepIn K (.ref f17) = true)
    (zz : ∀ x ∈ bltNames, PySem.W.nsIn K mainGlobals x = some none) : TabOk K mg Fs := by
  refine ⟨fun x hx => PySem.W.mg_none_of X G (zz x hx), fun f fn x i hf hi => ?_, fun r hr => ?_, fun f fn hf hC => ?_⟩
  · match f, hf with
    | 0, hf => cases hf; simp [Fn.isI, f_ahead, t_ahead] at hi
    | 1, hf => cases hf; simp [Fn.isI, f_many_in, t_many_in] at hi
    | 2, hf => cases hf; simp [Fn.isI, f_led_one, t_led_one] at hi
    | 3, hf => cases hf; simp [Fn.isI, f_led, t_led] at hi
    | 4, hf => cases hf; simp [Fn.isI, f__law_cell, t__law_cell] at hi
    | 5, hf => cases hf; simp [Fn.isI, f__law_pen, t__law_pen] at hi
    | 6, hf => cases hf; simp [Fn.isI, f__law_take, t__law_take] at hi
    | 7, hf => cases hf; simp [Fn.isI, f__law_bounds, t__law_bounds] at hi
    | 8, hf => cases hf; simp [Fn.isI, f__law_numbers, t__law_numbers] at hi
    | 9, hf => cases hf; simp [Fn.isI, f__law_grown, t__law_grown] at hi
    | 10, hf => cases hf; simp [Fn.isI, f__law_tree, t__law_tree] at hi
    | 11, hf => cases hf; simp [Fn.isI, f__law_drawn, t__law_drawn] at hi
    | 12, hf => cases hf; simp [Fn.isI, f__law_gathering, t__law_gathering] at hi
    | 13, hf => cases hf; simp [Fn.isI, f__law_within, t__law_within] at hi
    | 14, hf => cases hf; simp [Fn.isI, f__law_led_right, t__law_led_right] at hi
    | 15, hf => cases hf; simp [Fn.isI, f__law_way, t__law_way] at hi
    | 16, hf => cases hf; simp [Fn.isI, f__law_wide, t__law_wide] at hi
    | 17, hf => cases hf; simp [Fn.isI, f_law, t_law] at hi
    | n + 18, hf => cases hf
  · have hz : False := by
      by_cases h : r ∈ ([] : List Nat)
      · simpa using h
      · exfalso; revert hr h; simp [rzB, Fs, Fn.isE, f_ahead, f_many_in, f_led_one, f_led, f__law_cell, f__law_pen, f__law_take, f__law_bounds, f__law_numbers, f__law_grown, f__law_tree, f__law_drawn, f__law_gathering, f__law_within, f__law_led_right, f__law_way, f__law_wide, f_law, t_ahead, t_many_in, t_led_one, t_led, t__law_cell, t__law_pen, t__law_take, t__law_bounds, t__law_numbers, t__law_grown, t__law_tree, t__law_drawn, t__law_gathering, t__law_within, t__law_led_right, t__law_way, t__law_wide, t_law]
    exact hz.elim
  match f, hf with
  | 0, hf => cases hf; refine ⟨f0, _, topS 1, PySem.W.mg_of X G a0, k0, ?_, fun_mk (st := topS 1) l0 c0 k0, s_ahead, c_ahead⟩; exact fun us hl => match us, hl with | [_, _, _], _ => rfl
  | 1, hf => cases hf; refine ⟨f1, _, topS 3, PySem.W.mg_of X G a1, k1, ?_, fun_mk (st := topS 3) l1 c1 k1, s_many_in, c_many_in⟩; exact fun us hl => match us, hl with | [_], _ => rfl
  | 2, hf => cases hf; refine ⟨f2, _, topS 4, PySem.W.mg_of X G a2, k2, ?_, fun_mk (st := topS 4) l2 c2 k2, s_led_one, c_led_one⟩; exact fun us hl => match us, hl with | [_, _], _ => rfl
  | 3, hf => cases hf; refine ⟨f3, _, topS 5, PySem.W.mg_of X G a3, k3, ?_, fun_mk (st := topS 5) l3 c3 k3, s_led, c_led⟩; exact fun us hl => match us, hl with | [_, _], _ => rfl
  | 4, hf => cases hf; refine ⟨f4, _, topS 7, PySem.W.mg_of X G a4, k4, ?_, fun_mk (st := topS 7) l4 c4 k4, s__law_cell, c__law_cell⟩; exact fun us hl => match us, hl with | [_, _], _ => rfl
  | 5, hf => cases hf; refine ⟨f5, _, topS 8, PySem.W.mg_of X G a5, k5, ?_, fun_mk (st := topS 8) l5 c5 k5, s__law_pen, c__law_pen⟩; exact fun us hl => match us, hl with | [_], _ => rfl
  | 6, hf => cases hf; refine ⟨f6, _, topS 9, PySem.W.mg_of X G a6, k6, ?_, fun_mk (st := topS 9) l6 c6 k6, s__law_take, c__law_take⟩; exact fun us hl => match us, hl with | [_, _], _ => rfl
  | 7, hf => cases hf; refine ⟨f7, _, topS 10, PySem.W.mg_of X G a7, k7, ?_, fun_mk (st := topS 10) l7 c7 k7, s__law_bounds, c__law_bounds⟩; exact fun us hl => match us, hl with | [_], _ => rfl
  | 8, hf => cases hf; refine ⟨f8, _, topS 11, PySem.W.mg_of X G a8, k8, ?_, fun_mk (st := topS 11) l8 c8 k8, s__law_numbers, c__law_numbers⟩; exact fun us hl => match us, hl with | [_, _, _], _ => rfl
  | 9, hf => cases hf; refine ⟨f9, _, topS 12, PySem.W.mg_of X G a9, k9, ?_, fun_mk (st := topS 12) l9 c9 k9, s__law_grown, c__law_grown⟩; exact fun us hl => match us, hl with | [_, _], _ => rfl
  | 10, hf => cases hf; refine ⟨f10, _, topS 13, PySem.W.mg_of X G a10, k10, ?_, fun_mk (st := topS 13) l10 c10 k10, s__law_tree, c__law_tree⟩; exact fun us hl => match us, hl with | [_, _], _ => rfl
  | 11, hf => cases hf; refine ⟨f11, _, topS 14, PySem.W.mg_of X G a11, k11, ?_, fun_mk (st := topS 14) l11 c11 k11, s__law_drawn, c__law_drawn⟩; exact fun us hl => match us, hl with | [_, _], _ => rfl
  | 12, hf => cases hf; refine ⟨f12, _, topS 15, PySem.W.mg_of X G a12, k12, ?_, fun_mk (st := topS 15) l12 c12 k12, s__law_gathering, c__law_gathering⟩; exact fun us hl => match us, hl with | [_, _, _], _ => rfl
  | 13, hf => cases hf; refine ⟨f13, _, topS 17, PySem.W.mg_of X G a13, k13, ?_, fun_mk (st := topS 17) l13 c13 k13, s__law_within, c__law_within⟩; exact fun us hl => match us, hl with | [_, _, _], _ => rfl
  | 14, hf => cases hf; refine ⟨f14, _, topS 18, PySem.W.mg_of X G a14, k14, ?_, fun_mk (st := topS 18) l14 c14 k14, s__law_led_right, c__law_led_right⟩; exact fun us hl => match us, hl with | [_, _, _, _, _], _ => rfl
  | 15, hf => cases hf; refine ⟨f15, _, topS 19, PySem.W.mg_of X G a15, k15, ?_, fun_mk (st := topS 19) l15 c15 k15, s__law_way, c__law_way⟩; exact fun us hl => match us, hl with | [_, _, _], _ => rfl
  | 16, hf => cases hf; refine ⟨f16, _, topS 20, PySem.W.mg_of X G a16, k16, ?_, fun_mk (st := topS 20) l16 c16 k16, s__law_wide, c__law_wide⟩; exact fun us hl => match us, hl with | [_], _ => rfl
  | 17, hf => cases hf; refine ⟨f17, _, topS 21, PySem.W.mg_of X G a17, k17, ?_, fun_mk (st := topS 21) l17 c17 k17, s_law, c_law⟩; exact fun us hl => match us, hl with | [_], _ => rfl
  | n + 18, hf => cases hf
end Tx


namespace Tx
open PySem PySem.Spec PyProof.Rows L2 Zn Zn.PB Zn.PT Zn.PG Zn.PM

theorem k_many (e : Nat) (low : Int) {g : List S3} (hg : ∀ x ∈ g, Good x) (hl : g.length ≤ 1000) {N : Nat} (hN : 50 ≤ N) (st : Store) : cf Fs N 1 [gaD e low g] st = .ok (.int ((nums g).length : Nat)) st := by
  obtain ⟨n, rfl⟩ : ∃ n, N = n + 1 := ⟨N - 1, by omega⟩; exact many_ok rfl e low g hg hl st
theorem k_led {ms : List Int} {e : Nat} (low : Int) {g : List S3} (h1 : ms.length ≤ e) (h2 : e ≤ 60) (h3 : Marks ms) (hg : ∀ x ∈ g, Good x) (hl : g.length ≤ 1000) (m : Bool) {N : Nat} (hN : 50 ≤ N) (st : Store) : (cf Fs N 3 [gaD e low g, .tup (ms.map .int)] st).bind (callEnd m st.length) = mk m ((g.map (ledS e low ms)).map (stD (e - ms.length) (lowOf low e ms))) st := by
  obtain ⟨n, rfl⟩ : ∃ n, N = n + 3 := ⟨N - 3, by omega⟩; exact led_ok rfl rfl rfl ms e low g h1 h2 h3 hg hl m st
theorem k_ledF {ms : List Int} {e : Nat} (low : Int) {g : List S3} (h1 : ms.length ≤ e) (h2 : e ≤ 60) (h3 : Marks ms) (hg : ∀ x ∈ g, Good x) (hl : g.length ≤ 1000) {N : Nat} (hN : 50 ≤ N) (st : Store) : (cf Fs N 3 [gaD e low g, .tup (ms.map .int)] st).bind (callEnd false st.length) = .ok (gaD (e - ms.length) (lowOf low e ms) (g.map (ledS e low ms))) st := by
  exact k_led low h1 h2 h3 hg hl false hN st
theorem k_led1 {m : Int} (hm : m = 0 ∨ m = 1) {e : Nat} (low : Int) {g : List S3} (h2 : e + 1 ≤ 60) (hg : ∀ x ∈ g, Good x) (hl : g.length ≤ 1000) {N : Nat} (hN : 50 ≤ N) (st : Store) : (cf Fs N 3 [gaD (e + 1) low g, .tup [.int m]] st).bind (callEnd false st.length) = .ok (gaD e (low + m * 2 ^ e) (g.map (Zn.PM.hl low e m))) st := by
  obtain ⟨n, rfl⟩ : ∃ n, N = n + 3 := ⟨N - 3, by omega⟩; exact led1_ok rfl rfl rfl m hm e low g h2 hg hl st
theorem k_cell (ns : List Int) {k : Nat} (hk : k < 10 ^ 30) : ∃ v : Int, ∀ (N : Nat) (hN : 50 ≤ N) (st : Store), cf Fs N 4 [.scr ns, .int k] st = .ok (.int v) st := by
  obtain ⟨v, hv⟩ := cellB_all (Fs := Fs) (i := 4) rfl ns k hk
  refine ⟨v, fun N hN st => ?_⟩
  obtain ⟨n, rfl⟩ : ∃ n, N = n + 1 := ⟨N - 1, by omega⟩
  exact hv n st
theorem k_pen (v : Int) {N : Nat} (hN : 50 ≤ N) (st : Store) : (cf Fs N 5 [.int v] st).bind (callEnd true st.length) = .ok (.ref st.length) (st ++ [penB v 0]) := by
  obtain ⟨n, rfl⟩ : ∃ n, N = n + 1 := ⟨N - 1, by omega⟩; exact penB_ok rfl v st
theorem k_take (A R : Store) (c : Int) {q : Int} (hq0 : -1 ≤ q) (hq : q < 10 ^ 27) {m : Int} (hm : 0 < m) (hm2 : m < 10 ^ 100) {N : Nat} (hN : 50 ≤ N) : ∃ v c' q' : Int, cf Fs N 6 [.ref A.length, .int m] (A ++ penB c q :: R) = .ok (.int v) (A ++ penB c' q' :: R) ∧ 0 ≤ v ∧ v < m ∧ -1 ≤ q' ∧ q' ≤ q + 1 := by
  obtain ⟨n, rfl⟩ : ∃ n, N = n + 1 := ⟨N - 1, by omega⟩; exact takeB_ok rfl A R c q hq0 (by omega) m hm hm2
theorem k_bounds (A R : Store) (c : Int) {q : Int} (hq0 : -1 ≤ q) (hq : q < 10 ^ 27) {N : Nat} (hN : 50 ≤ N) : ∃ (low : Int) (L : Nat) (c' q' : Int), cf Fs N 7 [.ref A.length] (A ++ penB c q :: R) = .ok (Bd low L) (A ++ penB c' q' :: R) ∧ L ≤ 40 ∧ -10 ^ 40 < low ∧ low < 10 ^ 40 ∧ -1 ≤ q' ∧ q' ≤ q + 5 := by
  obtain ⟨n, rfl⟩ : ∃ n, N = n + 2 := ⟨N - 2, by omega⟩; exact boundsB_ok rfl rfl A R c q hq0 (by omega)
theorem k_drawn (A R : Store) (c : Int) {q : Int} (hq0 : -1 ≤ q) (hq : q < 10 ^ 26) {G : Nat} (hG : G ≤ 60) {N : Nat} (hN : 50 ≤ N) : ∃ (low : Int) (L : Nat) (rows : List (List Int)) (so : List (Nat × Nat × Nat)) (c' q' : Int), (cf Fs N 11 [.ref A.length, .int (G : Nat)] (A ++ penB c q :: R)).bind (callEnd false (A ++ penB c q :: R).length) = .ok (.tup [Bd low L, .lst (rows.map rowD), .lst (so.map someD)]) (A ++ penB c' q' :: R) ∧ L ≤ 40 ∧ -10 ^ 40 < low ∧ low < 10 ^ 40 ∧ (∀ r ∈ rows, InB low L r ∧ r.length ≤ 60) ∧ 1 ≤ rows.length ∧ rows.length ≤ 3 ∧ (∀ x ∈ so, OkSome rows x) ∧ 1 ≤ so.length ∧ so.length ≤ 7 ∧ -1 ≤ q' ∧ q' ≤ q + 7000 := by
  obtain ⟨n, rfl⟩ : ∃ n, N = n + 3 := ⟨N - 3, by omega⟩; exact drawn_ok rfl rfl rfl rfl A R c q hq0 (by omega) G hG
theorem k_gath (low : Int) {L : Nat} (hL : L ≤ 40) {rows : List (List Int)} (hrl : ∀ r ∈ rows, r.length ≤ 100000) (hr : rows.length ≤ 1000) {so : List (Nat × Nat × Nat)} (hso : ∀ x ∈ so, OkSome rows x) (hsl : so.length ≤ 1000) (m : Bool) {N : Nat} (hN : 50 ≤ N) (st : Store) : (cf Fs N 12 [Bd low L, .lst (rows.map rowD), .lst (so.map someD)] st).bind (callEnd m st.length) = mk m ((gath rows so).map (stD L low)) st := by
  obtain ⟨n, rfl⟩ : ∃ n, N = n + L + 3 := ⟨N - L - 3, by omega⟩; exact gathering_ok rfl rfl rfl low L (by omega) rows hrl hr so hso hsl m st
theorem k_gathF (low : Int) {L : Nat} (hL : L ≤ 40) {rows : List (List Int)} (hrl : ∀ r ∈ rows, r.length ≤ 100000) (hr : rows.length ≤ 1000) {so : List (Nat × Nat × Nat)} (hso : ∀ x ∈ so, OkSome rows x) (hsl : so.length ≤ 1000) {N : Nat} (hN : 50 ≤ N) (st : Store) : (cf Fs N 12 [Bd low L, .lst (rows.map rowD), .lst (so.map someD)] st).bind (callEnd false st.length) = .ok (gaD L low (gath rows so)) st := by
  exact k_gath low hL hrl hr hso hsl false hN st
theorem k_tree {L : Nat} (hL : L ≤ 40) (low : Int) {row : List Int} (hr : row.length ≤ 100000) {N : Nat} (hN : 50 ≤ N) (st : Store) : cf Fs N 10 [Bd low L, .lst (row.map .int)] st = .ok (treeD L low row) st := by
  obtain ⟨n, rfl⟩ : ∃ n, N = n + L + 2 := ⟨N - L - 2, by omega⟩; exact treeB_ok rfl rfl L low row st (by omega) hr
theorem k_wide (A R : Store) (c : Int) {q : Int} (hq0 : -1 ≤ q) (hq : q < 10 ^ 26) {N : Nat} (hN : 50 ≤ N) : ∃ (low : Int) (L : Nat) (row : List Int) (s e : Nat) (c' q' : Int), cf Fs N 16 [.ref A.length] (A ++ penB c q :: R) = .ok (.tup [Bd low L, .lst [rowD row], .lst [someD (0, s, e)]]) (A ++ penB c' q' :: R) ∧ L ≤ 40 ∧ -10 ^ 40 < low ∧ low < 10 ^ 40 ∧ InB low L row ∧ row.length ≤ 300 ∧ s ≤ e ∧ e ≤ row.length ∧ -1 ≤ q' ∧ q' ≤ q + 400 := by
  obtain ⟨n, rfl⟩ : ∃ n, N = n + 2 := ⟨N - 2, by omega⟩; exact wide_ok rfl rfl A R c q hq0 (by omega)
theorem k_numbers (A R : Store) (c : Int) {q : Int} (hq0 : -1 ≤ q) (hq : q < 10 ^ 25) (low : Int) {L : Nat} (hL : L ≤ 60) {G : Nat} (hG : G ≤ 500) (m : Bool) {N : Nat} (hN : 50 ≤ N) : ∃ (ms : List Int) (c' q' : Int), (cf Fs N 8 [.ref A.length, Bd low L, .int (G : Nat)] (A ++ penB c q :: R)).bind (callEnd m (A ++ penB c q :: R).length) = mk m (ms.map .int) (A ++ penB c' q' :: R) ∧ InB low L ms ∧ ms.length ≤ G ∧ -1 ≤ q' ∧ q' ≤ q + 2000 := by
  obtain ⟨n, rfl⟩ : ∃ n, N = n + 2 := ⟨N - 2, by omega⟩; exact numbers_ok rfl rfl A R c q hq0 (by omega) low L hL G hG m
end Tx

namespace Tx
open PySem PySem.Spec PyProof.Rows L2 Zn Zn.PB Zn.PT Zn.PG Zn.PM
theorem idx_vals (f : Int → Bool) (row : List Int) : (idx f 0 row).map (fun k => row.getD k 0) = row.filter f := by
  have key : ∀ (xs pre : List Int), row = pre ++ xs → (idx f pre.length xs).map (fun k => row.getD k 0) = xs.filter f := by
    intro xs
    induction xs with
    | nil => intro _ _; rfl
    | cons x xs ih =>
      intro pre h
      have ih' := ih (pre ++ [x]) (by rw [h]; simp)
      rw [List.length_append, List.length_singleton] at ih'
      have hx : row.getD pre.length 0 = x := by rw [h]; simp [List.getD]
      simp only [idx]
      rw [List.filter_cons]
      by_cases c : f x = true
      · rw [if_pos c, if_pos c, List.map_cons, ih', hx]
      · rw [if_neg c, if_neg c, ih']
  exact key row [] rfl
theorem idx_lt (f : Int → Bool) : ∀ (xs : List Int) (k s : Nat), ((idx f k xs).filter fun i => decide (i < k + s)).length = ((xs.take s).filter f).length
  | [], k, s => by simp [idx]
  | x :: xs, k, 0 => by
    have : ((idx f k (x :: xs)).filter fun i => decide (i < k + 0)) = [] := List.filter_eq_nil_iff.mpr fun i hi => by
      have := idx_ge f _ _ _ hi
      simp; omega
    rw [this]; simp
  | x :: xs, k, s + 1 => by
    have ih := idx_lt f xs (k + 1) s
    rw [show k + 1 + s = k + (s + 1) by omega] at ih
    simp only [idx, List.take_succ_cons]
    rw [List.filter_cons (x := x)]
    by_cases c : f x = true
    · rw [if_pos c, if_pos c, List.filter_cons, if_pos (by simp), List.length_cons, List.length_cons, ih]
    · rw [if_neg c, if_neg c, ih]
theorem ledS_in : ∀ (ms : List Int) (e : Nat) (low : Int) (x : S3), ms.length ≤ e → Good x →
    ledS e low ms x = (x.1.filter (inside e low ms), ((x.1.take x.2.1).filter (inside e low ms)).length, ((x.1.take x.2.2).filter (inside e low ms)).length)
  | [], e, low, (row, s, t), _, hg => by
    have h : ∀ l : List Int, l.filter (inside e low []) = l := fun l => List.filter_eq_self.mpr fun _ _ => by cases e <;> rfl
    have h1 := hg.1
    have h2 := hg.2
    simp only at h1 h2
    have e1 : ledS e low [] (row, s, t) = (row, s, t) := by cases e <;> rfl
    rw [e1, h, h, h, List.length_take, List.length_take, Nat.min_eq_left (show s ≤ row.length by omega), Nat.min_eq_left h2]
  | m :: ms, 0, low, x, h, _ => by simp at h
  | m :: ms, e + 1, low, x, h, hg => by
    have h' : ms.length ≤ e := by simp at h; omega
    have ff : ∀ l : List Int, (half low e m l).filter (inside e (low + m * 2 ^ e) ms) = l.filter (inside (e + 1) low (m :: ms)) := fun l => by
      rw [half, List.filter_filter]
      refine List.filter_congr fun y _ => ?_
      simp only [inside]
      exact Bool.and_comm _ _
    have e1 : ledS (e + 1) low (m :: ms) x = ledS e (low + m * 2 ^ e) ms (hl low e m x) := rfl
    rw [e1, ledS_in ms e (low + m * 2 ^ e) (hl low e m x) h' (hg.hl low e m)]
    simp only [hl]
    rw [half_pre, half_pre, ff, ff, ff]
theorem in_mod : ∀ (ms : List Int) (e : Nat) (low x : Int), ms.length ≤ e → Marks ms → low ≤ x → x < low + 2 ^ e → inside e low ms x = true → (x - low) % 2 ^ (e - ms.length) = x - lowOf low e ms
  | [], e, low, x, _, _, h1, h2, _ => by
    have e1 : lowOf low e [] = low := by cases e <;> rfl
    rw [e1, List.length_nil, Nat.sub_zero]
    exact Int.emod_eq_of_lt (by omega) (by omega)
  | m :: ms, 0, low, x, h, _, _, _, _ => by simp at h
  | m :: ms, e + 1, low, x, h, hm, h1, h2, hi => by
    have h' : ms.length ≤ e := by simp at h; omega
    simp only [inside, Bool.and_eq_true, decide_eq_true_eq] at hi
    have hp : (2 : Int) ^ (e + 1) = 2 * 2 ^ e := by rw [Int.pow_succ]; omega
    have hb := hi.1
    have hx : low + m * 2 ^ e ≤ x ∧ x < low + m * 2 ^ e + 2 ^ e := by
      unfold bit at hb
      split at hb
      · subst hb; omega
      · subst hb; omega
    have ih := in_mod ms e (low + m * 2 ^ e) x h' hm.tl.2 hx.1 hx.2 hi.2
    have e1 : lowOf low (e + 1) (m :: ms) = lowOf (low + m * 2 ^ e) e ms := rfl
    rw [e1, ← ih, List.length_cons, show e + 1 - (ms.length + 1) = e - ms.length by omega]
    have hd : ∃ k : Int, m * 2 ^ e = 2 ^ (e - ms.length) * k := ⟨m * 2 ^ ms.length, by
      conv => lhs; rw [show e = (e - ms.length) + ms.length by omega, Int.pow_add]
      rw [← Int.mul_assoc, ← Int.mul_assoc, Int.mul_comm m]⟩
    obtain ⟨k, hk⟩ := hd
    rw [show x - low = (x - (low + m * 2 ^ e)) + 2 ^ (e - ms.length) * k by omega, Int.add_mul_emod_self_left]
theorem forZ_all {body : D → Zn.Env → Store → SRes} {l : Nat} {xs ys : List D} (he : xs.length = ys.length) (hf : xs.length < 1000000) (Q : Nat → Zn.Env → Store → Prop)
    (h : ∀ (i : Nat) (x y : D) (env : Zn.Env) (st : Store), xs[i]? = some x → ys[i]? = some y → Q i env st → lstOf st (.ref l) = some ys ∧ ∃ env' st', body (.tup [x, y]) env st = .nx env' st' ∧ Q (i + 1) env' st')
    (hl : ∀ (i : Nat) env st, Q i env st → lstOf st (.ref l) = some ys) {env : Zn.Env} {st : Store} (h0 : Q 0 env st) : ∃ env' st', forZ body xs l fuel 0 env st = .nx env' st' ∧ Q xs.length env' st' := by
  have key : ∀ (m i fl : Nat) (env : Zn.Env) (st : Store), i + m = xs.length → m < fl → Q i env st → ∃ env' st', forZ body xs l fl i env st = .nx env' st' ∧ Q xs.length env' st' := by
    intro m
    induction m with
    | zero =>
      intro i fl env st hi hfl hq
      obtain ⟨fl, rfl⟩ : ∃ f, fl = f + 1 := ⟨fl - 1, by omega⟩
      have ei : i = xs.length := by omega
      subst ei
      refine ⟨env, st, ?_, hq⟩
      rw [forZ_succ, hl _ _ _ hq]
      simp only [if_pos he, List.getElem?_eq_none (Nat.le_refl xs.length)]
    | succ m ih =>
      intro i fl env st hi hfl hq
      obtain ⟨fl, rfl⟩ : ∃ f, fl = f + 1 := ⟨fl - 1, by omega⟩
      have hx : xs[i]? = some (xs[i]'(by omega)) := List.getElem?_eq_getElem (by omega)
      have hy : ys[i]? = some (ys[i]'(by omega)) := List.getElem?_eq_getElem (by omega)
      obtain ⟨k1, env', st', k2, k3⟩ := h i _ _ env st hx hy hq
      obtain ⟨env2, st2, k4, k5⟩ := ih (i + 1) fl env' st' (by omega) (by omega) k3
      refine ⟨env2, st2, ?_, k5⟩
      rw [forZ_succ, k1]
      simp only [if_pos he, hx, hy, k2]
      exact k4
  exact key xs.length 0 fuel env st (by omega) (by simp only [fuel]; omega) h0
theorem st_pl (L : Nat) (hL : L ≤ 60) (low : Int) (x : S3) : Pl 64 (stD L low x) := by
  refine (Pl.tup (k := L + 3) fun d hd => ?_).le (by omega)
  simp only [List.mem_cons, List.not_mem_nil, or_false] at hd
  rcases hd with rfl | rfl | rfl
  · exact (tree_pl L low x.1).le (by omega)
  · exact .int _
  · exact .int _
theorem led_right_ok (n : Nat) {low : Int} {L : Nat} (hL : L ≤ 40) {row ms : List Int} (hr : row.length ≤ 500) (hb : InB low L row) (hm : Marks ms) (hl : ms.length ≤ L) (w s t : Nat) (h1 : s ≤ t) (h2 : t ≤ row.length) (st : Store) :
    cf Fs (n + 50 + 1) 14 [stD (L - ms.length) (lowOf low L ms) (ledS L low ms (row, s, t)), Bd low L, .lst (row.map .int), someD (w, s, t), .tup (ms.map .int)] st = .ok (.bl true) st := by
  have wi := fun (k : Nat) (hk : k < row.length) st => withinB_ok (Fs := Fs) (n := n + 49) (i := 13) rfl low L (by omega) (row[k] - low) ms hl st
  obtain ⟨S, hS⟩ : ∃ S, S = ids L low row ms := ⟨_, rfl⟩
  obtain ⟨F, hF⟩ : ∃ F, F = inside L low ms := ⟨_, rfl⟩
  have hSi : S = idx F 0 row := by rw [hS, hF]; rfl
  have hSl : S.length ≤ row.length := by
    rw [← List.length_map (f := fun k => row.getD k 0), hSi, idx_vals]
    exact List.length_filter_le _ _
  have hSm : ∀ k ∈ S, k < row.length ∧ F (row.getD k 0) = true := fun k hk => by
    rw [hS] at hk
    have hv : row.getD k 0 ∈ row.filter F := by
      rw [← idx_vals, ← hSi, hS]
      exact List.mem_map_of_mem hk
    refine ⟨?_, (List.mem_filter.mp hv).2⟩
    have : ∀ (xs : List Int) (j : Nat), k ∈ idx (inside L low ms) j xs → k < j + xs.length := by
      intro xs
      induction xs with
      | nil => intro j h; cases h
      | cons x xs ih =>
        intro j h
        simp only [idx] at h
        split at h
        · rcases List.mem_cons.mp h with rfl | h
          · simp
          · have := ih _ h; simp; omega
        · have := ih _ h; simp; omega
    have := this row 0 hk
    omega
  have sp : ∀ st (a : Option D) (b5 b6 b7 b8 b9 : Option D), compS (cf Fs (n + 50)) false (T.tnm 13) (T.so q__law_led_right_1) (T.var 13) [a, some (Bd low L), some (.lst (row.map .int)), some (someD (w, s, t)), some (.tup (ms.map .int)), b5, b6, b7, b8, b9, some (.int (w : Nat)), some (.int (s : Nat)), some (.int (t : Nat)), none] (.fix (rngD 0 row.length)) st = .ok (.lst (S.map fun (k : Nat) => .int (k : Int))) st := by
    intro st a b5 b6 b7 b8 b9
    have er : rngD 0 row.length = (List.range row.length).map fun (k : Nat) => D.int (k : Int) := by
      rw [rngD]
      apply List.map_congr_left
      intro k _
      simp
    have hid : S = (List.range row.length).filter fun k => F (row.getD k 0) := by
      rw [hSi]
      have key : ∀ (xs pre : List Int), row = pre ++ xs → idx F pre.length xs = ((List.range' pre.length xs.length).filter fun k => F (row.getD k 0)) := by
        intro xs
        induction xs with
        | nil => intro _ _; rfl
        | cons x xs ih =>
          intro pre h
          have ih' := ih (pre ++ [x]) (by rw [h]; simp)
          rw [List.length_append, List.length_singleton] at ih'
          have hx : row.getD pre.length 0 = x := by rw [h]; simp [List.getD]
          rw [List.length_cons, List.range'_succ, List.filter_cons, hx]
          simp only [idx, ih']
      rw [List.range_eq_range']
      exact key row [] rfl
    rw [er, comp_on (fun (k : Nat) => D.int (k : Int)) (fun k => F (row.getD k 0)) (fun (k : Nat) => D.int (k : Int)) (fun _ => rfl) (fun k hk acc => ?_) (by simp only [sizeLine, List.length_range]; omega)]
    · rw [mk_false, ← hid]
    · have hk' := List.mem_range.mp hk
      have hx := List.getElem?_eq_getElem hk'
      have hg : (row.map D.int)[k]? = some (.int row[k]) := by rw [List.getElem?_map, hx]; rfl
      have hgd : row.getD k 0 = row[k] := by simp [List.getD, hx]
      have hin := hb row[k] (List.getElem_mem hk')
      have w := wi k hk'
      rw [in_inside ms L low row[k] hl hin.1 hin.2, ← hF] at w
      rw [hgd]
      simp only [q__law_led_right_1]
      by_cases z : F row[k] = true
      · simp! [ce_bd, bd0, bd1, bd_nr, as_bd, ga_ce, ga_nr, ga_len, ga_wk, ga_val, st0, st1, st2, as_st, st_ce, tr_ce, up_nr, up_ce, tup_ce, tk_len, tkB, ce_int', x_swhile, Bool.false_eq_true, reduceIte, wk_lst', hg, w, z, reduceIte]
      · have z' : F row[k] = false := by simpa using z
        simp! [ce_bd, bd0, bd1, bd_nr, as_bd, ga_ce, ga_nr, ga_len, ga_wk, ga_val, st0, st1, st2, as_st, st_ce, tr_ce, up_nr, up_ce, tup_ce, tk_len, tkB, ce_int', x_swhile, Bool.false_eq_true, reduceIte, wk_lst', hg, w, z', reduceIte, Bool.false_eq_true]
  have r0 : ∀ st, rngF 1 [.int (row.length : Nat)] st = .ok (.fix (rngD 0 row.length)) st := fun st => rng1_n row.length (by omega) st
  have eS : D.lst (S.map fun (k : Nat) => D.int (k : Int)) = .lst ((S.map fun (k : Nat) => (k : Int)).map D.int) := by rw [List.map_map]; rfl
  have eN := eqD_nil (Pl.ints (k := 63) (S.map fun (k : Nat) => (k : Int)))
  rw [List.map_map, show (D.int ∘ fun (k : Nat) => (k : Int)) = fun (k : Nat) => D.int (k : Int) from rfl] at eN
  have lin := ledS_in ms L low (row, s, t) hl ⟨h1, h2⟩
  simp only [← hF] at lin
  have b0 := fun (z : Nat) => idx_lt F row 0 z
  simp only [Nat.zero_add, ← hSi] at b0
  have h33 : decide (((3 : Nat) : Int) = 3) = true := rfl
  by_cases hz : S = []
  · have hrw : row.filter F = [] := by rw [← idx_vals, ← hSi, hz]; rfl
    have hcs : ∀ z, ((row.take z).filter F).length = 0 := fun z => by rw [← b0, hz]; rfl
    rw [lin]
    simp only [hrw, hcs]
    have e3 : eqD (.tup [.non, .int ((0 : Nat) : Int), .int ((0 : Nat) : Int)]) (.tup [.non, .int 0, .int 0]) = some true := by decide +kernel
    have hem : (S.map fun (k : Nat) => D.int (k : Int)).isEmpty = true := by rw [hz]; rfl
    rw [hem] at eN
    rw [cf_at (fn := f__law_led_right) rfl rfl]; simp only [f__law_led_right, t__law_led_right]
    simp only [stD, tree_nil, someD] at sp ⊢
    simp! [ce_bd, bd0, bd1, bd_nr, as_bd, ga_ce, ga_nr, ga_len, ga_wk, ga_val, st0, st1, st2, as_st, st_ce, tr_ce, up_nr, up_ce, tup_ce, tk_len, tkB, ce_int', x_swhile, Bool.false_eq_true, reduceIte, wk_lst', eqD_int, eq_self, h33, List.length_map, r0, sp, eN, e3]
  · have hem : (S.map fun (k : Nat) => D.int (k : Int)).isEmpty = false := by
      cases S with
      | nil => exact absurd rfl hz
      | cons _ _ => rfl
    rw [hem] at eN
    have hLm : ((L : Nat) : Int) - ((ms.length : Nat) : Int) = ((L - ms.length : Nat) : Int) := by omega
    have hp := pow2 (e := L - ms.length) (by omega)
    have h1L : (1 : Int) * 2 ^ (((L - ms.length : Nat) : Int)).toNat = 2 ^ (L - ms.length) := by simp
    have gr := fun st => grownB_ok (Fs := Fs) (n := n + 50 - (L - ms.length) - 1) (i := 9) rfl (L - ms.length) ((row.filter F).map fun x => x - lowOf low L ms) st (by omega) (by rw [List.length_map]; have := List.length_filter_le F row; omega)
    rw [show n + 50 - (L - ms.length) - 1 + (L - ms.length) + 1 = n + 50 by omega, tree_off] at gr
    have ofs : ∀ st (a : Option D) (b7 b8 b9 : Option D), compS (cf Fs (n + 50)) false (T.tnm 13) .no e__law_led_right_2 [a, some (Bd low L), some (.lst (row.map .int)), some (someD (w, s, t)), some (.tup (ms.map .int)), some (.lst (S.map fun (k : Nat) => .int (k : Int))), some (.int (2 ^ (L - ms.length))), b7, b8, b9, some (.int (w : Nat)), some (.int (s : Nat)), some (.int (t : Nat)), none] (.fix (S.map fun (k : Nat) => .int (k : Int))) st = .ok (.lst (((row.filter F).map fun x => x - lowOf low L ms).map .int)) st := by
      intro st a b7 b8 b9
      rw [comp_on (fun (k : Nat) => D.int (k : Int)) (fun _ => true) (fun (k : Nat) => D.int (row.getD k 0 - lowOf low L ms)) (fun _ => rfl) (fun k hk acc => ?_) (by simp only [sizeLine]; omega)]
      · rw [mk_false, filter_tt, ← idx_vals, ← hSi, List.map_map, List.map_map]; rfl
      · obtain ⟨hk1, hk2⟩ := hSm k hk
        have hx := List.getElem?_eq_getElem hk1
        have hgd : row.getD k 0 = row[k] := by simp [List.getD, hx]
        rw [hgd] at hk2 ⊢
        have hg : (row.map D.int)[k]? = some (.int row[k]) := by rw [List.getElem?_map, hx]; rfl
        have hin := hb row[k] (List.getElem_mem hk1)
        rw [hF] at hk2
        have im := in_mod ms L low row[k] hl hm hin.1 hin.2 hk2
        simp only [e__law_led_right_2]
        ((try simp! [ce_bd, bd0, bd1, bd_nr, as_bd, ga_ce, ga_nr, ga_len, ga_wk, ga_val, st0, st1, st2, as_st, st_ce, tr_ce, up_nr, up_ce, tup_ce, tk_len, tkB, ce_int', x_swhile, Bool.false_eq_true, reduceIte, wk_lst', hg, im]); (repeat (walk_at "zo"; try simp! [ce_bd, bd0, bd1, bd_nr, as_bd, ga_ce, ga_nr, ga_len, ga_wk, ga_val, st0, st1, st2, as_st, st_ce, tr_ce, up_nr, up_ce, tup_ce, tk_len, tkB, ce_int', x_swhile, Bool.false_eq_true, reduceIte, wk_lst', hg, im])))
    have cnt : ∀ (z : Nat) st (a b7 b8 b9 : Option D) (Q : T) (hQ : Q = q__law_led_right_3 ∧ z = s ∨ Q = q__law_led_right_4 ∧ z = t), compS (cf Fs (n + 50)) false (T.tnm 13) (.so Q) (.var 13) [a, some (Bd low L), some (.lst (row.map .int)), some (someD (w, s, t)), some (.tup (ms.map .int)), some (.lst (S.map fun (k : Nat) => .int (k : Int))), some (.int (2 ^ (L - ms.length))), b7, b8, b9, some (.int (w : Nat)), some (.int (s : Nat)), some (.int (t : Nat)), none] (.fix (S.map fun (k : Nat) => .int (k : Int))) st = .ok (.lst ((S.filter fun k => decide (k < z)).map fun (k : Nat) => .int (k : Int))) st := by
      intro z st a b7 b8 b9 Q hQ
      rw [comp_on (fun (k : Nat) => D.int (k : Int)) (fun k => decide (k < z)) (fun (k : Nat) => D.int (k : Int)) (fun _ => rfl) (fun k hk acc => ?_) (by simp only [sizeLine]; omega), mk_false]
      rcases hQ with ⟨rfl, rfl⟩ | ⟨rfl, rfl⟩
      · simp only [q__law_led_right_3]
        by_cases c : k < z
        · simp! [ce_bd, bd0, bd1, bd_nr, as_bd, ga_ce, ga_nr, ga_len, ga_wk, ga_val, st0, st1, st2, as_st, st_ce, tr_ce, up_nr, up_ce, tup_ce, tk_len, tkB, ce_int', x_swhile, Bool.false_eq_true, reduceIte, wk_lst', decide_eq_true (p := ((k : Nat) : Int) < ((z : Nat) : Int)) (by omega), decide_eq_true c, reduceIte]
        · simp! [ce_bd, bd0, bd1, bd_nr, as_bd, ga_ce, ga_nr, ga_len, ga_wk, ga_val, st0, st1, st2, as_st, st_ce, tr_ce, up_nr, up_ce, tup_ce, tk_len, tkB, ce_int', x_swhile, Bool.false_eq_true, reduceIte, wk_lst', decide_eq_false (p := ((k : Nat) : Int) < ((z : Nat) : Int)) (by omega), decide_eq_false c, reduceIte, Bool.false_eq_true]
      · simp only [q__law_led_right_4]
        by_cases c : k < z
        · simp! [ce_bd, bd0, bd1, bd_nr, as_bd, ga_ce, ga_nr, ga_len, ga_wk, ga_val, st0, st1, st2, as_st, st_ce, tr_ce, up_nr, up_ce, tup_ce, tk_len, tkB, ce_int', x_swhile, Bool.false_eq_true, reduceIte, wk_lst', decide_eq_true (p := ((k : Nat) : Int) < ((z : Nat) : Int)) (by omega), decide_eq_true c, reduceIte]
        · simp! [ce_bd, bd0, bd1, bd_nr, as_bd, ga_ce, ga_nr, ga_len, ga_wk, ga_val, st0, st1, st2, as_st, st_ce, tr_ce, up_nr, up_ce, tup_ce, tk_len, tkB, ce_int', x_swhile, Bool.false_eq_true, reduceIte, wk_lst', decide_eq_false (p := ((k : Nat) : Int) < ((z : Nat) : Int)) (by omega), decide_eq_false c, reduceIte, Bool.false_eq_true]
    have c3 := fun st a b7 b8 b9 => cnt s st a b7 b8 b9 q__law_led_right_3 (.inl ⟨rfl, rfl⟩)
    have c4 := fun st a b7 b8 b9 => cnt t st a b7 b8 b9 q__law_led_right_4 (.inr ⟨rfl, rfl⟩)
    have e3 := eqD_refl (st_pl (L - ms.length) (by omega) (lowOf low L ms) (row.filter F, ((row.take s).filter F).length, ((row.take t).filter F).length))
    rw [lin]
    rw [cf_at (fn := f__law_led_right) rfl rfl]; simp only [f__law_led_right, t__law_led_right]
    simp only [stD, someD] at sp e3 ofs c3 c4 ⊢
    ((try simp! [ce_bd, bd0, bd1, bd_nr, as_bd, ga_ce, ga_nr, ga_len, ga_wk, ga_val, st0, st1, st2, as_st, st_ce, tr_ce, up_nr, up_ce, tup_ce, tk_len, tkB, ce_int', x_swhile, Bool.false_eq_true, reduceIte, wk_lst', eqD_int, eq_self, h33, List.length_map, r0, sp, eN, hLm, h1L, wk_lst', ofs, gr, tree_noref, c3, c4, b0, e3]); (repeat (walk_at "zo"; try simp! [ce_bd, bd0, bd1, bd_nr, as_bd, ga_ce, ga_nr, ga_len, ga_wk, ga_val, st0, st1, st2, as_st, st_ce, tr_ce, up_nr, up_ce, tup_ce, tk_len, tkB, ce_int', x_swhile, Bool.false_eq_true, reduceIte, wk_lst', eqD_int, eq_self, h33, List.length_map, r0, sp, eN, hLm, h1L, wk_lst', ofs, gr, tree_noref, c3, c4, b0, e3])))
theorem way_ok (n : Nat) (A R : Store) (c : Int) {q : Int} (hq0 : -1 ≤ q) (hq : q < 10 ^ 25) (low : Int) {L : Nat} (hL : L ≤ 40) {rows : List (List Int)} (hr1 : 1 ≤ rows.length) (hr2 : rows.length ≤ 1000) (hrl : ∀ r ∈ rows, r.length ≤ 1000) :
    ∃ (ms : List Int) (c' q' : Int), cf Fs (n + 50 + 1) 15 [.ref A.length, Bd low L, .lst (rows.map rowD)] (A ++ penB c q :: R) = .ok (.tup (ms.map .int)) (A ++ penB c' q' :: R) ∧ Marks ms ∧ ms.length ≤ L ∧ -1 ≤ q' ∧ q' ≤ q + 5 := by
  have hp := pow2 (e := L) (by omega)
  obtain ⟨r, c0, q0, e0, hr0, hrn, ha0, hb0⟩ := k_take A R c hq0 (by omega) (m := (rows.length : Nat)) (by omega) (by omega) (show 50 ≤ n + 50 by omega)
  obtain ⟨j, rfl⟩ : ∃ j : Nat, r = j := ⟨r.toNat, by omega⟩
  obtain ⟨row, hrow⟩ : ∃ row, rows[j]? = some row := ⟨_, List.getElem?_eq_getElem (by omega)⟩
  have hrm := hrl row (List.mem_of_getElem? hrow)
  have hW : (rows.map rowD)[j]? = some (.lst (row.map .int)) := by rw [List.getElem?_map, hrow]; rfl
  obtain ⟨u, c1, q1, e1, hu0, hu1, ha1, hb1⟩ := k_take A R c0 ha0 (by omega) (m := 2 ^ L) hp.1 (by omega) (show 50 ≤ n + 50 by omega)
  have h1L : (1 : Int) * 2 ^ ((L : Int)).toNat = 2 ^ L := by simp
  have hrL : ∀ st, rngF 1 [.int (L : Nat)] st = .ok (.fix (rngD 0 L)) st := fun st => rng1_n L (by omega) st
  have eN := eqD_nil (Pl.ints (k := 63) row)
  have fin : ∀ (o c2 q2 : Int), -1 ≤ q2 → q2 ≤ q + 4 → ∃ (ms : List Int) (c' q' : Int), (∀ st a b5, compS (cf Fs (n + 50)) false (.tnm 6) .no e__law_way_1 [a, some (Bd low L), some (.lst (rows.map rowD)), some (.lst (row.map .int)), some (.int o), b5, none] (.fix (rngD 0 L)) st = .ok (.lst ((ms.reverse).map .int)) st) ∧
      ∃ t : Nat, cf Fs (n + 50) 6 [.ref A.length, .int ((L : Int) + 1)] (A ++ penB c2 q2 :: R) = .ok (.int (t : Nat)) (A ++ penB c' q' :: R) ∧ Marks ((ms).take t) ∧ (ms.take t).length ≤ L ∧ -1 ≤ q' ∧ q' ≤ q + 5 := by
    intro o c2 q2 h1 h2
    obtain ⟨t, c3, q3, e3, ht0, ht1, ha3, hb3⟩ := k_take A R c2 h1 (by omega) (m := (L : Int) + 1) (by omega) (by omega) (show 50 ≤ n + 50 by omega)
    obtain ⟨T', rfl⟩ : ∃ T' : Nat, t = T' := ⟨t.toNat, by omega⟩
    refine ⟨((List.range L).map fun k => o / 2 ^ k % 2).reverse, c3, q3, fun st a b5 => ?_, T', e3, ?_, ?_, ha3, by omega⟩
    · rw [List.reverse_reverse]
      have er : rngD 0 L = (List.range L).map fun (k : Nat) => D.int (k : Int) := by
        rw [rngD]
        apply List.map_congr_left
        intro k _
        simp
      rw [er, comp_on (fun (k : Nat) => D.int (k : Int)) (fun _ => true) (fun k => .int (o / 2 ^ k % 2)) (fun _ => rfl) (fun k hk acc => ?_) (by simp only [sizeLine, List.length_range]; omega)]
      · rw [filter_tt, List.map_map, mk_false]; rfl
      · have hk' := List.mem_range.mp hk
        have hpk := pow2 (e := k) (by omega)
        have hdv := fun st => div_o st o (2 ^ k) false hpk.1 (by omega)
        simp only [e__law_way_1]
        ((try simp! [ce_bd, bd0, bd1, bd_nr, as_bd, ga_ce, ga_nr, ga_len, ga_wk, ga_val, st0, st1, st2, as_st, st_ce, tr_ce, up_nr, up_ce, tup_ce, tk_len, tkB, ce_int', x_swhile, Bool.false_eq_true, reduceIte, wk_lst', Int.one_mul, Int.toNat_natCast, hdv]); (repeat (walk_at "zo"; try simp! [ce_bd, bd0, bd1, bd_nr, as_bd, ga_ce, ga_nr, ga_len, ga_wk, ga_val, st0, st1, st2, as_st, st_ce, tr_ce, up_nr, up_ce, tup_ce, tk_len, tkB, ce_int', x_swhile, Bool.false_eq_true, reduceIte, wk_lst', Int.one_mul, Int.toNat_natCast, hdv])))
    · intro m hm
      have := List.mem_of_mem_take hm
      rw [List.mem_reverse] at this
      obtain ⟨k, _, rfl⟩ := List.mem_map.mp this
      omega
    · rw [List.length_take]
      simp
      omega
  by_cases hn : row = []
  · have em : (row.map D.int).isEmpty = true := by rw [hn]; rfl
    rw [em] at eN
    obtain ⟨ms, c', q', k1, t, k2, k3, k4, k6, k7⟩ := fin u c1 q1 ha1 (by omega)
    refine ⟨ms.take t, c', q', ?_, k3, k4, k6, k7⟩
    rw [List.map_take]
    rw [cf_at (fn := f__law_way) rfl rfl]; simp only [f__law_way, t__law_way]
    ((try simp! [ce_bd, bd0, bd1, bd_nr, as_bd, ga_ce, ga_nr, ga_len, ga_wk, ga_val, st0, st1, st2, as_st, st_ce, tr_ce, up_nr, up_ce, tup_ce, tk_len, tkB, ce_int', x_swhile, Bool.false_eq_true, reduceIte, wk_lst', e0, List.length_map, hW, h1L, e1, eN, hrL, k1, ← List.map_reverse, List.reverse_reverse, k2, cut_to]); (repeat (walk_at "zo"; try simp! [ce_bd, bd0, bd1, bd_nr, as_bd, ga_ce, ga_nr, ga_len, ga_wk, ga_val, st0, st1, st2, as_st, st_ce, tr_ce, up_nr, up_ce, tup_ce, tk_len, tkB, ce_int', x_swhile, Bool.false_eq_true, reduceIte, wk_lst', e0, List.length_map, hW, h1L, e1, eN, hrL, k1, ← List.map_reverse, List.reverse_reverse, k2, cut_to])))
  · have em : (row.map D.int).isEmpty = false := by cases row with
      | nil => exact absurd rfl hn
      | cons _ _ => rfl
    rw [em] at eN
    have hpos : 0 < row.length := List.length_pos_iff.mpr hn
    obtain ⟨w, c2, q2, e2, hw0, hw1, ha2, hb2⟩ := k_take A R c1 ha1 (by omega) (m := 4) (by omega) (by omega) (show 50 ≤ n + 50 by omega)
    by_cases hw : 0 < w
    · obtain ⟨v, c3, q3, e3, hv0, hv1, ha3, hb3⟩ := k_take A R c2 ha2 (by omega) (m := (row.length : Nat)) (by omega) (by omega) (show 50 ≤ n + 50 by omega)
      obtain ⟨y, hy, hym⟩ := PA.atI_mem (xs := row.map D.int) hv0 (by simpa using hv1)
      obtain ⟨z, hz, rfl⟩ := List.mem_map.mp hym
      obtain ⟨ms, c', q', k1, t, k2, k3, k4, k6, k7⟩ := fin (z - low) c3 q3 ha3 (by omega)
      refine ⟨ms.take t, c', q', ?_, k3, k4, k6, k7⟩
      rw [List.map_take]
      rw [cf_at (fn := f__law_way) rfl rfl]; simp only [f__law_way, t__law_way]
      ((try simp! [ce_bd, bd0, bd1, bd_nr, as_bd, ga_ce, ga_nr, ga_len, ga_wk, ga_val, st0, st1, st2, as_st, st_ce, tr_ce, up_nr, up_ce, tup_ce, tk_len, tkB, ce_int', x_swhile, Bool.false_eq_true, reduceIte, wk_lst', e0, List.length_map, hW, h1L, e1, eN, e2, decide_eq_true hw, e3, hy, hrL, k1, ← List.map_reverse, List.reverse_reverse, k2, cut_to]); (repeat (walk_at "zo"; try simp! [ce_bd, bd0, bd1, bd_nr, as_bd, ga_ce, ga_nr, ga_len, ga_wk, ga_val, st0, st1, st2, as_st, st_ce, tr_ce, up_nr, up_ce, tup_ce, tk_len, tkB, ce_int', x_swhile, Bool.false_eq_true, reduceIte, wk_lst', e0, List.length_map, hW, h1L, e1, eN, e2, decide_eq_true hw, e3, hy, hrL, k1, ← List.map_reverse, List.reverse_reverse, k2, cut_to])))
    · obtain ⟨ms, c', q', k1, t, k2, k3, k4, k6, k7⟩ := fin u c2 q2 ha2 (by omega)
      refine ⟨ms.take t, c', q', ?_, k3, k4, k6, k7⟩
      rw [List.map_take]
      rw [cf_at (fn := f__law_way) rfl rfl]; simp only [f__law_way, t__law_way]
      ((try simp! [ce_bd, bd0, bd1, bd_nr, as_bd, ga_ce, ga_nr, ga_len, ga_wk, ga_val, st0, st1, st2, as_st, st_ce, tr_ce, up_nr, up_ce, tup_ce, tk_len, tkB, ce_int', x_swhile, Bool.false_eq_true, reduceIte, wk_lst', e0, List.length_map, hW, h1L, e1, eN, e2, decide_eq_false hw, hrL, k1, ← List.map_reverse, List.reverse_reverse, k2, cut_to]); (repeat (walk_at "zo"; try simp! [ce_bd, bd0, bd1, bd_nr, as_bd, ga_ce, ga_nr, ga_len, ga_wk, ga_val, st0, st1, st2, as_st, st_ce, tr_ce, up_nr, up_ce, tup_ce, tk_len, tkB, ce_int', x_swhile, Bool.false_eq_true, reduceIte, wk_lst', e0, List.length_map, hW, h1L, e1, eN, e2, decide_eq_false hw, hrL, k1, ← List.map_reverse, List.reverse_reverse, k2, cut_to])))
theorem many_ref (n : Nat) (e : Nat) (low : Int) {g : List S3} (hg : ∀ x ∈ g, Good x) (hl : g.length ≤ 1000) (l : Nat) (st : Store) (h : lstOf st (.ref l) = some (g.map (stD e low))) :
    cf Fs (n + 50) 1 [.ref l] st = .ok (.int ((nums g).length : Nat)) st := by
  rw [show n + 50 = n + 49 + 1 from rfl]
  rw [cf_at (fn := f_many_in) rfl rfl]; simp only [f_many_in, t_many_in]
  have cp := comp_anyM (F := cf Fs (n + 49)) (m := false) (tg := .ttp (.cons (.tnm 1) (.cons (.tnm 2) (.cons (.tnm 3) .nil)))) (elt := e_many_in_1) (env := [some (.ref l), none, none, none]) (st := st) (p := .ref l) (xs := g) (stD e low) (fun x => .int (((x.2.2 : Nat) : Int) - (x.2.1 : Nat))) (fun d => match d with | .tup [_, .int s, .int t] => .int (t - s) | _ => .non) (fun _ _ => rfl) h (fun x hx acc => by
    simp only [e_many_in_1, stD]
    simp! [ce_bd, bd0, bd1, bd_nr, as_bd, ga_ce, ga_nr, ga_len, ga_wk, ga_val, st0, st1, st2, as_st, st_ce, tr_ce, up_nr, up_ce, tup_ce, tk_len, tkB, ce_int', x_swhile, Bool.false_eq_true, reduceIte, wk_lst']) (fun _ => rfl) (by simp only [sizeLine]; omega)
  rw [mk_false] at cp
  have sd := sum_diff g hg
  simp! [ce_bd, bd0, bd1, bd_nr, as_bd, ga_ce, ga_nr, ga_len, ga_wk, ga_val, st0, st1, st2, as_st, st_ce, tr_ce, up_nr, up_ce, tup_ce, tk_len, tkB, ce_int', x_swhile, Bool.false_eq_true, reduceIte, wk_lst', cp, sum_map, sd]
theorem law_turn (n : Nat) (A : Store) {low : Int} {L : Nat} (hL : L ≤ 40) (hlo : -10 ^ 40 < low) (hhi : low < 10 ^ 40) {rows : List (List Int)} (hrows : ∀ r ∈ rows, InB low L r ∧ r.length ≤ 300) (hr1 : 1 ≤ rows.length) (hr2 : rows.length ≤ 3) {so : List (Nat × Nat × Nat)} (hso : ∀ x ∈ so, OkSome rows x) (hs1 : 1 ≤ so.length) (hs2 : so.length ≤ 7) (R : Store) {c q : Int} (hq0 : -1 ≤ q) (hq : q < 10 ^ 24) (i : Int) (s0 s1 s5 s9 s10 s11 s12 : Option D) :
    ∃ (c' q' : Int) (t9 t10 t11 t12 : Option D) (R' : Store), turn (cf Fs (n + 60)) (.tnm 5) b_law_4 (.int i) [s0, s1, some (.ref A.length), some (gaD L low (gath rows so)), some (gaD L low (gath rows so)), s5, some (Bd low L), some (.lst (rows.map rowD)), some (.lst (so.map someD)), s9, s10, s11, s12, none, none, none] (A ++ penB c q :: R) =
      .nx [s0, s1, some (.ref A.length), some (gaD L low (gath rows so)), some (gaD L low (gath rows so)), some (.int i), some (Bd low L), some (.lst (rows.map rowD)), some (.lst (so.map someD)), t9, t10, t11, t12, none, none, none] (A ++ penB c' q' :: R') ∧ -1 ≤ q' ∧ q' ≤ q + 5 := by
  obtain ⟨ms, c1, q1, e1, hm, hl, ha1, hb1⟩ := way_ok (n + 9) A R c hq0 (by omega) low hL hr1 (by omega) (fun r hr => by have := (hrows r hr).2; omega)
  have G : GC low L (gath rows so) := GC.of hL hlo hhi hrows hso (by omega)
  obtain ⟨g, hg⟩ : ∃ g, g = gath rows so := ⟨_, rfl⟩
  have hgl : g.length = so.length := by rw [hg, gath, List.length_map]
  obtain ⟨sA, hsA⟩ : ∃ sA, sA = A ++ penB c1 q1 :: R := ⟨_, rfl⟩
  have ld := k_led low (ms := ms) (e := L) (g := g) hl (by omega) hm (by rw [hg]; exact G.hg) (by omega) true (show 50 ≤ n + 60 by omega) sA
  rw [mk_true] at ld
  obtain ⟨lg, hlg⟩ : ∃ lg, lg = g.map (ledS L low ms) := ⟨_, rfl⟩
  rw [← hlg] at ld
  obtain ⟨X, hX⟩ : ∃ X, X = lg.map (stD (L - ms.length) (lowOf low L ms)) := ⟨_, rfl⟩
  rw [← hX] at ld
  have hXl : X.length = so.length := by rw [hX, List.length_map, hlg, List.length_map, hgl]
  have hgood : ∀ x ∈ lg, Good x := fun x hx => by
    rw [hlg] at hx
    obtain ⟨y, hy, rfl⟩ := List.mem_map.mp hx
    exact Good.ledS ms L low (G.hg y (by rw [← hg]; exact hy))
  have hls : lstOf (sA ++ [some (Cell.lst X)]) (.ref sA.length) = some X := by rw [lstOf_ref, mid_get]; rfl
  have mr := many_ref (n + 10) (L - ms.length) (lowOf low L ms) hgood (by rw [hlg, List.length_map]; omega) sA.length (sA ++ [some (Cell.lst X)]) (by rw [hls, hX])
  have cs := fun (i a : Option D) (t9 t11 t12 : Option D) => comp_anyM (F := cf Fs (n + 60)) (m := false) (tg := .tnm 12) (elt := e_law_3) (env := [s0, s1, some (.ref A.length), some (gaD L low g), some (gaD L low g), i, some (Bd low L), some (.lst (rows.map rowD)), some (.lst (so.map someD)), t9, some (.ref sA.length), t11, none, none, none, none]) (st := sA ++ [some (Cell.lst X)]) (p := .ref sA.length) (xs := lg) (stD (L - ms.length) (lowOf low L ms)) (fun x => .int (((x.2.2 : Nat) : Int) - (x.2.1 : Nat))) (fun d => match d with | .tup [_, .int s, .int t] => .int (t - s) | _ => .non) (fun _ _ => rfl) (by rw [hls, hX]) (fun x hx acc => by
    simp only [e_law_3, stD]
    simp! [ce_bd, bd0, bd1, bd_nr, as_bd, ga_ce, ga_nr, ga_len, ga_wk, ga_val, st0, st1, st2, as_st, st_ce, tr_ce, up_nr, up_ce, tup_ce, tk_len, tkB, ce_int', x_swhile, Bool.false_eq_true, reduceIte, wk_lst']) (fun _ => rfl) (by rw [hlg, List.length_map]; simp only [sizeLine]; omega)
  simp only [mk_false] at cs
  have cs' := fun (i : Option D) (t9 t11 : Option D) => cs i none t9 t11 none
  have sd := sum_diff lg hgood
  have isl : isiF (.ref sA.length) "list" (sA ++ [some (Cell.lst X)]) = .ok (.bl true) (sA ++ [some (Cell.lst X)]) := by simp only [isiF, hls]; rfl
  have er := eqD_refl (ga_pl L (by omega) low g)
  obtain ⟨env, st, lp, t11, t12, rfl, rfl⟩ := forZ_all (body := turn (cf Fs (n + 60)) (.ttp (.cons (.tnm 11) (.cons (.tnm 12) .nil))) b_law_2) (l := sA.length) (xs := so.map someD) (ys := X) (by rw [List.length_map, hXl]) (by rw [List.length_map]; omega)
    (fun j env st => ∃ t11 t12 : Option D, env = [s0, s1, some (.ref A.length), some (gaD L low g), some (gaD L low g), some (.int i), some (Bd low L), some (.lst (rows.map rowD)), some (.lst (so.map someD)), some (.tup (ms.map .int)), some (.ref sA.length), t11, t12, none, none, none] ∧ st = sA ++ [some (Cell.lst X)]) (by
      rintro j x y env st hx hy ⟨t11, t12, rfl, rfl⟩
      refine ⟨hls, ?_⟩
      rw [List.getElem?_map] at hx
      obtain ⟨z, hz, rfl⟩ := Option.map_eq_some_iff.mp hx
      have hzo := hso z (List.mem_of_getElem? hz)
      obtain ⟨h3, h4, h5⟩ := row_at hzo
      have hrw := hrows _ (List.mem_of_getElem? h3)
      have hyy : y = stD (L - ms.length) (lowOf low L ms) (ledS L low ms (rows.getD z.1 [], z.2.1, z.2.2)) := by
        rw [hX, hlg, hg, gath, List.map_map, List.map_map, List.getElem?_map, hz] at hy
        exact (Option.some.inj hy).symm
      subst hyy
      have hW : (rows.map rowD)[z.1]? = some (.lst ((rows.getD z.1 []).map .int)) := by rw [List.getElem?_map, h3]; rfl
      have lr := fun st => led_right_ok (n + 9) hL (by have := hrw.2; omega) hrw.1 hm hl z.1 z.2.1 z.2.2 h4 h5 st
      refine ⟨_, _, ?_, some (someD z), some (stD (L - ms.length) (lowOf low L ms) (ledS L low ms (rows.getD z.1 [], z.2.1, z.2.2))), rfl, rfl⟩
      simp only [turn, b_law_2]
      have s0' : ∀ st, subIx (someD z) (.int 0) st = .ok (.int (z.1 : Nat)) st := fun _ => rfl
      simp! [ce_bd, bd0, bd1, bd_nr, as_bd, ga_ce, ga_nr, ga_len, ga_wk, ga_val, st0, st1, st2, as_st, st_ce, tr_ce, up_nr, up_ce, tup_ce, tk_len, tkB, ce_int', x_swhile, Bool.false_eq_true, reduceIte, wk_lst', s0', hW, lr]) (fun j env st ⟨_, _, _, e⟩ => by rw [e]; exact hls) ⟨s11, s12, rfl, rfl⟩
  refine ⟨c1, q1, some (.tup (ms.map .int)), some (.ref sA.length), t11, t12, R ++ [some (.lst [])], ?_, ha1, by omega⟩
  rw [← hg]
  simp only [turn, b_law_4]
  have fin : A ++ penB c1 q1 :: (R ++ [some (Cell.lst [])]) = sA ++ [some (.lst [])] := by rw [hsA]; simp
  rw [fin]
  have hzl : (so.map someD).length = X.length := by rw [List.length_map, hXl]
  have zz := zip_lr (st := sA ++ [some (Cell.lst X)]) (xs := so.map someD) hls hzl
  rw [← hsA] at e1
  have tk1 : List.take (A ++ penB c q :: R).length sA = sA := by rw [hsA]; exact tkB A R _ _
  have hlen : decide (((X.length : Nat) : Int) = ((so.length : Nat) : Int)) = true := decide_eq_true (by omega)
  simp! [ce_bd, bd0, bd1, bd_nr, as_bd, ga_ce, ga_nr, ga_len, ga_wk, ga_val, st0, st1, st2, as_st, st_ce, tr_ce, up_nr, up_ce, tup_ce, tk_len, tkB, ce_int', x_swhile, Bool.false_eq_true, reduceIte, wk_lst', e1, tk1, ld, isl, hls, List.length_map, eqD_int, hlen, er, zz, lp, mr, cs', sum_map, sd, eq_self, clr_rf, mid_get, clrO_lst, mid_set]
theorem list_ga (e : Nat) (low : Int) (g : List S3) (st : Store) : bltF .list false [gaD e low g] st = .ok (gaD e low g) st := rfl
theorem law_b5 (n : Nat) (ns : List Int) (i : Nat) (hi : i < 2) (A : Store) (s1 s2 s3 s4 s5 s6 s7 s8 s9 s10 s11 s12 : Option D) :
    ∃ t1 t2 t5 t6 t7 t8 t9 t10 t11 t12 A' low L g, GC low L g ∧ turn (cf Fs (n + 60)) (.tnm 1) b_law_5 (.int ((0 : Int) + (i : Nat))) [some (.scr ns), s1, s2, s3, s4, s5, s6, s7, s8, s9, s10, s11, s12, none, none, none] A =
      .nx [some (.scr ns), t1, t2, some (gaD L low g), some (gaD L low g), t5, t6, t7, t8, t9, t10, t11, t12, none, none, none] A' := by
  obtain ⟨v, hv⟩ := k_cell ns (k := i) (by omega)
  have pn := fun st => k_pen v (show 50 ≤ n + 60 by omega) st
  obtain ⟨low0, L0, rows0, so0, c1, q1, e1, hL0, hlo0, hhi0, hrows0, hr10, hr20, hso0, hs10, hs20, ha1, hb1⟩ := k_drawn A [] v (q := 0) (by omega) (by omega) (G := 60) (by omega) (show 50 ≤ n + 60 by omega)
  obtain ⟨u, c2, q2, e2, hu0, hu1, ha2, hb2⟩ := k_take A [] c1 ha1 (by omega) (m := 16) (by omega) (by omega) (show 50 ≤ n + 60 by omega)
  rw [show ((60 : Nat) : Int) = 60 from rfl] at e1
  -- what is walked behind the draws
  have rest : ∀ (low : Int) (L : Nat) (rows : List (List Int)) (so : List (Nat × Nat × Nat)) (c q : Int), L ≤ 40 → -10 ^ 40 < low → low < 10 ^ 40 → (∀ r ∈ rows, InB low L r ∧ r.length ≤ 300) → 1 ≤ rows.length → rows.length ≤ 3 → (∀ x ∈ so, OkSome rows x) → 1 ≤ so.length → so.length ≤ 7 → -1 ≤ q → q ≤ 20000 →
      GC low L (gath rows so) ∧ (∀ st, (cf Fs (n + 60) 12 [Bd low L, .lst (rows.map rowD), .lst (so.map someD)] st).bind (callEnd false st.length) = .ok (gaD L low (gath rows so)) st) ∧
      (∀ st, cf Fs (n + 60) 1 [gaD L low (gath rows so)] st = .ok (.int ((nums (gath rows so)).length : Nat)) st) ∧
      (∀ st (a b c d e f g h i j k l m : Option D), compS (cf Fs (n + 60)) false (.ttp (.cons (.tnm 13) (.cons (.tnm 14) (.cons (.tnm 15) .nil)))) .no e_law_1 [a, b, c, d, e, f, g, h, i, j, k, l, m, none, none, none] (.fix (so.map someD)) st = .ok (.lst (so.map fun x => .int (((x.2.2 : Nat) : Int) - (x.2.1 : Nat)))) st) ∧
      (so.map fun x => (((x.2.2 : Nat) : Int) - (x.2.1 : Nat))).sum = ((nums (gath rows so)).length : Nat) ∧
      ∀ (s0 s1 s5 s9 s10 s11 s12 : Option D), ∃ c' q' t5 t9 t10 t11 t12 R', forL (turn (cf Fs (n + 60)) (.tnm 5) b_law_4) (rngD 0 4) [s0, s1, some (.ref A.length), some (gaD L low (gath rows so)), some (gaD L low (gath rows so)), s5, some (Bd low L), some (.lst (rows.map rowD)), some (.lst (so.map someD)), s9, s10, s11, s12, none, none, none] (A ++ [penB c q]) =
        .nx [s0, s1, some (.ref A.length), some (gaD L low (gath rows so)), some (gaD L low (gath rows so)), t5, some (Bd low L), some (.lst (rows.map rowD)), some (.lst (so.map someD)), t9, t10, t11, t12, none, none, none] (A ++ penB c' q' :: R') := by
    intro low L rows so c q hL hlo hhi hrows hr1 hr2 hso hs1 hs2 hq0 hq
    have G : GC low L (gath rows so) := GC.of hL hlo hhi hrows hso (by omega)
    refine ⟨G, fun st => k_gathF low hL (fun r hr => by have := (hrows r hr).2; omega) (by omega) hso (by omega) (show 50 ≤ n + 60 by omega) st, fun st => k_many L low G.hg (by have := G.hl; omega) (show 50 ≤ n + 60 by omega) st, fun st a b c d e f g h i j k l m => ?_, ?_, fun s0 s1 s5 s9 s10 s11 s12 => ?_⟩
    · have h := comp_on (F := cf Fs (n + 60)) (m := false) (tg := .ttp (.cons (.tnm 13) (.cons (.tnm 14) (.cons (.tnm 15) .nil)))) (cond := .no) (elt := e_law_1) (env := [a, b, c, d, e, f, g, h, i, j, k, l, m, none, none, none]) (st := st) (xs := so) someD (fun _ => true) (fun x => .int (((x.2.2 : Nat) : Int) - (x.2.1 : Nat))) (fun _ => rfl) (fun x hx acc => by
        simp only [e_law_1, someD]
        simp! [ce_bd, bd0, bd1, bd_nr, as_bd, ga_ce, ga_nr, ga_len, ga_wk, ga_val, st0, st1, st2, as_st, st_ce, tr_ce, up_nr, up_ce, tup_ce, tk_len, tkB, ce_int', x_swhile, Bool.false_eq_true, reduceIte, wk_lst']) (by simp only [sizeLine]; omega)
      rw [mk_false, filter_tt] at h
      exact h
    · have := sum_diff (gath rows so) G.hg
      rw [gath, List.map_map] at this
      exact this
    · obtain ⟨env, st, e, t5, t9, t10, t11, t12, c', q', R', rfl, rfl, h1, h2⟩ := rng_loop (body := turn (cf Fs (n + 60)) (.tnm 5) b_law_4) (lo := 0) (n := 4) (env := [s0, s1, some (.ref A.length), some (gaD L low (gath rows so)), some (gaD L low (gath rows so)), s5, some (Bd low L), some (.lst (rows.map rowD)), some (.lst (so.map someD)), s9, s10, s11, s12, none, none, none]) (st := A ++ [penB c q])
        (fun i env st => ∃ (t5 t9 t10 t11 t12 : Option D) (c' q' : Int) (R' : Store), env = [s0, s1, some (.ref A.length), some (gaD L low (gath rows so)), some (gaD L low (gath rows so)), t5, some (Bd low L), some (.lst (rows.map rowD)), some (.lst (so.map someD)), t9, t10, t11, t12, none, none, none] ∧ st = A ++ penB c' q' :: R' ∧ -1 ≤ q' ∧ q' ≤ q + 5 * i) (by
          rintro i env st hi ⟨t5, t9, t10, t11, t12, c', q', R', rfl, rfl, h1, h2⟩
          obtain ⟨c2, q2, u9, u10, u11, u12, R2, e, h3, h4⟩ := law_turn n A hL hlo hhi hrows hr1 hr2 hso hs1 hs2 R' (c := c') (q := q') h1 (by omega) ((0 : Int) + (i : Nat)) s0 s1 t5 t9 t10 t11 t12
          exact ⟨_, _, e, _, u9, u10, u11, u12, c2, q2, R2, rfl, rfl, h3, by omega⟩) ⟨s5, s9, s10, s11, s12, c, q, [], rfl, rfl, hq0, by omega⟩
      exact ⟨c', q', t5, t9, t10, t11, t12, R', e⟩
  by_cases hu : u = 0
  · obtain ⟨low, L, row, s, t, c3, q3, e3, hL, hlo, hhi, hrb, hrl, hst, htl, ha3, hb3⟩ := k_wide A [] c2 (q := q2) ha2 (by omega) (show 50 ≤ n + 60 by omega)
    obtain ⟨G, ga, mo, cs, sd, lp⟩ := rest low L [row] [(0, s, t)] c3 q3 hL hlo hhi (fun r hr => by rw [List.mem_singleton.mp hr]; exact ⟨hrb, hrl⟩) (by simp) (by simp) (fun x hx => by rw [List.mem_singleton.mp hx]; exact ⟨row, rfl, hst, htl⟩) (by simp) (by simp) ha3 (by omega)
    have d0 : eqD (.int u) (.int 0) = some true := by rw [eqD_int, decide_eq_true hu]
    have sm1 := fun st => sum_map [((0 : Nat), s, t)] (fun x => ((x.2.2 : Nat) : Int) - (x.2.1 : Nat)) false st
    rw [sd] at sm1
    simp only [List.map_cons, List.map_nil] at sm1
    obtain ⟨c', q', t5, t9, t10, t11, t12, R', lp'⟩ := lp (some (.scr ns)) (some (.int (i : Nat))) s5 s9 s10 s11 s12
    refine ⟨some (.int (i : Nat)), some (.ref A.length), t5, some (Bd low L), some (.lst [rowD row]), some (.lst [someD (0, s, t)]), t9, t10, t11, t12, A ++ penB c' q' :: R', low, L, _, G, ?_⟩
    simp only [Int.zero_add]
    simp only [turn, b_law_5]
    simp only [List.map_cons, List.map_nil] at ga cs lp'
    simp! [ce_bd, bd0, bd1, bd_nr, as_bd, ga_ce, ga_nr, ga_len, ga_wk, ga_val, st0, st1, st2, as_st, st_ce, tr_ce, up_nr, up_ce, tup_ce, tk_len, tkB, ce_int', x_swhile, Bool.false_eq_true, reduceIte, wk_lst', hv, pn, e1, e2, d0, e3, ga, list_ga, mo, wk_lst', cs, sm1, eqD_int, eq_self, show ∀ st, rngF 1 [.int 4] st = .ok (.fix (rngD 0 4)) st from fun _ => rfl, lp']
  · obtain ⟨G, ga, mo, cs, sd, lp⟩ := rest low0 L0 rows0 so0 c2 q2 hL0 hlo0 hhi0 (fun r hr => ⟨(hrows0 r hr).1, by have := (hrows0 r hr).2; omega⟩) hr10 hr20 hso0 hs10 hs20 ha2 (by omega)
    have d0 : eqD (.int u) (.int 0) = some false := by rw [eqD_int, decide_eq_false hu]
    obtain ⟨c', q', t5, t9, t10, t11, t12, R', lp'⟩ := lp (some (.scr ns)) (some (.int (i : Nat))) s5 s9 s10 s11 s12
    refine ⟨some (.int (i : Nat)), some (.ref A.length), t5, some (Bd low0 L0), some (.lst (rows0.map rowD)), some (.lst (so0.map someD)), t9, t10, t11, t12, A ++ penB c' q' :: R', low0, L0, _, G, ?_⟩
    simp only [Int.zero_add]
    simp only [turn, b_law_5]
    simp! [ce_bd, bd0, bd1, bd_nr, as_bd, ga_ce, ga_nr, ga_len, ga_wk, ga_val, st0, st1, st2, as_st, st_ce, tr_ce, up_nr, up_ce, tup_ce, tk_len, tkB, ce_int', x_swhile, Bool.false_eq_true, reduceIte, wk_lst', hv, pn, e1, e2, d0, ga, list_ga, mo, wk_lst', cs, sum_map, sd, eqD_int, eq_self, show ∀ st, rngF 1 [.int 4] st = .ok (.fix (rngD 0 4)) st from fun _ => rfl, lp']
theorem law_main (n : Nat) (ns : List Int) : ∃ st', ex (cf Fs (n + 60)) t_law [some (.scr ns), none, none, none, none, none, none, none, none, none, none, none, none, none, none, none] [] = .rt (.bl true) st' := by
  obtain ⟨t1, t2, t5, t6, t7, t8, t9, t10, t11, t12, A1, low, L, g, G, k1⟩ := law_b5 n ns 0 (by omega) [] none none none none none none none none none none none none
  obtain ⟨u1, u2, u5, u6, u7, u8, u9, u10, u11, u12, A2, low2, L2', g2, G2, k2⟩ := law_b5 n ns 1 (by omega) A1 t1 t2 (some (gaD L low g)) (some (gaD L low g)) t5 t6 t7 t8 t9 t10 t11 t12
  have mo := fun st => k_many L2' low2 G2.hg (by have := G2.hl; omega) (show 50 ≤ n + 60 by omega) st
  have lp : forL (turn (cf Fs (n + 60)) (.tnm 1) b_law_5) (rngD 0 2) [some (.scr ns), none, none, none, none, none, none, none, none, none, none, none, none, none, none, none] [] = .nx [some (.scr ns), u1, u2, some (gaD L2' low2 g2), some (gaD L2' low2 g2), u5, u6, u7, u8, u9, u10, u11, u12, none, none, none] A2 := by
    rw [show rngD 0 2 = [.int ((0 : Int) + ((0 : Nat) : Int)), .int ((0 : Int) + ((1 : Nat) : Int))] from rfl, forL_nx k1, forL_nx k2, forL_nil]
  simp only [t_law]
  simp! [ce_bd, bd0, bd1, bd_nr, as_bd, ga_ce, ga_nr, ga_len, ga_wk, ga_val, st0, st1, st2, as_st, st_ce, tr_ce, up_nr, up_ce, tup_ce, tk_len, tkB, ce_int', x_swhile, Bool.false_eq_true, reduceIte, wk_lst', show ∀ st, rngF 1 [.int 2] st = .ok (.fix (rngD 0 2)) st from fun _ => rfl, lp, mo, eqD_int, eq_self]
  exact ⟨_, rfl⟩
theorem law_true (ns : List Int) (_ : ns.length ≤ 63) (_ : ∀ z ∈ ns, PySem.Builtin.Int.intBits z ≤ 1048576) : ∃ st', cf Fs 100 i_law [.scr ns] [] = .ok (.bl true) st' := by
  obtain ⟨st', h⟩ := law_main 39 ns
  rw [show i_law = 17 from rfl, show (100 : Nat) = 39 + 60 + 1 from rfl, cf_at (fn := f_law) rfl rfl]; simp only [f_law]
  simp! [h]
  exact ⟨_, rfl⟩
end Tx

open PySem PySem.W PyProof.Rows
set_option maxHeartbeats 0 in
theorem PySem.Challenge.cw_manyleast_k16_gatherings_led_holds : PySem.Challenge.rw_manyleast_k16_gatherings_led.Holds := by
  w_on; o_law; k_head; (case hw => w_witness2)
  k_fill
  refine Zn.walk_end (l := PySem.Challenge.rw_manyleast_k16_gatherings_led) (Fs := Tx.Fs) (k := 100) (f := 17) (fn := Tx.f_law) rfl rfl ⟨rfl, by decide, by decide⟩ (fun w h Y => PySem.W.kIn_of Y) rfl rfl rfl rfl ?F Tx.law_true
  case F =>
    intro w mg h KX G XX
    refine' Tx.tab KX G ?a0 ?l0 ?c0 ?k0 ?a1 ?l1 ?c1 ?k1 ?a2 ?l2 ?c2 ?k2 ?a3 ?l3 ?c3 ?k3 ?a4 ?l4 ?c4 ?k4 ?a5 ?l5 ?c5 ?k5 ?a6 ?l6 ?c6 ?k6 ?a7 ?l7 ?c7 ?k7 ?a8 ?l8 ?c8 ?k8 ?a9 ?l9 ?c9 ?k9 ?a10 ?l10 ?c10 ?k10 ?a11 ?l11 ?c11 ?k11 ?a12 ?l12 ?c12 ?k12 ?a13 ?l13 ?c13 ?k13 ?a14 ?l14 ?c14 ?k14 ?a15 ?l15 ?c15 ?k15 ?a16 ?l16 ?c16 ?k16 ?a17 ?l17 ?c17 ?k17 ?zz
    (case a0 => k_is); (case l0 => k_is); (case c0 => k_is); (case k0 => k_is)
    (case a1 => k_is); (case l1 => k_is); (case c1 => k_is); (case k1 => k_is)
    (case a2 => k_is); (case l2 => k_is); (case c2 => k_is); (case k2 => k_is)
    (case a3 => k_is); (case l3 => k_is); (case c3 => k_is); (case k3 => k_is)
    (case a4 => k_is); (case l4 => k_is); (case c4 => k_is); (case k4 => k_is)
    (case a5 => k_is); (case l5 => k_is); (case c5 => k_is); (case k5 => k_is)
    (case a6 => k_is); (case l6 => k_is); (case c6 => k_is); (case k6 => k_is)
    (case a7 => k_is); (case l7 => k_is); (case c7 => k_is); (case k7 => k_is)
    (case a8 => k_is); (case l8 => k_is); (case c8 => k_is); (case k8 => k_is)
    (case a9 => k_is); (case l9 => k_is); (case c9 => k_is); (case k9 => k_is)
    (case a10 => k_is); (case l10 => k_is); (case c10 => k_is); (case k10 => k_is)
    (case a11 => k_is); (case l11 => k_is); (case c11 => k_is); (case k11 => k_is)
    (case a12 => k_is); (case l12 => k_is); (case c12 => k_is); (case k12 => k_is)
    (case a13 => k_is); (case l13 => k_is); (case c13 => k_is); (case k13 => k_is)
    (case a14 => k_is); (case l14 => k_is); (case c14 => k_is); (case k14 => k_is)
    (case a15 => k_is); (case l15 => k_is); (case c15 => k_is); (case k15 => k_is)
    (case a16 => k_is); (case l16 => k_is); (case c16 => k_is); (case k16 => k_is)
    (case a17 => k_is); (case l17 => k_is); (case c17 => k_is); (case k17 => k_is)
    (case zz => (unfold Zn.bltNames; (repeat (refine List.forall_mem_cons.mpr ⟨by k_is, ?_⟩)); exact fun _ h => nomatch h))

