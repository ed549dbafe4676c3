import PyProof.Rows.All
import Wide.All
import OpenK.AllK
import Wide.FinOn
import HandS.ForMost
import HandS.ForExc
import HandS.Wide
import HandS.IsInst
import HandS.TupAny
import HandS.TupLe
import HandS.CallSlots
import HandS.EndBits
import HandS.Deep
import HandS.SortInts
import HandS.ExcOwn
import HandS.ExcIs
import KE.KRevSl
import HandS.TupMul
import KE.DataCmp
import HandS.NamedTupSort
import KE.KSortTupAny
import HandS.Zip
import HandS.Dict
import HandS.DictTup
import HandS.ListItems
import HandS.More
import KE.KDictKeyed
import HandS.SetFor
import HandS.Strs
import HandS.SortKw
import PyProof.MinMaxWalk
import PyProof.WalkInts
import KE.GoesMore
import HandS.ExcField
import HandS.ExcInit
import KE.KExcIs
import HandS.Exc
import HandS.Comp
import KE.KAsSuite
import HandS.Conv
import HandS.RaiseMore
import HandS.NoneIn
import HandS.Small
import KE.BitLaws
import PySem.Challenge.RW_manyleast_k57_texts_written_and_read
set_option Elab.async false
set_option linter.all false
set_option maxRecDepth 100000
/-! Zn: a little evaluator of the program's own text over plain data, and that the model keeps it. Part 1: data, situations. -/
namespace Zn
open PySem PySem.Spec PyProof.Rows L2

inductive D where
  | non | bl (b : Bool) | int (i : Int) | str (s : Str) | tup (xs : List D) | lst (xs : List D) | scr (ns : List Int) | dct | dcT (ks : List (List Int)) (vs : List D) | exn (c : Nat) (n : Option Int) | ref (l : Nat) | ins (c : Nat) (ds : List D) | lr (ds : List D)
inductive Cell where
  | lst (xs : List D)
  /-- a list of our own that is changed no more -/
  | fz (xs : List D)
  /-- a dict of our own, from whole numbers to whole numbers -/
  | dk (kvs : List (Int × Int))
def Cell.mut : Cell → Bool
  | .fz _ => false
  | _ => true
abbrev Store := List (Option Cell)

def D.isRef : D → Bool
  | .ref _ => true
  | .ins _ _ => true
  | .lr _ => true
  | _ => false
@[simp] theorem isRef_ins (c : Nat) (ds : List D) : D.isRef (.ins c ds) = true := rfl
@[simp] theorem isRef_lr (ds : List D) : D.isRef (.lr ds) = true := rfl
@[simp] theorem isRef_non : D.isRef .non = false := rfl
@[simp] theorem isRef_bl (b : Bool) : D.isRef (.bl b) = false := rfl
@[simp] theorem isRef_int (i : Int) : D.isRef (.int i) = false := rfl
@[simp] theorem isRef_str (s : Str) : D.isRef (.str s) = false := rfl
@[simp] theorem isRef_tup (xs : List D) : D.isRef (.tup xs) = false := rfl
@[simp] theorem isRef_lst (xs : List D) : D.isRef (.lst xs) = false := rfl
@[simp] theorem isRef_scr (xs : List Int) : D.isRef (.scr xs) = false := rfl
@[simp] theorem isRef_dct : D.isRef .dct = false := rfl
@[simp] theorem isRef_dcT (ks : List (List Int)) (vs : List D) : D.isRef (.dcT ks vs) = false := rfl
@[simp] theorem isRef_exn (c : Nat) (n : Option Int) : D.isRef (.exn c n) = false := rfl
@[simp] theorem isRef_ref (l : Nat) : D.isRef (.ref l) = true := rfl

structure Sit where
  r : List Addr
  st : Store
  H : Hp
def Sit.M (s : Sit) (a : Addr) : Prop := ∃ (l : Nat) (c : Cell), s.st[l]? = some (some c) ∧ c.mut = true ∧ s.r[l]? = some a

def KL (K : PySem.W.Frag) (a : Addr) (xs : List V) : Prop :=
  ∃ (o : Obj) (its : Array Value) (n : Nat), K.lookup a = some o ∧ o.cls = .type "list" ∧ o.dict = none ∧ o.data = .seq its n ∧ its.size ≤ sizeLine ∧ Vals xs its.toList

def cn : Nat → Str
  | 0 => "LeastError"
  | 1 => "Beyond"
  | 2 => "NoSuch"
  | 3 => "NoBounds"
  | 4 => "TooMany"
  | 5 => "NoText"
  | 6 => "NoRow"
  | _ => "ValueError"
def subC (x y : Nat) : Bool := decide (x = y) || decide (y = 0) || decide (y = 7)

def exV (a C : Addr) (dd : Option Addr) : HO := .ext fun h => ∃ (oe : Obj) (vs : Array Value), h.get? a = some oe ∧ Zc (.ref C) dd oe ∧ oe.data = .fields vs
structure ExK (K : PySem.W.Frag) (C : Addr) (c : Nat) : Prop where
  eC : ExcC K C
  kV : PySem.W.kitOne K (.ref C) (.type "ValueError") = some true
  at_ : ∀ c', c' < 7 → ∃ C', PySem.W.nsIn K mainGlobals (cn c') = some (some (.ref C')) ∧ PySem.W.kitOne K (.ref C) (.ref C') = some (subC c c')
def dkV (kvs : List (Int × Int)) : List (Key × V) := kvs.map fun p => (Sum.inl p.1, V.int p.2)
def dtV (ks : List (List Int)) (vs : List V) : List (List Key × V) := ks.zipWith (fun k v => (k.map Sum.inl, v)) vs
mutual
inductive RD (K : PySem.W.Frag) (H : Hp) (M : Addr → Prop) : D → V → Prop
  | non : RD K H M .non .non
  | bl (b : Bool) : RD K H M (.bl b) (.bl b)
  | int (i : Int) : RD K H M (.int i) (.int i)
  | str (x : Str) : RD K H M (.str x) (.str x)
  | tup {a : Addr} {xs : List D} {vs : List V} : H a = some (.tup vs) → RDs K H M xs vs → RD K H M (.tup xs) (.ref a)
  | lst {a : Addr} {xs : List D} {vs : List V} : H a = some (.lst vs) → ¬ M a → RDs K H M xs vs → RD K H M (.lst xs) (.ref a)
  | scr {a : Addr} {ns : List Int} : ((∃ o, H a = some (.frz o (.lst (ns.map V.int)))) ∨ KL K a (ns.map V.int)) → RD K H M (.scr ns) (.ref a)
  | dct {a : Addr} {kvs : List (Key × V)} : H a = some (.dK kvs) → ¬ M a → RD K H M .dct (.ref a)
  | dcT {a : Addr} {ks : List (List Int)} {xs : List D} {vs : List V} : H a = some (.dT (dtV ks vs)) → ¬ M a → ks.length = xs.length → RDs K H M xs vs → RD K H M (.dcT ks xs) (.ref a)
  | exn {a C : Addr} {c : Nat} {n : Option Int} {dd : Option Addr} : H a = some (exV a C dd) → ¬ M a → ExK K C c → (∀ d, dd = some d → ¬ M d ∧ ∃ i, n = some i ∧ H d = some (.xd [("number", .int i)]) ∧ PySem.W.findIn K (.ref C) "number" = some none) → (dd = none → n = none) → RD K H M (.exn c n) (.ref a)
inductive RDs (K : PySem.W.Frag) (H : Hp) (M : Addr → Prop) : List D → List V → Prop
  | nil : RDs K H M [] []
  | cons {x : D} {v : V} {xs : List D} {vs : List V} : RD K H M x v → RDs K H M xs vs → RDs K H M (x :: xs) (v :: vs)
end

def clN : Nat → Str
  | 0 => "Makes"
  | _ => "Desk"
def fdN : Nat → List Str
  | 0 => ["own_bounds", "kept_trees", "ahead_of"]
  | _ => ["desk_makes", "desk_bounds"]
structure InsK (K : PySem.W.Frag) (C : Addr) (c : Nat) : Prop where
  at_ : PySem.W.nsIn K mainGlobals (clN c) = some (some (.ref C))
  cl : Cls K C
  nf : ∀ f ∈ fdN c, NoAttr K C f
inductive Rep (K : PySem.W.Frag) (s : Sit) : D → V → Prop
  | ref {l : Nat} {a : Addr} : s.r[l]? = some a → Rep K s (.ref l) (.ref a)
  | dat {d : D} {v : V} : RD K s.H s.M d v → Rep K s d v
  | ins {a C dx : Addr} {c : Nat} {ds : List D} {vs : List V} : s.H a = some (.ins C dx ((fdN c).zip vs)) → ¬ s.M a → InsK K C c → ds.length = vs.length → (∀ (i : Nat) (d : D) (v : V), ds[i]? = some d → vs[i]? = some v → Rep K s d v) → Rep K s (.ins c ds) (.ref a)
  | lr {a : Addr} {ds : List D} {vs : List V} : s.H a = some (.lst vs) → ¬ s.M a → ds.length = vs.length → (∀ (i : Nat) (d : D) (v : V), ds[i]? = some d → vs[i]? = some v → Rep K s d v) → Rep K s (.lr ds) (.ref a)

abbrev Reps (K : PySem.W.Frag) (s : Sit) : List D → List V → Prop := Paired (Rep K s)

def CellOk (K : PySem.W.Frag) (s : Sit) (a : Addr) : Cell → Prop
  | .lst xs => ∃ vs, s.H a = some (.lst vs) ∧ RDs K s.H s.M xs vs
  | .fz xs => ∃ vs, s.H a = some (.lst vs) ∧ RDs K s.H s.M xs vs
  | .dk kvs => s.H a = some (.dK (dkV kvs))
def Cell.xs : Cell → Option (List D)
  | .lst xs => some xs
  | .fz xs => some xs
  | .dk _ => none
theorem cellOk_xs {K : PySem.W.Frag} {s : Sit} {a : Addr} {c : Cell} {xs : List D} (h : CellOk K s a c) (hx : c.xs = some xs) : ∃ vs, s.H a = some (.lst vs) ∧ RDs K s.H s.M xs vs := by
  cases c with
  | lst ys => cases hx; exact h
  | fz ys => cases hx; exact h
  | dk kvs => cases hx
theorem CellOk.tr {K : PySem.W.Frag} {s s' : Sit} {a : Addr} {c : Cell} (h : CellOk K s a c) (hH : ∀ u, s.H a = some u → s'.H a = some u) (hr : ∀ {xs vs}, RDs K s.H s.M xs vs → RDs K s'.H s'.M xs vs) : CellOk K s' a c := by
  cases c with
  | lst ys => obtain ⟨vs, h1, h2⟩ := h; exact ⟨vs, hH _ h1, hr h2⟩
  | fz ys => obtain ⟨vs, h1, h2⟩ := h; exact ⟨vs, hH _ h1, hr h2⟩
  | dk kvs => exact hH _ h
theorem CellOk.there {K : PySem.W.Frag} {s : Sit} {a : Addr} {c : Cell} (h : CellOk K s a c) : ∃ u, s.H a = some u := by
  cases c with
  | lst ys => obtain ⟨vs, h1, _⟩ := h; exact ⟨_, h1⟩
  | fz ys => obtain ⟨vs, h1, _⟩ := h; exact ⟨_, h1⟩
  | dk kvs => exact ⟨_, h⟩
def chgB : HO → Bool
  | .lst _ => true
  | .dK _ => true
  | _ => false

structure Sit.Ok (K : PySem.W.Frag) (s : Sit) : Prop where
  len : s.r.length = s.st.length
  nd : s.r.Nodup
  there : ∀ a ∈ s.r, s.H a ≠ none
  cell : ∀ (l : Nat) (c : Cell) (a : Addr), s.st[l]? = some (some c) → s.r[l]? = some a → CellOk K s a c

structure Sit.Le (s s' : Sit) : Prop where
  pre : ∀ (l : Nat) (a : Addr), s.r[l]? = some a → s'.r[l]? = some a
  keep : ∀ a o, s.H a = some o → ¬ s.M a → s'.H a = some o ∧ ¬ s'.M a
  stay : ∀ a, s.H a ≠ none → s'.H a ≠ none

section
variable {K : PySem.W.Frag} {s s' s'' : Sit}
theorem Sit.Le.refl (s : Sit) : s.Le s := ⟨fun _ _ h => h, fun _ _ h n => ⟨h, n⟩, fun _ h => h⟩
theorem Sit.Le.trans (a : s.Le s') (b : s'.Le s'') : s.Le s'' :=
  ⟨fun l x h => b.pre l x (a.pre l x h), fun x o h n => let ⟨h1, n1⟩ := a.keep x o h n; b.keep x o h1 n1, fun x h => b.stay x (a.stay x h)⟩

theorem Sit.Ok.mchg (ok : s.Ok K) {a : Addr} (m : s.M a) : ∃ u, s.H a = some u ∧ chgB u = true := by
  obtain ⟨l, c, h1, hm, h2⟩ := m
  have := ok.cell l _ a h1 h2
  cases c with
  | lst xs => obtain ⟨vs, h, _⟩ := this; exact ⟨_, h, rfl⟩
  | fz xs => cases hm
  | dk kvs => exact ⟨_, this, rfl⟩
theorem Sit.Ok.nM (ok : s.Ok K) {a : Addr} {u : HO} (h : s.H a = some u) (hu : chgB u = false) : ¬ s.M a := fun m => by
  obtain ⟨w, q, hw⟩ := ok.mchg m
  rw [h] at q
  cases q
  rw [hu] at hw
  cases hw
theorem Sit.Le.rd (ok : s.Ok K) (e : s.Le s') {a : Addr} {u : HO} (h : Rd s.H a u) (hu : chgB u = false) : Rd s'.H a u := by
  rcases h with h | ⟨o, h⟩
  · exact .inl (e.keep a _ h (ok.nM h hu)).1
  · exact .inr ⟨o, (e.keep a _ h (ok.nM h rfl)).1⟩
theorem Sit.Le.sqT (ok : s.Ok K) (e : s.Le s') {a : Addr} {vs : List V} (h : SqT K s.H a vs) : SqT K s'.H a vs := by
  rcases h with h | h
  · exact .inl (e.rd ok h rfl)
  · exact .inr h
mutual
theorem RD.le (ok : s.Ok K) (e : s.Le s') : ∀ {d : D} {v : V}, RD K s.H s.M d v → RD K s'.H s'.M d v
  | _, _, .non => .non
  | _, _, .bl b => .bl b
  | _, _, .int i => .int i
  | _, _, .str x => .str x
  | _, _, .tup h r => .tup (e.keep _ _ h (ok.nM h rfl)).1 (RDs.le ok e r)
  | _, _, .lst h n r => .lst (e.keep _ _ h n).1 (e.keep _ _ h n).2 (RDs.le ok e r)
  | _, _, .scr h => .scr (by
      rcases h with ⟨o, h⟩ | h
      · exact .inl ⟨o, (e.keep _ _ h (ok.nM h rfl)).1⟩
      · exact .inr h)
  | _, _, .dct h n => .dct (e.keep _ _ h n).1 (e.keep _ _ h n).2
  | _, _, .dcT h n l r => .dcT (e.keep _ _ h n).1 (e.keep _ _ h n).2 l (RDs.le ok e r)
  | _, _, .exn h n k f g => .exn (e.keep _ _ h n).1 (e.keep _ _ h n).2 k (fun d hd => let ⟨m, i, e1, e2, e3⟩ := f d hd; ⟨(e.keep _ _ e2 m).2, i, e1, (e.keep _ _ e2 m).1, e3⟩) g
theorem RDs.le (ok : s.Ok K) (e : s.Le s') : ∀ {ds : List D} {vs : List V}, RDs K s.H s.M ds vs → RDs K s'.H s'.M ds vs
  | _, _, .nil => .nil
  | _, _, .cons h r => .cons (RD.le ok e h) (RDs.le ok e r)
end
theorem Rep.le (ok : s.Ok K) (e : s.Le s') {d : D} {v : V} (h : Rep K s d v) : Rep K s' d v := by
  induction h with
  | ref h => exact .ref (e.pre _ _ h)
  | dat h => exact .dat (h.le ok e)
  | ins h n k l _ ih => exact .ins (e.keep _ _ h n).1 (e.keep _ _ h n).2 k l ih
  | lr h n l _ ih => exact .lr (e.keep _ _ h n).1 (e.keep _ _ h n).2 l ih
theorem Reps.le (ok : s.Ok K) (e : s.Le s') {ds : List D} {vs : List V} (h : Reps K s ds vs) : Reps K s' ds vs := by
  induction h with
  | nil => exact .nil
  | cons a _ ih => exact .cons (a.le ok e) ih
theorem Rep.rd {d : D} {v : V} (h : Rep K s d v) (n : d.isRef = false) : RD K s.H s.M d v := by
  cases h with
  | ref h => cases n
  | dat h => exact h
  | ins => cases n
  | lr => cases n
theorem Reps.rds {ds : List D} {vs : List V} (h : Reps K s ds vs) (n : ds.all (fun d => !d.isRef) = true) : RDs K s.H s.M ds vs := by
  induction h with
  | nil => exact .nil
  | cons a _ ih =>
    rw [List.all_cons, Bool.and_eq_true] at n
    exact .cons (a.rd (by simpa using n.1)) (ih n.2)
theorem RD.noref {H : Hp} {M : Addr → Prop} {d : D} {v : V} (h : RD K H M d v) : d.isRef = false := by cases h <;> rfl
theorem RDs.noref {H : Hp} {M : Addr → Prop} : ∀ {ds : List D} {vs : List V}, RDs K H M ds vs → ds.all (fun d => !d.isRef) = true
  | _, _, .nil => rfl
  | _, _, .cons h r => by rw [List.all_cons, h.noref, RDs.noref r]; rfl
theorem RDs.length {H : Hp} {M : Addr → Prop} : ∀ {ds : List D} {vs : List V}, RDs K H M ds vs → ds.length = vs.length
  | _, _, .nil => rfl
  | _, _, .cons _ r => congrArg (· + 1) (RDs.length r)
theorem RDs.get {H : Hp} {M : Addr → Prop} : ∀ {ds : List D} {vs : List V} {i : Nat} {d : D}, RDs K H M ds vs → ds[i]? = some d → ∃ v, vs[i]? = some v ∧ RD K H M d v
  | _, _, _, _, .nil, e => by simp at e
  | _, _, 0, _, .cons h _, e => by simp at e; subst e; exact ⟨_, rfl, h⟩
  | _, _, i + 1, _, .cons _ r, e => by
    obtain ⟨v, h1, h2⟩ := RDs.get (i := i) r (by simpa using e)
    exact ⟨v, by simpa using h1, h2⟩
theorem RDs.append {H : Hp} {M : Addr → Prop} : ∀ {xs ys : List D} {us vs : List V}, RDs K H M xs us → RDs K H M ys vs → RDs K H M (xs ++ ys) (us ++ vs)
  | _, _, _, _, .nil, h => h
  | _, _, _, _, .cons a r, h => .cons a (RDs.append r h)
theorem RDs.take {H : Hp} {M : Addr → Prop} : ∀ {xs : List D} {us : List V} (n : Nat), RDs K H M xs us → RDs K H M (xs.take n) (us.take n)
  | _, _, 0, _ => .nil
  | _, _, _ + 1, .nil => .nil
  | _, _, n + 1, .cons a r => .cons a (RDs.take n r)
theorem RDs.drop {H : Hp} {M : Addr → Prop} : ∀ {xs : List D} {us : List V} (n : Nat), RDs K H M xs us → RDs K H M (xs.drop n) (us.drop n)
  | _, _, 0, h => h
  | _, _, _ + 1, .nil => .nil
  | _, _, n + 1, .cons _ r => RDs.drop n r
theorem RDs.set {H : Hp} {M : Addr → Prop} {x : D} {v : V} (h : RD K H M x v) : ∀ {xs : List D} {us : List V} (n : Nat), RDs K H M xs us → RDs K H M (xs.set n x) (us.set n v)
  | _, _, _, .nil => .nil
  | _, _, 0, .cons _ r => .cons h r
  | _, _, n + 1, .cons a r => .cons a (RDs.set h n r)
theorem RDs.reps : ∀ {ds : List D} {vs : List V}, RDs K s.H s.M ds vs → Reps K s ds vs
  | _, _, .nil => .nil
  | _, _, .cons a r => .cons (.dat a) (RDs.reps r)
theorem RDs.ints {H : Hp} {M : Addr → Prop} : ∀ {ns : List Int} {vs : List V}, RDs K H M (ns.map D.int) vs → vs = ns.map V.int
  | [], _, .nil => rfl
  | n :: ns, _, .cons a r => by
    cases a
    rw [RDs.ints r]
    rfl
theorem RDs.of_ints {H : Hp} {M : Addr → Prop} : ∀ {ns : List Int}, RDs K H M (ns.map D.int) (ns.map V.int)
  | [] => .nil
  | n :: ns => .cons (.int n) RDs.of_ints
theorem RDs.bools {H : Hp} {M : Addr → Prop} : ∀ {ns : List Bool} {vs : List V}, RDs K H M (ns.map D.bl) vs → vs = ns.map V.bl
  | [], _, .nil => rfl
  | n :: ns, _, .cons a r => by
    cases a
    rw [RDs.bools r]
    rfl
theorem RDs.strs {H : Hp} {M : Addr → Prop} : ∀ {ns : List Str} {vs : List V}, RDs K H M (ns.map D.str) vs → vs = ns.map V.str
  | [], _, .nil => rfl
  | n :: ns, _, .cons a r => by
    cases a
    rw [RDs.strs r]
    rfl

/-! ### situations that follow -/
def Sit.put (s : Sit) (p : Addr) (o : HO) : Sit := ⟨s.r, s.st, upd s.H p o⟩
theorem Sit.notM (ok : s.Ok K) {p : Addr} (hp : s.H p = none) : ¬ s.M p := fun m => by
  obtain ⟨u, h, _⟩ := ok.mchg m
  rw [hp] at h
  cases h
theorem Sit.put_le {p : Addr} {o : HO} (hp : s.H p = none) : s.Le (s.put p o) :=
  ⟨fun _ _ h => h, fun a u h n => ⟨by show upd s.H p o a = _; rw [upd_ne (ne_of_none h hp)]; exact h, n⟩, fun a h => by
    show upd s.H p o a ≠ none
    by_cases e : a = p
    · subst e; rw [upd_same]; exact fun z => by cases z
    · rw [upd_ne e]; exact h⟩
theorem Sit.put_ok (ok : s.Ok K) {p : Addr} {o : HO} (hp : s.H p = none) : (s.put p o).Ok K := by
  refine ⟨ok.len, ok.nd, fun a ha => (Sit.put_le hp).stay a (ok.there a ha), fun l c a h1 h2 => ?_⟩
  exact (ok.cell l c a h1 h2).tr (fun u h => by show upd s.H p o a = _; rw [upd_ne (ne_of_none h hp)]; exact h) fun r => r.le ok (Sit.put_le hp)
def Sit.newC (s : Sit) (p : Addr) (c : Cell) (u : HO) : Sit := ⟨s.r ++ [p], s.st ++ [some c], upd s.H p u⟩
abbrev Sit.new (s : Sit) (p : Addr) (xs : List D) (vs : List V) : Sit := s.newC p (.lst xs) (.lst vs)
theorem getE_append {α : Type} {l : List α} {x : α} {i : Nat} {y : α} (h : (l ++ [x])[i]? = some y) : l[i]? = some y ∨ (i = l.length ∧ y = x) := by
  by_cases hi : i < l.length
  · rw [List.getElem?_append_left hi] at h
    exact .inl h
  · rw [List.getElem?_append_right (by omega)] at h
    by_cases e : i - l.length = 0
    · rw [e] at h
      exact .inr ⟨by omega, (Option.some.inj h).symm⟩
    · obtain ⟨k, hk⟩ : ∃ k, i - l.length = k + 1 := ⟨i - l.length - 1, by omega⟩
      rw [hk] at h
      simp at h
theorem getE_left {α : Type} {l t : List α} {i : Nat} {y : α} (h : l[i]? = some y) : (l ++ t)[i]? = some y := by
  rw [List.getElem?_append_left (List.getElem?_eq_some_iff.mp h).1]
  exact h
theorem Sit.newC_M (ok : s.Ok K) {p a : Addr} {c : Cell} {u : HO} (m : (s.newC p c u).M a) : s.M a ∨ a = p := by
  obtain ⟨l, c', h1, hm, h2⟩ := m
  have h1 : (s.st ++ [some c])[l]? = some (some c') := h1
  have h2 : (s.r ++ [p])[l]? = some a := h2
  rcases getE_append h1 with h1 | ⟨e1, _⟩
  · rcases getE_append h2 with h2 | ⟨e2, _⟩
    · exact .inl ⟨l, c', h1, hm, h2⟩
    · have := (List.getElem?_eq_some_iff.mp h1).1
      rw [e2, ok.len] at this
      exact absurd this (Nat.lt_irrefl _)
  · rcases getE_append h2 with h2 | ⟨e2, q⟩
    · have := (List.getElem?_eq_some_iff.mp h2).1
      rw [e1, ok.len] at this
      exact absurd this (Nat.lt_irrefl _)
    · exact .inr q
theorem Sit.newC_le (ok : s.Ok K) {p : Addr} {c : Cell} {u : HO} (hp : s.H p = none) : s.Le (s.newC p c u) := by
  refine ⟨fun _ _ h => getE_left h, fun a u' h n => ⟨?_, fun m => ?_⟩, fun a h => ?_⟩
  · show upd s.H p _ a = _
    rw [upd_ne (ne_of_none h hp)]
    exact h
  · rcases Sit.newC_M ok m with m | rfl
    · exact n m
    · rw [hp] at h
      cases h
  · show upd s.H p _ a ≠ none
    by_cases e : a = p
    · subst e; rw [upd_same]; exact fun z => by cases z
    · rw [upd_ne e]; exact h
theorem Sit.newC_ok (ok : s.Ok K) {p : Addr} {c : Cell} {u : HO} (hp : s.H p = none) (r : CellOk K (s.newC p c u) p c) : (s.newC p c u).Ok K := by
  have le := Sit.newC_le ok (c := c) (u := u) hp
  refine ⟨?_, ?_, fun a ha => ?_, fun l c' a h1 h2 => ?_⟩
  · show (s.r ++ [p]).length = (s.st ++ [_]).length
    rw [List.length_append, List.length_append, ok.len]
    rfl
  · show (s.r ++ [p]).Nodup
    rw [List.nodup_append]
    refine ⟨ok.nd, by simp, fun a ha b hb e => ?_⟩
    have : b = p := by simpa using hb
    subst this
    subst e
    exact ok.there a ha hp
  · have ha : a ∈ s.r ++ [p] := ha
    rcases List.mem_append.mp ha with ha | ha
    · exact le.stay a (ok.there a ha)
    · have : a = p := by simpa using ha
      subst this
      show upd s.H a _ a ≠ none
      rw [upd_same]
      exact fun z => by cases z
  · have h1 : (s.st ++ [some c])[l]? = some (some c') := h1
    have h2 : (s.r ++ [p])[l]? = some a := h2
    rcases getE_append h1 with h1 | ⟨e1, q1⟩
    · have h2 : s.r[l]? = some a := by
        rcases getE_append h2 with h2 | ⟨e2, _⟩
        · exact h2
        · have := (List.getElem?_eq_some_iff.mp h1).1
          rw [e2, ok.len] at this
          exact absurd this (Nat.lt_irrefl _)
      refine (ok.cell l c' a h1 h2).tr (fun w h => ?_) fun r' => r'.le ok le
      show upd s.H p _ a = _
      rw [upd_ne (ne_of_none h hp)]
      exact h
    · have ea : a = p := by
        rcases getE_append h2 with h2 | ⟨e2, q⟩
        · have := (List.getElem?_eq_some_iff.mp h2).1
          rw [e1, ok.len] at this
          exact absurd this (Nat.lt_irrefl _)
        · exact q
      have ec : c' = c := Option.some.inj q1
      subst ec ea
      exact r
theorem Sit.new_le (ok : s.Ok K) {p : Addr} {xs : List D} {vs : List V} (hp : s.H p = none) : s.Le (s.new p xs vs) := Sit.newC_le ok hp
theorem Sit.new_ok (ok : s.Ok K) {p : Addr} {xs : List D} {vs : List V} (hp : s.H p = none) (r : RDs K s.H s.M xs vs) : (s.new p xs vs).Ok K :=
  Sit.newC_ok ok hp ⟨vs, upd_same, r.le ok (Sit.new_le ok hp)⟩
theorem Sit.newC_at (ok : s.Ok K) {p : Addr} {c : Cell} {u : HO} : Rep K (s.newC p c u) (.ref s.st.length) (.ref p) := by
  refine .ref ?_
  show (s.r ++ [p])[s.st.length]? = _
  rw [← ok.len]
  simp
theorem Sit.new_at (ok : s.Ok K) {p : Addr} {xs : List D} {vs : List V} : Rep K (s.new p xs vs) (.ref s.st.length) (.ref p) := Sit.newC_at ok
def Sit.chgC (s : Sit) (l : Nat) (a : Addr) (c : Cell) (u : HO) : Sit := ⟨s.r, s.st.set l (some c), upd s.H a u⟩
abbrev Sit.chg (s : Sit) (l : Nat) (a : Addr) (xs : List D) (vs : List V) : Sit := s.chgC l a (.lst xs) (.lst vs)
theorem nodup_at {l : List Addr} (hN : l.Nodup) {i j : Nat} {x : Addr} (a : l[i]? = some x) (b : l[j]? = some x) : i = j := by
  obtain ⟨h1, e1⟩ := List.getElem?_eq_some_iff.mp a
  obtain ⟨h2, e2⟩ := List.getElem?_eq_some_iff.mp b
  exact (List.getElem_inj hN).mp (e1.trans e2.symm)
theorem Sit.chgC_M {l : Nat} {a b : Addr} {c c' : Cell} {u : HO} (hc : s.st[l]? = some (some c)) (hm : c.mut = true) (ha : s.r[l]? = some a) (m : (s.chgC l a c' u).M b) : s.M b := by
  obtain ⟨m, c2, h1, h3, h2⟩ := m
  by_cases e : m = l
  · subst e
    exact ⟨m, c, hc, hm, h2⟩
  · refine ⟨m, c2, ?_, h3, h2⟩
    have h1 : (s.st.set l (some c'))[m]? = some (some c2) := h1
    rw [List.getElem?_set_ne (Ne.symm e)] at h1
    exact h1
theorem Sit.chgC_le (ok : s.Ok K) {l : Nat} {a : Addr} {c c' : Cell} {u : HO} (hc : s.st[l]? = some (some c)) (hm : c.mut = true) (ha : s.r[l]? = some a) : s.Le (s.chgC l a c' u) := by
  refine ⟨fun _ _ h => h, fun b o h n => ⟨?_, fun m => n (Sit.chgC_M hc hm ha m)⟩, fun b h => ?_⟩
  · show upd s.H a _ b = _
    have : b ≠ a := fun e => n ⟨l, c, hc, hm, by rw [e]; exact ha⟩
    rw [upd_ne this]
    exact h
  · show upd s.H a _ b ≠ none
    by_cases e : b = a
    · subst e; rw [upd_same]; exact fun z => by cases z
    · rw [upd_ne e]; exact h
theorem Sit.chgC_ok (ok : s.Ok K) {l : Nat} {a : Addr} {c c' : Cell} {u : HO} (hc : s.st[l]? = some (some c)) (hm : c.mut = true) (ha : s.r[l]? = some a) (r : CellOk K (s.chgC l a c' u) a c') : (s.chgC l a c' u).Ok K := by
  have le := Sit.chgC_le ok (c' := c') (u := u) hc hm ha
  refine ⟨by show s.r.length = (s.st.set l _).length; rw [List.length_set]; exact ok.len, ok.nd, fun b hb => le.stay b (ok.there b hb), fun m c2 b h1 h2 => ?_⟩
  by_cases e : m = l
  · subst e
    have h1 : (s.st.set m (some c'))[m]? = some (some c2) := h1
    rw [List.getElem?_set_self (List.getElem?_eq_some_iff.mp hc).1] at h1
    have e1 : c2 = c' := (Option.some.inj (Option.some.inj h1)).symm
    have e2 : b = a := Option.some.inj ((show s.r[m]? = some b from h2).symm.trans ha)
    subst e1 e2
    exact r
  · have h1 : (s.st.set l (some c'))[m]? = some (some c2) := h1
    rw [List.getElem?_set_ne (Ne.symm e)] at h1
    have h2 : s.r[m]? = some b := h2
    have ne : b ≠ a := fun z => e (nodup_at ok.nd h2 (by rw [z]; exact ha))
    refine (ok.cell m c2 b h1 h2).tr (fun w h => ?_) fun r' => r'.le ok le
    show upd s.H a _ b = _
    rw [upd_ne ne]
    exact h
theorem Sit.chg_le (ok : s.Ok K) {l : Nat} {a : Addr} {c : List D} {xs : List D} {vs : List V} (hc : s.st[l]? = some (some (.lst c))) (ha : s.r[l]? = some a) : s.Le (s.chg l a xs vs) := Sit.chgC_le ok hc rfl ha
theorem Sit.chg_ok (ok : s.Ok K) {l : Nat} {a : Addr} {c : List D} {xs : List D} {vs : List V} (hc : s.st[l]? = some (some (.lst c))) (ha : s.r[l]? = some a) (r : RDs K s.H s.M xs vs) : (s.chg l a xs vs).Ok K :=
  Sit.chgC_ok ok hc rfl ha ⟨vs, upd_same, r.le ok (Sit.chg_le ok hc ha)⟩
def Sit.kill (s : Sit) (l : Nat) (xs : List D) : Sit := ⟨s.r, s.st.set l (some (.fz xs)), s.H⟩
theorem kill_at {st : Store} {l m : Nat} {xs : List D} {c : Cell} (h1 : (st.set l (some (.fz xs)))[m]? = some (some c)) (hm : c.mut = true) : m ≠ l ∧ st[m]? = some (some c) := by
  by_cases e : m = l
  · subst e
    by_cases hl : m < st.length
    · rw [List.getElem?_set_self hl] at h1
      cases h1
      cases hm
    · rw [List.getElem?_eq_none (by simpa using hl)] at h1
      cases h1
  · rw [List.getElem?_set_ne (Ne.symm e)] at h1
    exact ⟨e, h1⟩
theorem Sit.kill_M {l : Nat} {xs : List D} {b : Addr} (m : (s.kill l xs).M b) : s.M b := by
  obtain ⟨m, c, h1, hm, h2⟩ := m
  exact ⟨m, c, (kill_at h1 hm).2, hm, h2⟩
theorem Sit.kill_no (ok : s.Ok K) {l : Nat} {xs : List D} {a : Addr} (ha : s.r[l]? = some a) : ¬ (s.kill l xs).M a := by
  rintro ⟨m, c, h1, hm, h2⟩
  exact (kill_at h1 hm).1 (nodup_at ok.nd h2 ha)
theorem Sit.kill_le {l : Nat} {xs : List D} : s.Le (s.kill l xs) := ⟨fun _ _ h => h, fun _ _ h n => ⟨h, fun m => n (Sit.kill_M m)⟩, fun _ h => h⟩
theorem Sit.kill_ok (ok : s.Ok K) {l : Nat} {xs : List D} (hc : s.st[l]? = some (some (.lst xs))) : (s.kill l xs).Ok K := by
  refine ⟨by show s.r.length = (s.st.set l _).length; rw [List.length_set]; exact ok.len, ok.nd, ok.there, fun m c b h1 h2 => ?_⟩
  have h1 : (s.st.set l (some (.fz xs)))[m]? = some (some c) := h1
  by_cases e : m = l
  · subst e
    rw [List.getElem?_set_self (List.getElem?_eq_some_iff.mp hc).1] at h1
    have ec : c = .fz xs := (Option.some.inj (Option.some.inj h1)).symm
    subst ec
    obtain ⟨us, h, r'⟩ := ok.cell m _ b hc h2
    exact ⟨us, h, r'.le ok Sit.kill_le⟩
  · rw [List.getElem?_set_ne (Ne.symm e)] at h1
    exact (ok.cell m c b h1 h2).tr (fun _ h => h) fun r' => r'.le ok Sit.kill_le
def Sit.cut (s : Sit) (n : Nat) : Sit := ⟨s.r.take n, s.st.take n, s.H⟩
theorem getE_take {α : Type} {l : List α} {n i : Nat} {y : α} (h : (l.take n)[i]? = some y) : l[i]? = some y ∧ i < n := by
  rw [List.getElem?_take] at h
  split at h
  · exact ⟨h, by assumption⟩
  · cases h
theorem Sit.cut_M {n : Nat} {b : Addr} (m : (s.cut n).M b) : s.M b := by
  obtain ⟨l, c, h1, hm, h2⟩ := m
  exact ⟨l, c, (getE_take h1).1, hm, (getE_take h2).1⟩
theorem RD_weaken {H : Hp} {M M' : Addr → Prop} (hm : ∀ a, M' a → M a) : (∀ {d : D} {v : V}, RD K H M d v → RD K H M' d v) ∧ (∀ {ds : List D} {vs : List V}, RDs K H M ds vs → RDs K H M' ds vs) := by
  constructor
  · intro d v h
    induction h using RD.rec (motive_2 := fun ds vs _ => RDs K H M' ds vs) with
    | non => exact .non
    | bl b => exact .bl b
    | int i => exact .int i
    | str x => exact .str x
    | tup h _ ih => exact .tup h ih
    | lst h n _ ih => exact .lst h (fun m => n (hm _ m)) ih
    | scr h => exact .scr h
    | dct h n => exact .dct h fun m => n (hm _ m)
    | dcT h n l _ ih => exact .dcT h (fun m => n (hm _ m)) l ih
    | exn h n k f g => exact .exn h (fun m => n (hm _ m)) k (fun d hd => let ⟨m, r⟩ := f d hd; ⟨fun q => m (hm _ q), r⟩) g
    | nil => exact .nil
    | cons _ _ a b => exact .cons a b
  · intro ds vs h
    induction h using RDs.rec (motive_1 := fun d v _ => RD K H M' d v) with
    | non => exact .non
    | bl b => exact .bl b
    | int i => exact .int i
    | str x => exact .str x
    | tup h _ ih => exact .tup h ih
    | lst h n _ ih => exact .lst h (fun m => n (hm _ m)) ih
    | scr h => exact .scr h
    | dct h n => exact .dct h fun m => n (hm _ m)
    | dcT h n l _ ih => exact .dcT h (fun m => n (hm _ m)) l ih
    | exn h n k f g => exact .exn h (fun m => n (hm _ m)) k (fun d hd => let ⟨m, r⟩ := f d hd; ⟨fun q => m (hm _ q), r⟩) g
    | nil => exact .nil
    | cons _ _ a b => exact .cons a b
theorem Sit.cut_ok (ok : s.Ok K) (n : Nat) : (s.cut n).Ok K := by
  refine ⟨by show (s.r.take n).length = (s.st.take n).length; rw [List.length_take, List.length_take, ok.len], ?_, fun a ha => ok.there a (List.mem_of_mem_take ha), fun l c a h1 h2 => ?_⟩
  · exact (List.take_sublist n s.r).nodup ok.nd
  · exact (ok.cell l c a (getE_take h1).1 (getE_take h2).1).tr (fun _ h => h) fun r' => (RD_weaken fun _ m => Sit.cut_M m).2 r'
theorem Sit.cut_rd {n : Nat} {d : D} {v : V} (h : RD K s.H s.M d v) : RD K (s.cut n).H (s.cut n).M d v := (RD_weaken fun _ m => Sit.cut_M m).1 h
theorem Sit.cut_rds {n : Nat} {d : List D} {v : List V} (h : RDs K s.H s.M d v) : RDs K (s.cut n).H (s.cut n).M d v := (RD_weaken fun _ m => Sit.cut_M m).2 h
theorem Sit.cut_le (ok : s.Ok K) (ok' : s'.Ok K) (e : s.Le s') : s.Le (s'.cut s.st.length) := by
  refine ⟨fun l a h => ?_, fun a o h n => ⟨(e.keep a o h n).1, fun m => (e.keep a o h n).2 (Sit.cut_M m)⟩, fun a h => e.stay a h⟩
  show (s'.r.take s.st.length)[l]? = some a
  have hl : l < s.st.length := by rw [← ok.len]; exact (List.getElem?_eq_some_iff.mp h).1
  rw [List.getElem?_take_of_lt hl]
  exact e.pre l a h
end
end Zn

set_option maxHeartbeats 4000000
/-! Zn, part V: a tuple times 0, 1. -/
namespace Zn
open PySem PySem.Spec PyProof.Rows L2
theorem tuple_mul1 (l : Addr) (items : Array Value) (n : Nat) (dd : Option Addr) (sl : Array (Option Value)) (u : Tok) :
    Meets (Builtin.«tuple.__mul__» ⟨[.ref l, .int 1 u], []⟩) (fun _ R s => s.heap.get? l = some { cls := .type "tuple", dict := dd, data := .seq items n, slots := sl } ∧
      R (.ok (.ret (Value.ref l))) s) :=
  .of_wp fun prog w A R s h => by
    obtain ⟨hp, g, d, tk, os⟩ := s
    obtain ⟨hl, h⟩ := h
    have f1 := AutoSeq1.idx_int
    have c1 : (items.isEmpty || (1 : Int) == 1) = true := by simp
    wp_walk using wpAny_loadPart' hl
    exact ⟨_, rfl, h⟩
theorem tuple_mul0 (l : Addr) (items : Array Value) (n : Nat) (dd : Option Addr) (sl : Array (Option Value)) (u : Tok) (hi : items.isEmpty = false) :
    Meets (Builtin.«tuple.__mul__» ⟨[.ref l, .int 0 u], []⟩) (fun _ R s => s.heap.get? l = some { cls := .type "tuple", dict := dd, data := .seq items n, slots := sl } ∧
      R (.ok (.ret (Value.ref s.heap.objs.size))) { s with heap := s.heap.push { cls := Value.type "tuple", data := Data.seq #[] }, toks := s.toks }) :=
  .of_wp fun prog w A R s h => by
    obtain ⟨hp, g, d, tk, os⟩ := s
    obtain ⟨hl, h⟩ := h
    have f1 := AutoSeq1.idx_int
    have c1 : (items.isEmpty || (0 : Int) == 1) = false := by rw [hi]; rfl
    wp_walk using wpAny_loadPart' hl
    exact ⟨_, rfl, h⟩
def rRepS (K : PySem.W.Frag) : R2 := fun x y H Q => ∃ l k xs, x = .ref l ∧ y = .int k ∧ SqT K H l xs ∧ xs ≠ [] ∧ ((k = 1 ∧ Q (.ref l) H) ∨ (k = 0 ∧ ∀ p, H p = none → Q (.ref p) (upd H p (.tup []))))
section
variable {X : Cx}
theorem op_repS : OpR X (binaryOp .Mult) (rRepS X.K) := by
  intro pins s σ H x y v u Q I rx ry h
  obtain ⟨l, k, xs, rfl, rfl, hT, hne, h⟩ := h
  cases rx
  obtain ⟨t, rfl⟩ := ry
  obtain ⟨its, r, ⟨⟨cls, dd, data, sl⟩, ho, hc, n, hd⟩, hs⟩ := I.tuple hT
  simp only at hc hd
  subst hc hd
  have hle : its.length = xs.length := r.length.symm
  have hn : its ≠ [] := fun e => hne (by
    rw [e] at hle
    exact List.eq_nil_of_length_eq_zero hle.symm)
  have hi : its.toArray.isEmpty = false := by
    cases its with
    | nil => exact absurd rfl hn
    | cons a b => rfl
  rcases h with ⟨rfl, q⟩ | ⟨rfl, q⟩
  · refine wpAny_binaryOp_repeat_ref (T := "tuple") (U := "int") (by decide) ⟨_, ho, rfl⟩ (fun s' => typeIs_int s' 1 t) noFill_tuple_mul F.fills_int_mul F.slot_int_rmul repeat_tuple F.slot_int_index.lookup
      (call_meets F.slot_int_rmul (typeIs_int s 1 t) F.entry_int_rmul (F.args_int_rmul_2 _ _) (int_rmul_tuple 1 t l its.toArray n dd sl)
        ⟨ho, rfl, ⟨_, ho, rfl⟩, call_meets F.slot_tuple_mul ⟨_, ho, rfl⟩ F.entry_tuple_mul (F.args_tuple_mul_2 _ _) (tuple_mul1 l its.toArray n dd sl t) ⟨ho, ?_⟩⟩)
    exact ⟨.ref l, H, I, rfl, q⟩
  · refine wpAny_binaryOp_repeat_ref (T := "tuple") (U := "int") (by decide) ⟨_, ho, rfl⟩ (fun s' => typeIs_int s' 0 t) noFill_tuple_mul F.fills_int_mul F.slot_int_rmul repeat_tuple F.slot_int_index.lookup
      (call_meets F.slot_int_rmul (typeIs_int s 0 t) F.entry_int_rmul (F.args_int_rmul_2 _ _) (int_rmul_tuple 0 t l its.toArray n dd sl)
        ⟨ho, rfl, ⟨_, ho, rfl⟩, call_meets F.slot_tuple_mul ⟨_, ho, rfl⟩ F.entry_tuple_mul (F.args_tuple_mul_2 _ _) (tuple_mul0 l its.toArray n dd sl t hi) ⟨ho, ?_⟩⟩)
    refine ⟨.ref s.heap.objs.size, _, I.laid (t' := s.toks) (o := .tup []) (fun b ob q => Heap.get?_push_of_some _ q) (Nat.le_refl _) ?_, rfl, q _ (I.hok.fresh (Nat.le_refl _))⟩
    exact ⟨by simp, _, .nil, IsTup.new _ _⟩
end
end Zn

/-! Zn, part Q: the order of tuples, the other ways round. -/
namespace Zn
open PySem PySem.Spec PyProof.Rows L2
theorem firstLt_map {e r : Nat → Bool} {fin : Bool} (f : Nat → Nat) : ∀ l : List Nat, SeqAt.firstLt e r fin (l.map f) = SeqAt.firstLt (fun j => e (f j)) (fun j => r (f j)) fin l
  | [] => rfl
  | j :: t => by
    have ih := firstLt_map (e := e) (r := r) (fin := fin) f t
    show (if e (f j) = true then SeqAt.firstLt e r fin (t.map f) else r (f j)) = _
    rw [ih]
    rfl
theorem first_lex : ∀ (ns ms : List Int), SeqAt.firstLt (fun j => decide (ns.getD j 0 = ms.getD j 0)) (fun j => decide (ns.getD j 0 < ms.getD j 0)) (decide (ns.length < ms.length)) (List.range (min ns.length ms.length)) = HT.lexLt ns ms
  | [], [] => rfl
  | [], _ :: _ => by simp [SeqAt.firstLt, HT.lexLt]
  | _ :: _, [] => by simp [SeqAt.firstLt, HT.lexLt]
  | x :: xs, y :: ys => by
    have ih := first_lex xs ys
    rw [HT.lexLt_cons, ← ih, List.length_cons, List.length_cons, Nat.succ_min_succ, List.range_succ_eq_map]
    show (if decide (x = y) = true then SeqAt.firstLt _ _ _ ((List.range (min xs.length ys.length)).map Nat.succ) else decide (x < y)) = _
    rw [firstLt_map]
    by_cases c : x = y
    · simp only [c, decide_true, if_true]
      simp only [Nat.succ_lt_succ_iff]
      rfl
    · simp only [c, decide_false, if_false, Bool.false_eq_true]
def rGtT (K : PySem.W.Frag) : R2 := fun x y H Q => ∃ a b ns ms, x = .ref a ∧ y = .ref b ∧ SqT K H a (ns.map V.int) ∧ SqT K H b (ms.map V.int) ∧ Q (.bl (HT.lexLt ms ns)) H
def rGeT (K : PySem.W.Frag) : R2 := fun x y H Q => ∃ a b ns ms, x = .ref a ∧ y = .ref b ∧ SqT K H a (ns.map V.int) ∧ SqT K H b (ms.map V.int) ∧ Q (.bl (!HT.lexLt ns ms)) H
def rLeT' (K : PySem.W.Frag) : R2 := fun x y H Q => ∃ a b ns ms, x = .ref a ∧ y = .ref b ∧ SqT K H a (ns.map V.int) ∧ SqT K H b (ms.map V.int) ∧ Q (.bl (!HT.lexLt ms ns)) H
section
variable {X : Cx}
theorem two_tups {K : PySem.W.Frag} {ns ms : List Int} {its its2 : List Value} (i1 : IntsAre its ns) (i2 : IntsAre its2 ms) :
    its.toArray.size = ns.length ∧ its2.toArray.size = ms.length ∧ (∀ j (h1 : j < its.toArray.size), ∃ t, its.toArray[j] = .int (ns.getD j 0) t) ∧ (∀ j (h1 : j < its2.toArray.size), ∃ t, its2.toArray[j] = .int (ms.getD j 0) t) :=
  ⟨by rw [List.size_toArray]; exact i1.length, by rw [List.size_toArray]; exact i2.length,
    fun j h1 => PyProof.Rows.IntsAre.int_at i1 _ _ (by simp at h1; simp [h1]), fun j h1 => PyProof.Rows.IntsAre.int_at i2 _ _ (by simp at h1; simp [h1])⟩
theorem eqAt_ints {A : Around} {s : Shared} {a b : Int} {t t' : Tok} : SeqAt.EqAt A s (.int a t) (.int b t') (decide (a = b)) := by
  have z : (a == b) = decide (a = b) := by
    by_cases q : a = b
    · rw [decide_eq_true q]; exact beq_iff_eq.mpr q
    · rw [decide_eq_false q]; exact beq_eq_false_iff_ne.mpr q
  rw [← z]
  exact SeqAt.EqAt.int_int _ _ _ _
theorem firstLt_congr {e r r' : Nat → Bool} {fin : Bool} : ∀ l : List Nat, (∀ j ∈ l, e j = false → r j = r' j) → SeqAt.firstLt e r fin l = SeqAt.firstLt e r' fin l
  | [], _ => rfl
  | j :: t, h => by
    have ih := firstLt_congr (e := e) (r := r) (r' := r') (fin := fin) t fun k hk => h k (by simp [hk])
    show (if e j = true then _ else r j) = (if e j = true then _ else r' j)
    cases c : e j with
    | true => exact ih
    | false => exact h j (by simp) c
theorem first_gt (ns ms : List Int) : SeqAt.firstLt (fun j => decide (ns.getD j 0 = ms.getD j 0)) (fun j => decide (ms.getD j 0 < ns.getD j 0)) (decide (ns.length > ms.length)) (List.range (min ns.length ms.length)) = HT.lexLt ms ns := by
  rw [← first_lex ms ns, Nat.min_comm]
  congr 1
  funext j
  simp only [eq_comm]
theorem first_ge (ns ms : List Int) : SeqAt.firstLt (fun j => decide (ns.getD j 0 = ms.getD j 0)) (fun j => decide (ms.getD j 0 ≤ ns.getD j 0)) (decide (ns.length ≥ ms.length)) (List.range (min ns.length ms.length)) = !HT.lexLt ns ms := by
  rw [← first_lex ns ms, ← SeqAt.firstLt_not]
  have : (!decide (ns.length < ms.length)) = decide (ns.length ≥ ms.length) := by
    by_cases c : ns.length < ms.length <;> simp [c] <;> omega
  rw [this]
  refine firstLt_congr _ fun j _ _ => ?_
  by_cases c : ns.getD j 0 < ms.getD j 0 <;> simp only [c, decide_true, decide_false, Bool.not_true, Bool.not_false, decide_eq_true_eq, decide_eq_false_iff_not] <;> omega
theorem first_le (ns ms : List Int) : SeqAt.firstLt (fun j => decide (ns.getD j 0 = ms.getD j 0)) (fun j => decide (ns.getD j 0 ≤ ms.getD j 0)) (decide (ns.length ≤ ms.length)) (List.range (min ns.length ms.length)) = !HT.lexLt ms ns := by
  rw [← first_ge ms ns, Nat.min_comm]
  congr 1
  funext j
  simp only [eq_comm]
theorem op_gtT (hu : X.A.units < cLine) : OpR X (compareOp .Gt) (rGtT X.K) := by
  intro pins s σ H x y v u Q I rx ry h
  obtain ⟨a, b, ns, ms, rfl, rfl, ha, hb, q⟩ := h
  cases rx
  cases ry
  obtain ⟨its, r1, p1, _⟩ := I.tuple ha
  obtain ⟨its2, r2, p2, _⟩ := I.tuple hb
  obtain ⟨e1, e2, at1, at2⟩ := two_tups (K := X.K) (Vals.ints r1) (Vals.ints r2)
  have R := SeqAt.RcOp.tuples_gt (A := X.A) (s := s) (e := fun j => decide (ns.getD j 0 = ms.getD j 0)) (r := fun j => decide (ms.getD j 0 < ns.getD j 0)) p1 p2 hu (fun j h1 h2 => by
    obtain ⟨t, et⟩ := at1 j h1
    obtain ⟨t', et'⟩ := at2 j h2
    rw [et, et']
    exact eqAt_ints) (fun j h1 h2 _ => by
    obtain ⟨t, et⟩ := at1 j h1
    obtain ⟨t', et'⟩ := at2 j h2
    rw [et, et']
    exact fun _ _ _ _ h => PyProof.Rows.gt_int h)
  rw [e1, e2, first_gt] at R
  exact R X.prog X.w X.xe (EP X pins σ Q) ⟨.bl _, H, I, rfl, q⟩
theorem op_geT (hu : X.A.units < cLine) : OpR X (compareOp .GtE) (rGeT X.K) := by
  intro pins s σ H x y v u Q I rx ry h
  obtain ⟨a, b, ns, ms, rfl, rfl, ha, hb, q⟩ := h
  cases rx
  cases ry
  obtain ⟨its, r1, p1, _⟩ := I.tuple ha
  obtain ⟨its2, r2, p2, _⟩ := I.tuple hb
  obtain ⟨e1, e2, at1, at2⟩ := two_tups (K := X.K) (Vals.ints r1) (Vals.ints r2)
  have R := SeqAt.RcOp.tuples_ge (A := X.A) (s := s) (e := fun j => decide (ns.getD j 0 = ms.getD j 0)) (r := fun j => decide (ms.getD j 0 ≤ ns.getD j 0)) p1 p2 hu (fun j h1 h2 => by
    obtain ⟨t, et⟩ := at1 j h1
    obtain ⟨t', et'⟩ := at2 j h2
    rw [et, et']
    exact eqAt_ints) (fun j h1 h2 _ => by
    obtain ⟨t, et⟩ := at1 j h1
    obtain ⟨t', et'⟩ := at2 j h2
    rw [et, et']
    exact fun _ _ _ _ h => PyProof.Rows.ge_int h)
  rw [e1, e2, first_ge] at R
  exact R X.prog X.w X.xe (EP X pins σ Q) ⟨.bl _, H, I, rfl, q⟩
theorem op_leT' (hu : X.A.units < cLine) : OpR X (compareOp .LtE) (rLeT' X.K) := by
  intro pins s σ H x y v u Q I rx ry h
  obtain ⟨a, b, ns, ms, rfl, rfl, ha, hb, q⟩ := h
  cases rx
  cases ry
  obtain ⟨its, r1, p1, _⟩ := I.tuple ha
  obtain ⟨its2, r2, p2, _⟩ := I.tuple hb
  obtain ⟨e1, e2, at1, at2⟩ := two_tups (K := X.K) (Vals.ints r1) (Vals.ints r2)
  have R := SeqAt.RcOp.tuples_le (A := X.A) (s := s) (e := fun j => decide (ns.getD j 0 = ms.getD j 0)) (r := fun j => decide (ns.getD j 0 ≤ ms.getD j 0)) p1 p2 hu (fun j h1 h2 => by
    obtain ⟨t, et⟩ := at1 j h1
    obtain ⟨t', et'⟩ := at2 j h2
    rw [et, et']
    exact eqAt_ints) (fun j h1 h2 _ => by
    obtain ⟨t, et⟩ := at1 j h1
    obtain ⟨t', et'⟩ := at2 j h2
    rw [et, et']
    exact fun _ _ _ _ h => PyProof.Rows.le_int h)
  rw [e1, e2, first_le] at R
  exact R X.prog X.w X.xe (EP X pins σ Q) ⟨.bl _, H, I, rfl, q⟩
end
end Zn

/-! Zn, part R: a tuple turned about. -/
namespace Zn
open PySem PySem.Spec PyProof.Rows L2 HT
section
variable {prog : Program} {w : World} {A : Around} {E : Value → Shared → Prop} {s : Shared}
theorem places_rev (n : Nat) : Builtin.Slice.slicePlaces ((n : Int) - 1) (-1) (-1) = n := by
  unfold Builtin.Slice.slicePlaces
  have h1 : ¬ ((-1 : Int) > 0) := by omega
  simp only [h1, if_false, show (- -1 : Int) = 1 by decide, Int.ediv_one]
  split <;> omega
theorem sliceApplied_rev {sl : Addr} {vk : Value} {n : Nat} {Q : Int × Int × Nat → Shared → Prop} (hs : s.heap.IsSliceOf sl .none .none vk) (pk : IsPart vk (some (-1)))
    (h : Q ((n : Int) - 1, -1, n) s) : wpAny (model prog w) A (Builtin.Slice.sliceApplied (.ref sl) (pure (n : Int))) Q E s := by
  obtain ⟨os, hos, hcs, hds⟩ := id hs
  unfold Builtin.Slice.sliceApplied Builtin.Slice.sliceFields
  refine wpAny_bind (wpAny_bind (wpAny_field hos hds (x := .none) rfl (wpAny_bind (wpAny_field hos hds (x := .none) rfl (wpAny_bind (wpAny_field hos hds (x := vk) rfl (wpAny_pure ?_)))))))
  refine wpAny_bind (slicePart_ pk ?_)
  show wpAny _ _ (if ((-1 : Int) == 0) = true then _ else _) _ _ s
  rw [if_neg (by decide)]
  refine wpAny_bind (slicePart_none (wpAny_bind (slicePart_none (wpAny_bind (wpAny_pure ?_)))))
  show wpAny _ _ (pure ((n : Int) - 1, (-1 : Int), Builtin.Slice.slicePlaces ((n : Int) - 1) (-1) (-1))) _ _ s
  rw [places_rev]
  exact wpAny_pure h
theorem filterMap_same {α β : Type} {f g : α → Option β} : ∀ l : List α, (∀ x ∈ l, f x = g x) → l.filterMap f = l.filterMap g
  | [], _ => rfl
  | a :: l, h => by rw [List.filterMap_cons, List.filterMap_cons, h a (by simp), filterMap_same l fun x hx => h x (by simp [hx])]
theorem pick_rev (xs : Array Value) : ((List.range xs.size).filterMap fun (m : Nat) => xs[((xs.size : Int) - 1 + (m : Int) * -1).toNat]?).toArray = xs.toList.reverse.toArray := by
  have e : (List.range xs.size).filterMap (fun (m : Nat) => xs[((xs.size : Int) - 1 + (m : Int) * -1).toNat]?) = ((List.range xs.size).map fun k => xs.size - 1 - k).filterMap (xs[·]?) := by
    rw [List.filterMap_map]
    refine filterMap_same _ fun m hm => ?_
    have := List.mem_range.mp hm
    have e : ((xs.size : Int) - 1 + (m : Int) * -1).toNat = xs.size - 1 - m := by omega
    rw [e]
    rfl
  rw [e, PySem.W.krv_range, List.filterMap_reverse, PySem.W.krv_all]
theorem getItem_tuple_rev {t sl : Addr} {items : Array Value} {vk : Value} {Q : Value → Shared → Prop} (ht : IsTup s.heap t items) (hs : s.heap.IsSliceOf sl .none .none vk) (pk : IsPart vk (some (-1)))
    (h : Q (.ref s.heap.objs.size) { s with heap := s.heap.push { cls := .type "tuple", data := .seq items.toList.reverse.toArray } })
    (hsz : items.size ≤ sizeLine) : wpAny (model prog w) A (getItem (.ref t) (.ref sl)) Q E s := by
  have htake : sizeOk (.seq items.toList.reverse.toArray) := by
    show items.toList.reverse.toArray.size ≤ sizeLine
    rw [List.size_toArray, List.length_reverse, Array.length_toList]
    exact hsz
  obtain ⟨os, hos, hcs, hds⟩ := id hs
  have hTs : s.TypeIs (.ref sl) "slice" := ⟨os, hos, hcs⟩
  unfold getItem
  try with_reducible refine wpAny_holding ?_
  first | refine wpAny_bind (wpAny_pure ?_) | skip
  refine wpAny_bind (wpAny_sequenceKey ht.typeIs (by decide) ?_)
  refine wpAny_bind (wpAny_callSpecial?_slot (name := Str.ofString "__getitem__") ht.typeIs PyProof.Rows.slot_tuple_getitem
    (wpAny_call_entry PyProof.Rows.slot_tuple_getitem ht.typeIs entry_tuple_getitem ?_ (args_tuple_getitem _ _)))
  show wpAny _ _ (Builtin.Tuple.tupleItemsOf (.ref t) >>= _) _ _ s
  refine wpAny_bind (tupleItemsOf_ ht ?_)
  refine wpAny_bind (wpAny_typeOf hTs ?_)
  rw [if_pos (by decide)]
  refine wpAny_bind (sliceApplied_rev hs pk ?_)
  have hno : ¬ (((items.size : Int) - 1 == 0 && (-1 : Int) == 1 && items.size == items.size) = true) := by
    intro q
    rw [Bool.and_eq_true, Bool.and_eq_true] at q
    exact absurd q.1.2 (by decide)
  show wpAny _ _ (if ((items.size : Int) - 1 == 0 && (-1 : Int) == 1 && items.size == items.size) = true then _ else _) _ _ s
  rw [if_neg hno, pick_rev]
  first
    | exact wpAny_bind (m := Builtin.Tuple.tupleExact _) (wpAny_newObj_type (wpAny_pure ⟨_, rfl, wpAny_pure h⟩) htake)
    | exact wpAny_bind (m := Builtin.Tuple.tupleExact _) (wpAny_newObj_type (wpAny_bind (wpAny_pure (wpAny_pure ⟨_, rfl, wpAny_pure h⟩))) htake)
    | exact wpAny_bind (wpAny_bind (m := Builtin.Tuple.tupleExact _) (wpAny_newObj_type (wpAny_pure (wpAny_pure ⟨_, rfl, wpAny_pure h⟩)) htake))
    | exact wpAny_bind (wpAny_bind (m := Builtin.Tuple.tupleExact _) (wpAny_newObj_type (wpAny_pure ⟨_, rfl, wpAny_pure h⟩) htake))
end
end Zn

/-! Zn, part 2: the tree of a text, and what it comes to. -/
namespace Zn
open PySem PySem.Spec PyProof.Rows L2

abbrev Env := List (Option D)
structure Exn where
  cls : Nat
  arg : Option D
inductive Res (α : Type) where
  | ok (a : α) (st : Store)
  | exc (x : Exn) (st : Store)
  | err
def Res.bind {α β : Type} (r : Res α) (k : α → Store → Res β) : Res β :=
  match r with
  | .ok a st => k a st
  | .exc x st => .exc x st
  | .err => .err
@[simp] theorem bind_ok {α β : Type} {a : α} {st : Store} {k : α → Store → Res β} : (Res.ok a st).bind k = k a st := rfl
@[simp] theorem bind_exc {α β : Type} {x : Exn} {st : Store} {k : α → Store → Res β} : (Res.exc x st).bind k = .exc x st := rfl
@[simp] theorem bind_err {α β : Type} {k : α → Store → Res β} : (Res.err : Res α).bind k = .err := rfl

inductive SRes where
  | nx (env : Env) (st : Store)
  | rt (d : D) (st : Store)
  | bk (env : Env) (st : Store)
  | ct (env : Env) (st : Store)
  | exc (x : Exn) (env : Env) (st : Store)
  | err
def Res.thenS {α : Type} (r : Res α) (env : Env) (k : α → Store → SRes) : SRes :=
  match r with
  | .ok a st => k a st
  | .exc x st => .exc x env st
  | .err => .err
@[simp] theorem thenS_ok {α : Type} {a : α} {st : Store} {env : Env} {k : α → Store → SRes} : (Res.ok a st).thenS env k = k a st := rfl
@[simp] theorem thenS_exc {α : Type} {x : Exn} {st : Store} {env : Env} {k : α → Store → SRes} : (Res.exc x st : Res α).thenS env k = .exc x env st := rfl
@[simp] theorem thenS_err {α : Type} {env : Env} {k : α → Store → SRes} : (Res.err : Res α).thenS env k = .err := rfl
def SRes.andThen (r : SRes) (k : Env → Store → SRes) : SRes :=
  match r with
  | .nx env st => k env st
  | r => r
@[simp] theorem andThen_nx {env : Env} {st : Store} {k : Env → Store → SRes} : (SRes.nx env st).andThen k = k env st := rfl
@[simp] theorem andThen_rt {d : D} {st : Store} {k : Env → Store → SRes} : (SRes.rt d st).andThen k = .rt d st := rfl
@[simp] theorem andThen_bk {env : Env} {st : Store} {k : Env → Store → SRes} : (SRes.bk env st).andThen k = .bk env st := rfl
@[simp] theorem andThen_ct {env : Env} {st : Store} {k : Env → Store → SRes} : (SRes.ct env st).andThen k = .ct env st := rfl
@[simp] theorem andThen_exc {x : Exn} {env : Env} {st : Store} {k : Env → Store → SRes} : (SRes.exc x env st).andThen k = .exc x env st := rfl
@[simp] theorem andThen_err {k : Env → Store → SRes} : SRes.err.andThen k = .err := rfl

inductive Blt where
  | len | sum | all | tuple | list | int | min | max | sorted | str
  deriving DecidableEq
inductive Mth where
  | append | extend | pop | popAt | reverse | clear | insert | count | index
  deriving DecidableEq

inductive T where
  | var (i : Nat) | con (d : D) | gi (f : Nat) (i : Int)
  | bin (m : Bool) (op : Operator) (a b : T) | neg (a : T)
  | cmp (op : CmpOp) (a b : T) | cmp2 (op op' : CmpOp) (a b c : T)
  | bop (o : BoolOp) (es : T) | nt (a : T) | ite (c a b : T)
  | tup (es : T) | lst (m : Bool) (es : T) | dct1 (k v : T)
  | sub (a i : T) | slc (m : Bool) (a lo hi : T)
  | call (f : Nat) (m : Bool) (es : T) | blt (b : Blt) (m : Bool) (es : T)
  | isi (a : T) (ty : String)
  | comp (m : Bool) (src tg : T) (own : List (Str × Nat)) (cond elt : T)
  | frz (a : T)
  | mth (k : Mth) (o es : T)
  | nil | cons (e es : T)
  | no | so (e : T)
  | tnm (i : Nat) | ttp (ts : T) | tix (a i : T)
  | sit (e : T) | srng (k : Nat) (es : T) | senum (e : T) | srev (e : T) | szip (a b : T)
  | rev (m : Bool) (a : T) | isx (cs : List Nat) | sraise (c : Nat) | stry (b : T) (c i : Nat) (h : T)
  | isxv (a : T) (cs : List Nat) | fldn (a : T) | hfld | sraiseN (c : Nat) (e : T) | stryv (b : T) (c i j : Nat)
  | lrng (m : Bool) (a : T) | isi2 (a : T) (ty ty' : String) | spar (i j : Nat) (a b : T) | saug (a i e : T)
  | suq (m : Bool) (a : T) | mmd (g : Bool) (a : T) | cmp4 (op op' op'' : CmpOp) (a b c d : T)
  | fld (c k : Nat) (a : T) | meth (c f : Nat) (m : Bool) (o es : T) | mkI (c : Nat) (a : T) | lrs (es : T) | smth (k : Nat) (m : Bool) (o e : T) | gsv (f : Nat) (s : Str)
  | dnew | dct0 | dget (o k z : T) | dgt1 (o k : T) | dof (a : T) | ditems (m : Bool) (a : T)
  | sset (tg e : T) | sexp (e : T) | sret (e : T) | sretn | sif (c a b : T) | swhile (c b : T) | sfor (src tg b : T) | sbrk | scnt | spass | sdead

/-! ### what the operators come to -/
def lstOf (st : Store) : D → Option (List D)
  | .lst xs => some xs
  | .ref l => match st[l]? with
    | some (some c) => c.xs
    | _ => none
  | _ => none
def mk (m : Bool) (xs : List D) (st : Store) : Res D := if m = true then .ok (.ref st.length) (st ++ [some (.lst xs)]) else .ok (.lst xs) st
@[simp] theorem mk_false (xs : List D) (st : Store) : mk false xs st = .ok (.lst xs) st := rfl
@[simp] theorem mk_true (xs : List D) (st : Store) : mk true xs st = .ok (.ref st.length) (st ++ [some (.lst xs)]) := rfl

def addF (m : Bool) (x y : D) (st : Store) : Res D :=
  match x, y with
  | .int i, .int j => .ok (.int (i + j)) st
  | .str a, .str b => if a.length + b.length ≤ sizeLine then .ok (.str (a ++ b)) st else .err
  | .tup a, .tup b => if a.length + b.length ≤ sizeLine then .ok (.tup (a ++ b)) st else .err
  | x, y => match lstOf st x, lstOf st y with
    | some a, some b => if a.length + b.length ≤ sizeLine then mk m (a ++ b) st else .err
    | _, _ => .err
def subF (x y : D) (st : Store) : Res D :=
  match x, y with
  | .int i, .int j => .ok (.int (i - j)) st
  | _, _ => .err
def mulOk (i j : Int) : Bool := decide (i.natAbs.log2 + j.natAbs.log2 < 1000000)
def mulF (m : Bool) (x y : D) (st : Store) : Res D :=
  match x, y with
  | .int i, .int j => if mulOk i j then .ok (.int (i * j)) st else .err
  | .tup a, .int k => if 0 < a.length ∧ a.length ≤ 1000 ∧ 0 ≤ k ∧ k ≤ 1000 then .ok (.tup (List.replicate k.toNat a).flatten) st else .err
  | x, .int k => match lstOf st x with
    | some a => if k < 2 ^ 63 ∧ -(2 ^ 63) ≤ k ∧ a.length * k.toNat ≤ sizeLine then mk m (List.replicate k.toNat a).flatten st else .err
    | none => .err
  | _, _ => .err
def divOk (j : Int) : Bool := decide (0 < j) && decide (j.natAbs.log2 < 9000)
def divF (x y : D) (st : Store) : Res D :=
  match x, y with
  | .int i, .int j => if divOk j then .ok (.int (i / j)) st else .err
  | _, _ => .err
def modF (x y : D) (st : Store) : Res D :=
  match x, y with
  | .int i, .int j => if 0 < j then .ok (.int (i % j)) st else .err
  | _, _ => .err
def powOk (i j : Int) : Bool := decide (0 ≤ j) && decide (j ≤ 1000000) && decide (i.natAbs < 2 ^ 64)
def powF (x y : D) (st : Store) : Res D :=
  match x, y with
  | .int i, .int j => if powOk i j then .ok (.int (i ^ j.toNat)) st else .err
  | _, _ => .err
def shlF (x y : D) (st : Store) : Res D :=
  match x, y with
  | .int i, .int j => if powOk i j then .ok (.int (i * 2 ^ j.toNat)) st else .err
  | _, _ => .err
def shrF (x y : D) (st : Store) : Res D :=
  match x, y with
  | .int i, .int j => if 0 ≤ j then .ok (.int (i / 2 ^ j.toNat)) st else .err
  | _, _ => .err
def andF (x y : D) (st : Store) : Res D :=
  match x, y with
  | .int i, .int j => .ok (.int (Builtin.bitAnd i j)) st
  | _, _ => .err
def binF (m : Bool) (op : Operator) (x y : D) (st : Store) : Res D :=
  match op with
  | .Add => addF m x y st
  | .Sub => subF x y st
  | .Mult => mulF m x y st
  | .FloorDiv => divF x y st
  | .Mod => modF x y st
  | .Pow => powF x y st
  | .LShift => shlF x y st
  | .RShift => shrF x y st
  | .BitAnd => andF x y st
  | _ => .err

mutual
def D.py : D → Option PyData
  | .non => some .none
  | .bl b => some (.bool b)
  | .int i => some (.int i)
  | .str s => some (.str s)
  | .tup xs => (pys xs).map .tuple
  | .lst xs => (pys xs).map .list
  | _ => none
def pys : List D → Option (List PyData)
  | [] => some []
  | x :: xs => match x.py, pys xs with
    | some p, some ps => some (p :: ps)
    | _, _ => none
end
def pyOf (st : Store) (d : D) : Option PyData :=
  match lstOf st d with
  | some xs => (pys xs).map .list
  | none => d.py
def shp (d : PyData) : Bool := d.canLay0 && decide (d.depth ≤ 150)
def eqF (st : Store) (x y : D) : Option Bool :=
  match pyOf st x, pyOf st y with
  | some p, some q => if shp p && shp q then some (PyData.eqv p q) else none
  | _, _ => none
def intsOf : List D → Option (List Int)
  | [] => some []
  | .int i :: r => (intsOf r).map (i :: ·)
  | _ :: _ => none
def boolsOf : List D → Option (List Bool)
  | [] => some []
  | .bl i :: r => (boolsOf r).map (i :: ·)
  | _ :: _ => none
def strsOf : List D → Option (List Str)
  | [] => some []
  | .str i :: r => (strsOf r).map (i :: ·)
  | _ :: _ => none
def isStr : D → Bool
  | .str _ => true
  | _ => false
def isNon : D → Bool
  | .non => true
  | _ => false
def isF (x y : D) : Option Bool :=
  match x, y with
  | x, .non => some (isNon x)
  | .bl a, .bl b => some (decide (a = b))
  | _, _ => none
def ltF (x y : D) : Option Bool :=
  match x, y with
  | .int i, .int j => some (decide (i < j))
  | .tup a, .tup b => match intsOf a, intsOf b with
    | some ns, some ms => some (HT.lexLt ns ms)
    | _, _ => none
  | _, _ => none
def leF (x y : D) : Option Bool :=
  match x, y with
  | .int i, .int j => some (decide (i ≤ j))
  | .tup a, .tup b => match intsOf a, intsOf b with
    | some ns, some ms => some (!HT.lexLt ms ns)
    | _, _ => none
  | _, _ => none
def gtF (x y : D) : Option Bool :=
  match x, y with
  | .int i, .int j => some (decide (j < i))
  | .tup a, .tup b => match intsOf a, intsOf b with
    | some ns, some ms => some (HT.lexLt ms ns)
    | _, _ => none
  | _, _ => none
def geF (x y : D) : Option Bool :=
  match x, y with
  | .int i, .int j => some (decide (j ≤ i))
  | .tup a, .tup b => match intsOf a, intsOf b with
    | some ns, some ms => some (!HT.lexLt ns ms)
    | _, _ => none
  | _, _ => none
def flatD : D → Bool
  | .non => true
  | .bl _ => true
  | .int _ => true
  | .str _ => true
  | _ => false
def eqFl : D → D → Bool
  | .non, .non => true
  | .bl a, .bl b => a == b
  | .bl a, .int b => (if a then 1 else 0) == b
  | .int a, .bl b => a == (if b then 1 else 0)
  | .int a, .int b => a == b
  | .str a, .str b => a == b
  | _, _ => false
def seqOf (st : Store) : D → Option (List D)
  | .tup xs => some xs
  | x => lstOf st x
def getK : List (List Int) → List D → List Int → Option D
  | k :: ks, v :: vs, j => if k = j then some v else getK ks vs j
  | _, _, _ => none
def getI : List (Int × Int) → Int → Option Int
  | p :: r, j => if p.1 = j then some p.2 else getI r j
  | [], _ => none
def putI (kvs : List (Int × Int)) (k v : Int) : List (Int × Int) :=
  if (kvs.any fun p => decide (p.1 = k)) = true then kvs.map (fun p => if p.1 = k then (p.1, v) else p) else kvs ++ [(k, v)]
def dkOf (st : Store) : D → Option (List (Int × Int))
  | .ref l => match st[l]? with
    | some (some (.dk kvs)) => some kvs
    | _ => none
  | _ => none
def keyT : D → Option (List Int)
  | .tup xs => intsOf xs
  | _ => none
def prsOf : List D → Option (List (List Int) × List D)
  | [] => some ([], [])
  | .tup [.tup ks, v] :: r => match intsOf ks, prsOf r with
    | some k, some (a, b) => some (k :: a, v :: b)
    | _, _ => none
  | _ :: _ => none
def inDF (st : Store) (x y : D) : Option Bool :=
  match pyOf st x, pyOf st y with
  | some d, some (.list ds) => if SeqAt.shaped d && SeqAt.shaped (.list ds) then some (ds.any fun z => PyData.eqv z d) else none
  | _, _ => none
def inF (st : Store) (x y : D) : Option Bool :=
  match y with
  | .dcT ks vs => (keyT x).map fun k => (getK ks vs k).isSome
  | .str z => match x with
    | .str a => match a.cps.toList with
      | [c] => some (decide (c ∈ z.cps.toList))
      | _ => none
    | _ => none
  | y => match seqOf st y with
  | some xs => if flatD x = true ∧ xs.all flatD = true then some (xs.any fun z => eqFl z x) else inDF st x y
  | none => none
def cmpF (op : CmpOp) (x y : D) (st : Store) : Option Bool :=
  match op with
  | .Eq => eqF st x y
  | .NotEq => (eqF st x y).map (!·)
  | .Lt => ltF x y
  | .LtE => leF x y
  | .Gt => gtF x y
  | .GtE => geF x y
  | .Is => isF x y
  | .IsNot => (isF x y).map (!·)
  | .In => inF st x y
  | .NotIn => (inF st x y).map (!·)

def optB (o : Option Bool) (st : Store) : Res D :=
  match o with
  | some b => .ok (.bl b) st
  | none => .err
@[simp] theorem optB_some (b : Bool) (st : Store) : optB (some b) st = .ok (.bl b) st := rfl

def subIx (x y : D) (st : Store) : Res D :=
  match x, y with
  | .tup xs, .int i => match atI xs i with
    | some d => .ok d st
    | none => .err
  | .scr ns, .int i => match atI ns i with
    | some d => .ok (.int d) st
    | none => .err
  | .str z, .int i => match atI z.cps.toList i with
    | some c => if z.length ≤ sizeLine then .ok (.str ⟨#[c]⟩) st else .err
    | none => .err
  | .dcT ks vs, .tup xs => match (intsOf xs).bind (getK ks vs) with
    | some d => .ok d st
    | none => .err
  | .lr ds, .int i => match atI ds i with
    | some d => .ok d st
    | none => .err
  | x, .int i => match lstOf st x with
    | some xs => match atI xs i with
      | some d => .ok d st
      | none => .err
    | none => match (dkOf st x).bind fun kvs => getI kvs i with
      | some v => .ok (.int v) st
      | none => .err
  | _, _ => .err
def cutD (xs : List D) (lo hi : Option Int) : List D := (xs.drop (HT.sIx xs.length 0 lo)).take (HT.sIx xs.length xs.length hi - HT.sIx xs.length 0 lo)
def slcF (m : Bool) (x : D) (lo hi : Option Int) (st : Store) : Res D :=
  match x with
  | .tup xs => .ok (.tup (cutD xs lo hi)) st
  | .str z => if z.length ≤ sizeLine then .ok (.str (cutS z lo hi)) st else .err
  | x => match lstOf st x with
    | some xs => mk m (cutD xs lo hi) st
    | none => .err

def lenF (x : D) (st : Store) : Res D :=
  match x with
  | .tup xs => .ok (.int xs.length) st
  | .scr xs => .ok (.int xs.length) st
  | .str z => if z.length ≤ sizeLine then .ok (.int z.length) st else .err
  | x => match lstOf st x with
    | some xs => .ok (.int xs.length) st
    | none => .err
def lenL (xs : List D) (st : Store) : Res D :=
  match xs with
  | [x] => lenF x st
  | _ => .err
def sumL (xs : List D) (st : Store) : Res D :=
  match xs with
  | [x] => match (seqOf st x).bind intsOf with
    | some ns => .ok (.int ns.sum) st
    | none => .err
  | _ => .err
def allL (xs : List D) (st : Store) : Res D :=
  match xs with
  | [x] => match (lstOf st x).bind boolsOf with
    | some ns => .ok (.bl (ns.all id)) st
    | none => .err
  | _ => .err
def tupleL (xs : List D) (st : Store) : Res D :=
  match xs with
  | [x] => match x with
    | .tup xs => .ok (.tup xs) st
    | x => match lstOf st x with
      | some xs => .ok (.tup xs) st
      | none => .err
  | _ => .err
def listL (m : Bool) (xs : List D) (st : Store) : Res D :=
  match xs with
  | [x] => match x with
    | .tup xs => mk m xs st
    | x => match lstOf st x with
      | some xs => mk m xs st
      | none => .err
  | _ => .err
def intL (xs : List D) (st : Store) : Res D :=
  match xs with
  | [x] => match x with
    | .int i => .ok (.int i) st
    | .bl b => .ok (.int (if b then 1 else 0)) st
    | .str z => match PySem.intText? z with
      | some k => if z.length ≤ 640 then .ok (.int k) st else .err
      | none => .err
    | _ => .err
  | _ => .err
def strL (xs : List D) (st : Store) : Res D :=
  match xs with
  | [x] => match x with
    | .int i => if i.natAbs.log2 < 1920 then .ok (.str (toString i)) st else .err
    | .str z => .ok (.str z) st
    | _ => .err
  | _ => .err
def mmV (g : Bool) : List Int → D
  | [] => .non
  | n :: r => .int (if g = true then r.foldl max n else r.foldl min n)
def mmL (g : Bool) (x : D) (st : Store) : Res D :=
  match lstOf st x with
  | some xs => match intsOf xs with
    | some (n :: r) => .ok (mmV g (n :: r)) st
    | _ => .err
  | none => .err
def minL (xs : List D) (st : Store) : Res D :=
  match xs with
  | [.int i, .int j] => .ok (.int (if j < i then j else i)) st
  | [x] => mmL false x st
  | _ => .err
def maxL (xs : List D) (st : Store) : Res D :=
  match xs with
  | [.int i, .int j] => .ok (.int (if j > i then j else i)) st
  | [x] => mmL true x st
  | _ => .err
def insI (x : Int) : List Int → List Int
  | [] => [x]
  | y :: ys => if x ≤ y then x :: y :: ys else y :: insI x ys
def srtI : List Int → List Int
  | [] => []
  | x :: xs => insI x (srtI xs)
def insT (x : List Int) : List (List Int) → List (List Int)
  | [] => [x]
  | y :: ys => if HT.lexLt y x = false then x :: y :: ys else y :: insT x ys
def srtT : List (List Int) → List (List Int)
  | [] => []
  | x :: xs => insT x (srtT xs)
def tupD (ns : List Int) : D := .tup (ns.map .int)
def tupsOf : List D → Option (List (List Int))
  | [] => some []
  | .tup (x :: xs) :: r => match intsOf (x :: xs), tupsOf r with
    | some ns, some nss => some (ns :: nss)
    | _, _ => none
  | _ :: _ => none
def sortedL (m : Bool) (xs : List D) (st : Store) : Res D :=
  match xs with
  | [x] => match lstOf st x with
    | some xs => match intsOf xs with
      | some ns => mk m ((srtI ns).map .int) st
      | none => match tupsOf xs with
        | some nss => mk m ((srtT nss).map tupD) st
        | none => .err
    | none => match dkOf st x with
      | some kvs => mk m ((srtI (kvs.map (·.1))).map .int) st
      | none => .err
  | _ => .err
def bltF (b : Blt) (m : Bool) (xs : List D) (st : Store) : Res D :=
  match b with
  | .len => lenL xs st
  | .sum => sumL xs st
  | .all => allL xs st
  | .tuple => tupleL xs st
  | .list => listL m xs st
  | .int => intL xs st
  | .min => minL xs st
  | .max => maxL xs st
  | .sorted => sortedL m xs st
  | .str => strL xs st
def tyN : D → String
  | .non => "NoneType"
  | .bl _ => "bool"
  | .int _ => "int"
  | .str _ => "str"
  | .tup _ => "tuple"
  | .lst _ => "list"
  | .scr _ => "list"
  | .dct => "dict"
  | .dcT _ _ => "dict"
  | .exn _ _ => "dict"
  | .ref _ => "list"
  | .ins _ _ => "dict"
  | .lr _ => "list"
def isiN (a b : String) : Bool := a == b || (a == "bool" && b == "int")
def isiK (b : String) : Bool := b == "int" || b == "bool" || b == "str" || b == "tuple" || b == "list"
def isiF (x : D) (ty : String) (st : Store) : Res D :=
  if isiK ty = true then match x with
    | .ref l => match lstOf st (.ref l) with
      | some _ => .ok (.bl (isiN "list" ty)) st
      | none => .err
    | .exn _ _ => .err
    | .ins _ _ => .err
    | .lr _ => .err
    | x => .ok (.bl (isiN (tyN x) ty)) st
  else .err

def isi2F (x : D) (ty ty' : String) (st : Store) : Res D :=
  match isiF x ty st, isiF x ty' st with
  | .ok (.bl b) _, .ok (.bl c) _ => .ok (.bl (b || c)) st
  | _, _ => .err
def frzF (x : D) (st : Store) : Res D :=
  match x with
  | .ref l => match st[l]? with
    | some (some (.lst xs)) => .ok (.lst xs) (st.set l (some (.fz xs)))
    | some (some (.fz xs)) => .ok (.lst xs) st
    | _ => .err
  | x => .ok x st
def idxI (k : Int) : List Int → Option Nat
  | [] => none
  | x :: xs => if x = k then some 0 else (idxI k xs).map (· + 1)
def mthF (k : Mth) (o : D) (es : List D) (st : Store) : Res D :=
  match k, o, es with
  | .append, .ref l, [e] => match st[l]? with
    | some (some (.lst xs)) => if e.isRef = false ∧ xs.length < sizeLine then .ok .non (st.set l (some (.lst (xs ++ [e])))) else .err
    | _ => .err
  | .extend, .ref l, [e] => match st[l]?, seqOf st e with
    | some (some (.lst xs)), some ys => if xs.length + ys.length ≤ sizeLine then .ok .non (st.set l (some (.lst (xs ++ ys)))) else .err
    | _, _ => .err
  | .reverse, .ref l, [] => match st[l]? with
    | some (some (.lst xs)) => .ok .non (st.set l (some (.lst xs.reverse)))
    | _ => .err
  | .clear, .ref l, [] => match st[l]? with
    | some (some (.lst _)) => .ok .non (st.set l (some (.lst [])))
    | _ => .err
  | .insert, .ref l, [.int i, e] => match st[l]? with
    | some (some (.lst xs)) => if e.isRef = false ∧ xs.length < sizeLine ∧ 0 ≤ i ∧ i < 2 ^ 62 then .ok .non (st.set l (some (.lst (xs.take i.toNat ++ [e] ++ xs.drop i.toNat)))) else .err
    | _ => .err
  | .count, o, [.int k] => match (lstOf st o).bind intsOf with
    | some ns => .ok (.int (ns.count k : Nat)) st
    | none => .err
  | .count, o, [.bl k] => match (lstOf st o).bind boolsOf with
    | some ns => .ok (.int (ns.count k : Nat)) st
    | none => .err
  | .index, o, [.int k] => match (lstOf st o).bind intsOf with
    | some ns => match idxI k ns with
      | some j => .ok (.int (j : Nat)) st
      | none => .err
    | none => .err
  | .pop, .ref l, [] => match st[l]? with
    | some (some (.lst xs)) => match xs[xs.length - 1]? with
      | some d => .ok d (st.set l (some (.lst xs.dropLast)))
      | none => .err
    | _ => .err
  | .popAt, .ref l, [.int i] => match st[l]? with
    | some (some (.lst xs)) => match xs[i.toNat]? with
      | some d => if 0 ≤ i ∧ i < 1000000000 then .ok d (st.set l (some (.lst (xs.eraseIdx i.toNat)))) else .err
      | none => .err
    | _ => .err
  | _, _, _ => .err

inductive Wk where
  | fix (xs : List D)
  | live (l : Nat)
  /-- a list that stands, and one of our own as it stands at each turn, of one length -/
  | zp (xs : List D) (l : Nat)
def zipF (x y : D) (st : Store) : Res Wk :=
  match x, y with
  | .lst xs, .ref l => match lstOf st (.ref l) with
    | some ys => if xs.length = ys.length then .ok (.zp xs l) st else .err
    | none => .err
  | _, _ => .err
def wkOf (x : D) (st : Store) : Res Wk :=
  match x with
  | .tup xs => .ok (.fix xs) st
  | .lst xs => .ok (.fix xs) st
  | .scr ns => .ok (.fix (ns.map .int)) st
  | .str z => .ok (.fix (z.cps.toList.map fun c => .str ⟨#[c]⟩)) st
  | .ref l => match lstOf st (.ref l) with
    | some _ => .ok (.live l) st
    | none => .err
  | _ => .err
def rngOk (i : Int) : Bool := decide (-(2 ^ 62) ≤ i) && decide (i < 2 ^ 62)
def rngD (lo : Int) (n : Nat) : List D := (List.range n).map fun (k : Nat) => .int (lo + k)
def rng1F (es : List D) (st : Store) : Res Wk :=
  match es with
  | [.int j] => if rngOk j then .ok (.fix (rngD 0 j.toNat)) st else .err
  | _ => .err
def rng2F (es : List D) (st : Store) : Res Wk :=
  match es with
  | [.int i, .int j] => if rngOk i && rngOk j then .ok (.fix (rngD i (j - i).toNat)) st else .err
  | _ => .err
def stepOk (i j c : Int) : Bool := decide (c ≠ 0) && decide (c.natAbs < 1073741824) && Builtin.Range.small i j c && decide (0 ≤ Builtin.Range.rangeSize i j c)
def rng3F (es : List D) (st : Store) : Res Wk :=
  match es with
  | [.int i, .int j, .int c] => if rngOk i && rngOk j && decide (c = -1) then .ok (.fix ((List.range (i - j).toNat).map fun (k : Nat) => .int (i - k))) st
    else if stepOk i j c then .ok (.fix ((List.range (Builtin.Range.rangeSize i j c).toNat).map fun (k : Nat) => .int (i + k * c))) st else .err
  | _ => .err
def rngF (k : Nat) (es : List D) (st : Store) : Res Wk :=
  match k with
  | 1 => rng1F es st
  | 2 => rng2F es st
  | 3 => rng3F es st
  | _ => .err
def lrngF (m : Bool) (x : D) (st : Store) : Res D :=
  match x with
  | .int j => if rngOk j && decide (j ≤ 16777216) then mk m (rngD 0 j.toNat) st else .err
  | _ => .err
def enumD (xs : List D) : List D := (List.range xs.length).zipWith (fun i d => .tup [.int (i : Nat), d]) xs

def asgN : T → D → Env → Option Env
  | .tnm i, d, env => if i < env.length then some (env.set i (some d)) else none
  | .ttp ts, .tup xs, env => asgNs ts xs env
  | _, _, _ => none
where asgNs : T → List D → Env → Option Env
  | .nil, [], env => some env
  | .cons (.tnm i) ts, x :: xs, env => if i < env.length then asgNs ts xs (env.set i (some x)) else none
  | _, _, _ => none
def slots : T → List Nat
  | .tnm i => [i]
  | .ttp ts => slots ts
  | .cons t ts => slots t ++ slots ts
  | _ => []
def wipeE (env : Env) : List Nat → Env
  | [] => env
  | v :: vs => (wipeE env vs).set v none

abbrev CallF := Nat → List D → Store → Res D

def compL (body : D → Store → Res (Option D)) (n : Nat) : List D → Store → Res Unit
  | [], st => .ok () st
  | x :: xs, st => match body x st with
    | .ok none st' => compL body n xs st'
    | .ok (some d) st' => match st'[n]? with
      | some (some (.lst acc)) => if d.isRef = false ∧ acc.length < sizeLine then compL body n xs (st'.set n (some (.lst (acc ++ [d])))) else .err
      | _ => .err
    | .exc e st' => .exc e st'
    | .err => .err
def fuel : Nat := 1000000000
def compR (body : D → Store → Res (Option D)) (n l : Nat) : Nat → Nat → Store → Res Unit
  | 0, _, _ => .err
  | k + 1, i, st => match lstOf st (.ref l) with
    | none => .err
    | some xs => match xs[i]? with
      | none => .ok () st
      | some x => match body x st with
        | .ok none st' => compR body n l k (i + 1) st'
        | .ok (some d) st' => match st'[n]? with
          | some (some (.lst acc)) => if d.isRef = false ∧ acc.length < sizeLine then compR body n l k (i + 1) (st'.set n (some (.lst (acc ++ [d])))) else .err
          | _ => .err
        | .exc e st' => .exc e st'
        | .err => .err
def revF (m : Bool) (x : D) (st : Store) : Res D :=
  match x with
  | .tup xs => .ok (.tup xs.reverse) st
  | x => match lstOf st x with
    | some xs => mk m xs.reverse st
    | none => .err
def unq : List Int → List Int
  | [] => []
  | [x] => [x]
  | x :: y :: r => if x = y then unq (y :: r) else x :: unq (y :: r)
def uqI (ns : List Int) : List Int := unq (srtI ns)
def suqF (m : Bool) (x : D) (st : Store) : Res D :=
  match lstOf st x with
  | some xs => match intsOf xs with
    | some ns => if ns.length + 1 < 4096 then mk m ((uqI ns).map .int) st else .err
    | none => .err
  | none => .err
def mmdF (g : Bool) (x : D) (st : Store) : Res D :=
  match lstOf st x with
  | some xs => match intsOf xs with
    | some ns => .ok (mmV g ns) st
    | none => .err
  | none => .err
def tstB {α : Type} (d : D) (st : Store) (k : Bool → Store → Res α) : Res α :=
  match d with
  | .bl b => k b st
  | _ => .err
@[simp] theorem tstB_bl {α : Type} (b : Bool) (st : Store) (k : Bool → Store → Res α) : tstB (.bl b) st k = k b st := rfl
def tupF (ds : List D) (st : Store) : Res D := if ds.all (fun d => !d.isRef) = true ∧ ds.length ≤ sizeLine then .ok (.tup ds) st else .err
def lstF (m : Bool) (ds : List D) (st : Store) : Res D := if ds.all (fun d => !d.isRef) = true ∧ ds.length ≤ sizeLine then mk m ds st else .err
def dctF (k v : D) (st : Store) : Res D :=
  match k with
  | .int _ => if v.isRef = false then .ok .dct st else .err
  | _ => .err
def dgetF (x y z : D) (st : Store) : Res D := match dkOf st x, y, z with
  | some kvs, .int k, .int v => .ok (.int ((getI kvs k).getD v)) st
  | _, _, _ => .err
def dgt1F (x y : D) (st : Store) : Res D := match x, keyT y with
  | .dcT ks vs, some k => .ok ((getK ks vs k).getD .non) st
  | _, _ => .err
def dofF (x : D) (st : Store) : Res D := match (lstOf st x).bind prsOf with
  | some (ks, vs) => if ks.Nodup then .ok (.dcT ks vs) st else .err
  | none => .err
def ditF (m : Bool) (x : D) (st : Store) : Res D := match dkOf st x with
  | some kvs => if kvs.length ≤ sizeLine then mk m ((srtT (kvs.map fun p => [p.1, p.2])).map tupD) st else .err
  | none => .err
def isDk (x : D) (st : Store) : Bool := (dkOf st x).isSome
def isDT : D → Bool
  | .dcT _ _ => true
  | _ => false
def callEnd (m : Bool) (n : Nat) (d : D) (st : Store) : Res D :=
  match d with
  | .ref l => if l < n then .ok d (st.take n) else match st[l]? with
    | some (some (.lst xs)) => mk m xs (st.take n)
    | some (some (.fz xs)) => if m = true then .err else .ok (.lst xs) (st.take n)
    | _ => .err
  | .ins _ _ => .err
  | .lr _ => .err
  | d => .ok d (st.take n)
def fldF (c k : Nat) (x : D) (st : Store) : Res D := match x with
  | .ins c' ds => if c' = c then (match ds[k]? with
    | some d => .ok d st
    | none => .err) else .err
  | _ => .err
def mkIF (c : Nat) (x : D) (st : Store) : Res D :=
  if x.isRef = true then .err else match c with
    | 0 => .ok (.ins 0 [x, .ref st.length, .ref (st.length + 1)]) (st ++ [some (.lst [.non]), some (.lst [.lst []])])
    | 1 => .ok (.ins 1 [.ins 0 [x, .ref st.length, .ref (st.length + 1)], x]) (st ++ [some (.lst [.non]), some (.lst [.lst []])])
    | _ => .err
def lrF (ds : List D) (st : Store) : Res D := if ds.length ≤ sizeLine then .ok (.lr ds) st else .err
def isIns (c : Nat) : D → Bool
  | .ins c' _ => decide (c' = c)
  | _ => false

def isxvF (cs : List Nat) (x : D) (st : Store) : Res D := match x with
  | .exn c _ => .ok (.bl (cs.any (subC c))) st
  | _ => .err
def fldnF (x : D) (st : Store) : Res D := match x with
  | .exn _ (some i) => .ok (.int i) st
  | _ => .err
def smF (k : Nat) (m : Bool) (x y : D) (st : Store) : Res D :=
  match x with
  | .str a => if k = 0 then (match (lstOf st y).bind strsOf with
      | some ys => if (ys.map (·.length)).sum + ys.length * a.length ≤ 16777216 then .ok (.str (Txt.join a ys)) st else .err
      | none => .err)
    else match y with
      | .str b => if (b.length == 0) = false ∧ a.length + 2 ≤ sizeLine then mk m ((Txt.split a b).map .str) st else .err
      | _ => .err
  | _ => .err
def compEnd (m : Bool) (n : Nat) (st : Store) : Res D := callEnd m n (.ref n) st

mutual
def ev (F : CallF) : T → Env → Store → Res D
  | .var i, env, st => match env[i]? with
    | some (some d) => .ok d st
    | _ => .err
  | .con d, _, st => .ok d st
  | .gi _ i, _, st => .ok (.int i) st
  | .gsv _ s, _, st => .ok (.str s) st
  | .bin m op a b, env, st => (ev F a env st).bind fun x st1 => (ev F b env st1).bind fun y st2 => binF m op x y st2
  | .neg a, env, st => (ev F a env st).bind fun x st1 => match x with
    | .int i => .ok (.int (-i)) st1
    | _ => .err
  | .cmp op a b, env, st => (ev F a env st).bind fun x st1 => (ev F b env st1).bind fun y st2 => optB (cmpF op x y st2) st2
  | .cmp2 op op' a b c, env, st => (ev F a env st).bind fun x st1 => (ev F b env st1).bind fun y st2 => match cmpF op x y st2 with
    | some true => (ev F c env st2).bind fun z st3 => optB (cmpF op' y z st3) st3
    | some false => .ok (.bl false) st2
    | none => .err
  | .bop o es, env, st => evB F o es env st
  | .nt a, env, st => (ev F a env st).bind fun x st1 => tstB x st1 fun b st2 => .ok (.bl (!b)) st2
  | .ite c a b, env, st => (ev F c env st).bind fun x st1 => tstB x st1 fun k st2 => if k = true then ev F a env st2 else ev F b env st2
  | .tup es, env, st => (evs F es env st).bind fun ds st1 => tupF ds st1
  | .lst m es, env, st => (evs F es env st).bind fun ds st1 => lstF m ds st1
  | .dct1 k v, env, st => (ev F k env st).bind fun x st1 => (ev F v env st1).bind fun y st2 => dctF x y st2
  | .sub a i, env, st => (ev F a env st).bind fun x st1 => (ev F i env st1).bind fun y st2 => subIx x y st2
  | .slc m a lo hi, env, st => (ev F a env st).bind fun x st1 => (evo F lo env st1).bind fun l st2 => (evo F hi env st2).bind fun h st3 => slcF m x l h st3
  | .call f m es, env, st => (evs F es env st).bind fun ds st1 => (F f ds st1).bind fun d st2 => callEnd m st1.length d st2
  | .blt b m es, env, st => (evs F es env st).bind fun ds st1 => bltF b m ds st1
  | .isi a ty, env, st => (ev F a env st).bind fun x st1 => isiF x ty st1
  | .comp m src tg own cond elt, env, st => (evw F src env st).bind fun w st1 => match w with
    | .fix xs => (compL (fun x st2 => match asgN tg x (wipeE env (own.map (·.2))) with
        | none => .err
        | some env2 => (evt F cond env2 st2).bind fun b st3 => if b = true then (ev F elt env2 st3).bind fun d st4 => .ok (some d) st4 else .ok none st3) st1.length xs (st1 ++ [some (.lst [])])).bind fun _ st2 => compEnd m st1.length st2
    | .live l => (compR (fun x st2 => match asgN tg x (wipeE env (own.map (·.2))) with
        | none => .err
        | some env2 => (evt F cond env2 st2).bind fun b st3 => if b = true then (ev F elt env2 st3).bind fun d st4 => .ok (some d) st4 else .ok none st3) st1.length l fuel 0 (st1 ++ [some (.lst [])])).bind fun _ st2 => compEnd m st1.length st2
    | .zp _ _ => .err
  | .frz a, env, st => (ev F a env st).bind fun x st1 => frzF x st1
  | .rev m a, env, st => (ev F a env st).bind fun x st1 => revF m x st1
  | .isi2 a ty ty', env, st => (ev F a env st).bind fun x st1 => isi2F x ty ty' st1
  | .suq m a, env, st => (ev F a env st).bind fun x st1 => suqF m x st1
  | .mmd g a, env, st => (ev F a env st).bind fun x st1 => mmdF g x st1
  | .cmp4 op op' op'' a b c d, env, st => (ev F a env st).bind fun x st1 => (ev F b env st1).bind fun y st2 => match cmpF op x y st2 with
    | some true => (ev F c env st2).bind fun z st3 => match cmpF op' y z st3 with
      | some true => (ev F d env st3).bind fun u st4 => optB (cmpF op'' z u st4) st4
      | some false => .ok (.bl false) st3
      | none => .err
    | some false => .ok (.bl false) st2
    | none => .err
  | .lrng m a, env, st => (ev F a env st).bind fun x st1 => lrngF m x st1
  | .isxv a cs, env, st => (ev F a env st).bind fun x st1 => isxvF cs x st1
  | .fldn a, env, st => (ev F a env st).bind fun x st1 => fldnF x st1
  | .fld c k a, env, st => (ev F a env st).bind fun x st1 => fldF c k x st1
  | .meth c f m o es, env, st => (ev F o env st).bind fun x st1 => if isIns c x = true then (evs F es env st1).bind fun ds st2 => (F f (x :: ds) st2).bind fun d st3 => callEnd m st2.length d st3 else .err
  | .mkI c a, env, st => (ev F a env st).bind fun x st1 => mkIF c x st1
  | .lrs es, env, st => (evs F es env st).bind fun ds st1 => lrF ds st1
  | .smth k m o e, env, st => (ev F o env st).bind fun x st1 => if isStr x = true then (ev F e env st1).bind fun y st2 => smF k m x y st2 else .err
  | .dnew, _, st => .ok (.ref st.length) (st ++ [some (.dk [])])
  | .dct0, _, st => .ok .dct st
  | .dget o k z, env, st => (ev F o env st).bind fun x st1 => if isDk x st1 = true then (ev F k env st1).bind fun y st2 => (ev F z env st2).bind fun d st3 => dgetF x y d st3 else .err
  | .dgt1 o k, env, st => (ev F o env st).bind fun x st1 => if isDT x = true then (ev F k env st1).bind fun y st2 => dgt1F x y st2 else .err
  | .dof a, env, st => (ev F a env st).bind fun x st1 => dofF x st1
  | .ditems m a, env, st => (ev F a env st).bind fun x st1 => ditF m x st1
  | .mth k o es, env, st => (ev F o env st).bind fun x st1 => match lstOf st1 x with
    | none => .err
    | some _ => (evs F es env st1).bind fun ds st2 => mthF k x ds st2
  | _, _, _ => .err
def evs (F : CallF) : T → Env → Store → Res (List D)
  | .nil, _, st => .ok [] st
  | .cons e es, env, st => (ev F e env st).bind fun d st1 => (evs F es env st1).bind fun ds st2 => .ok (d :: ds) st2
  | _, _, _ => .err
def evB (F : CallF) (o : BoolOp) : T → Env → Store → Res D
  | .cons e .nil, env, st => ev F e env st
  | .cons e es, env, st => (ev F e env st).bind fun x st1 => tstB x st1 fun b st2 => match o, b with
    | .And, true => evB F o es env st2
    | .And, false => .ok (.bl false) st2
    | .Or, true => .ok (.bl true) st2
    | .Or, false => evB F o es env st2
  | _, _, _ => .err
def evo (F : CallF) : T → Env → Store → Res (Option Int)
  | .no, _, st => .ok none st
  | .so e, env, st => (ev F e env st).bind fun x st1 => match x with
    | .int i => .ok (some i) st1
    | _ => .err
  | _, _, _ => .err
def evt (F : CallF) : T → Env → Store → Res Bool
  | .no, _, st => .ok true st
  | .so e, env, st => (ev F e env st).bind fun x st1 => tstB x st1 fun b st2 => .ok b st2
  | _, _, _ => .err
def evw (F : CallF) : T → Env → Store → Res Wk
  | .sit e, env, st => (ev F e env st).bind fun x st1 => wkOf x st1
  | .srng k es, env, st => (evs F es env st).bind fun ds st1 => rngF k ds st1
  | .senum e, env, st => (ev F e env st).bind fun x st1 => match x with
    | .tup xs => .ok (.fix (enumD xs)) st1
    | .lst xs => .ok (.fix (enumD xs)) st1
    | _ => .err
  | .srev e, env, st => (ev F e env st).bind fun x st1 => match x with
    | .lst xs => .ok (.fix xs.reverse) st1
    | _ => .err
  | .szip a b, env, st => (ev F a env st).bind fun x st1 => (ev F b env st1).bind fun y st2 => zipF x y st2
  | _, _, _ => .err
end

/-! ### statements -/
def setF (o i d : D) (st : Store) : Option Store :=
  match o, i with
  | .ref l, .int k => match st[l]? with
    | some (some (.lst xs)) => match ixN xs.length k with
      | some j => if d.isRef = false then some (st.set l (some (.lst (xs.set j d)))) else none
      | none => none
    | some (some (.dk kvs)) => match d with
      | .int v => if kvs.length < sizeLine then some (st.set l (some (.dk (putI kvs k v)))) else none
      | _ => none
    | _ => none
  | _, _ => none
def setFl (o i d : D) (st : Store) : Option Store :=
  match o with
  | .ref l => match st[l]? with
    | some (some (.lst _)) => setF o i d st
    | _ => none
  | _ => none
def augG (o i : D) (st : Store) : Option Int :=
  match o, i with
  | .ref l, .int k => match st[l]? with
    | some (some (.lst xs)) => match atI xs k with
      | some (.int v) => some v
      | _ => none
    | _ => none
  | _, _ => none
def asg (F : CallF) : T → D → Env → Store → Option (Env × Store)
  | .tnm i, d, env, st => if i < env.length then some (env.set i (some d), st) else none
  | .tix a i, d, env, st => match ev F a env st with
    | .ok x st1 => match ev F i env st1 with
      | .ok y st2 => (setF x y d st2).map fun st3 => (env, st3)
      | _ => none
    | _ => none
  | .ttp ts, .tup xs, env, st => asgs F ts xs env st
  | .ttp ts, .lst xs, env, st => asgs F ts xs env st
  | _, _, _, _ => none
where asgs (F : CallF) : T → List D → Env → Store → Option (Env × Store)
  | .nil, [], env, st => some (env, st)
  | .cons t ts, x :: xs, env, st => match asg F t x env st with
    | some (env1, st1) => asgs F ts xs env1 st1
    | none => none
  | _, _, _, _ => none

def forL (body : D → Env → Store → SRes) : List D → Env → Store → SRes
  | [], env, st => .nx env st
  | x :: xs, env, st => match body x env st with
    | .nx env' st' => forL body xs env' st'
    | .ct env' st' => forL body xs env' st'
    | .bk env' st' => .nx env' st'
    | r => r
def forR (body : D → Env → Store → SRes) (l : Nat) : Nat → Nat → Env → Store → SRes
  | 0, _, _, _ => .err
  | n + 1, i, env, st => match lstOf st (.ref l) with
    | none => .err
    | some xs => match xs[i]? with
      | none => .nx env st
      | some x => match body x env st with
        | .nx env' st' => forR body l n (i + 1) env' st'
        | .ct env' st' => forR body l n (i + 1) env' st'
        | .bk env' st' => .nx env' st'
        | r => r
def forZ (body : D → Env → Store → SRes) (xs : List D) (l : Nat) : Nat → Nat → Env → Store → SRes
  | 0, _, _, _ => .err
  | n + 1, i, env, st => match lstOf st (.ref l) with
    | none => .err
    | some ys => if xs.length = ys.length then match xs[i]?, ys[i]? with
      | some x, some y => match body (.tup [x, y]) env st with
        | .nx env' st' => forZ body xs l n (i + 1) env' st'
        | .ct env' st' => forZ body xs l n (i + 1) env' st'
        | .bk env' st' => .nx env' st'
        | r => r
      | _, _ => .nx env st
    else .err
def whileL (c : Env → Store → Res D) (b : Env → Store → SRes) : Nat → Env → Store → SRes
  | 0, _, _ => .err
  | n + 1, env, st => (c env st).thenS env fun x st1 => match x with
    | .bl true => match b env st1 with
      | .nx env' st' => whileL c b n env' st'
      | .ct env' st' => whileL c b n env' st'
      | .bk env' st' => .nx env' st'
      | r => r
    | .bl false => .nx env st1
    | _ => .err

/-! in the suite of a caught exception of class x, with the number ag -/
mutual
def hv (x : Nat) (ag : Option Int) : T → Env → Store → Res D
  | .isx cs, _, st => .ok (.bl (cs.any (subC x))) st
  | .hfld, _, st => match ag with
    | some k => .ok (.int k) st
    | none => .err
  | .con d, _, st => .ok d st
  | .var i, env, st => match env[i]? with
    | some (some d) => .ok d st
    | _ => .err
  | .lst m es, env, st => (hvs x ag es env st).bind fun ds st1 => lstF m ds st1
  | .tup es, env, st => (hvs x ag es env st).bind fun ds st1 => tupF ds st1
  | .sub a (.con (.int k)), env, st => (hv x ag a env st).bind fun d st1 => subIx d (.int k) st1
  | _, _, _ => .err
def hvs (x : Nat) (ag : Option Int) : T → Env → Store → Res (List D)
  | .nil, _, st => .ok [] st
  | .cons e es, env, st => (hv x ag e env st).bind fun d st1 => (hvs x ag es env st1).bind fun ds st2 => .ok (d :: ds) st2
  | _, _, _ => .err
end
def hs (x : Nat) (ag : Option Int) : T → Env → Store → SRes
  | .nil, env, st => .nx env st
  | .cons s ss, env, st => (hs x ag s env st).andThen fun env1 st1 => hs x ag ss env1 st1
  | .sset (.tnm i) e, env, st => (hv x ag e env st).thenS env fun d st1 => if i < env.length then .nx (env.set i (some d)) st1 else .err
  | .sexp (.mth .append (.var i) (.cons e .nil)), env, st => (hv x ag (.var i) env st).thenS env fun l st1 => match lstOf st1 l with
    | none => .err
    | some _ => (hv x ag e env st1).thenS env fun d st2 => (mthF .append l [d] st2).thenS env fun _ st3 => .nx env st3
  | .sif (.isx cs) a b, env, st => if cs.any (subC x) = true then hs x ag a env st else hs x ag b env st
  | _, _, _ => .err
def wipeH (i : Nat) : SRes → SRes
  | .nx env st => .nx (env.set i none) st
  | _ => .err
def argI : Option D → Option (Option Int)
  | none => some none
  | some (.int i) => some (some i)
  | _ => none
def tryV (i j c : Nat) : SRes → SRes
  | .exc x env st => if i < env.length ∧ j < env.length then (if subC x.cls c = true then (match argI x.arg with
      | some n => .nx (((env.set i none).set j (some (.exn x.cls n))).set i none) st
      | none => .err) else .exc x env st) else .err
  | r => r
def tryK (i c : Nat) (h : T) : SRes → SRes
  | .exc x env st => if i < env.length then (if subC x.cls c = true then (match argI x.arg with
      | some ag => wipeH i (hs x.cls ag h (env.set i none) st)
      | none => .err) else .exc x env st) else .err
  | r => r

def ex (F : CallF) : T → Env → Store → SRes
  | .nil, env, st => .nx env st
  | .cons s ss, env, st => (ex F s env st).andThen fun env1 st1 => ex F ss env1 st1
  | .sset tg e, env, st => (ev F e env st).thenS env fun d st1 => match asg F tg d env st1 with
    | some (env2, st2) => .nx env2 st2
    | none => .err
  | .sexp e, env, st => (ev F e env st).thenS env fun _ st1 => .nx env st1
  | .sret e, env, st => (ev F e env st).thenS env fun d st1 => .rt d st1
  | .sretn, _, st => .rt .non st
  | .sif c a b, env, st => (ev F c env st).thenS env fun x st1 => match x with
    | .bl true => ex F a env st1
    | .bl false => ex F b env st1
    | _ => .err
  | .swhile c b, env, st => whileL (ev F c) (ex F b) fuel env st
  | .sfor src tg b, env, st => (evw F src env st).thenS env fun w st1 => match w with
    | .fix xs => forL (fun x env st => match asg F tg x env st with
      | some (env2, st2) => ex F b env2 st2
      | none => .err) xs env st1
    | .live l => forR (fun x env st => match asg F tg x env st with
      | some (env2, st2) => ex F b env2 st2
      | none => .err) l fuel 0 env st1
    | .zp xs l => forZ (fun x env st => match asg F tg x env st with
      | some (env2, st2) => ex F b env2 st2
      | none => .err) xs l fuel 0 env st1
  | .sbrk, env, st => .bk env st
  | .scnt, env, st => .ct env st
  | .spass, env, st => .nx env st
  | .saug a i e, env, st => (ev F a env st).thenS env fun x st1 => (ev F i env st1).thenS env fun y st2 => match augG x y st2 with
    | some v => (ev F e env st2).thenS env fun d st3 => match d with
      | .int w => match setFl x y (.int (v + w)) st3 with
        | some st4 => .nx env st4
        | none => .err
      | _ => .err
    | none => .err
  | .sraise c, env, st => .exc ⟨c, none⟩ env st
  | .sraiseN c e, env, st => (ev F e env st).thenS env fun d st1 => match d with
    | .int i => .exc ⟨c, some (.int i)⟩ env st1
    | _ => .err
  | .stry b c i h, env, st => tryK i c h (ex F b env st)
  | .stryv b c i j, env, st => tryV i j c (ex F b env st)
  | .spar i j a b, env, st => (ev F a env st).thenS env fun x st1 => (ev F b env st1).thenS env fun y st2 => if i < env.length ∧ j < env.length then .nx ((env.set i (some x)).set j (some y)) st2 else .err
  | _, _, _ => .err

/-! ### a def, the whole text -/
structure Fn where
  name : Str
  ps : List Str
  N : List Str
  body : T
def Fn.isI (fn : Fn) (x : Str) (i : Int) : Bool := decide (fn.name = x) && match fn.body with
  | .con (.int j) => decide (j = i)
  | _ => false
def Fn.isS (fn : Fn) (x s : Str) : Bool := decide (fn.name = x) && match fn.body with
  | .con (.str j) => decide (j = s)
  | _ => false
def Fn.isC (fn : Fn) : Bool := match fn.body with
  | .con _ => true
  | .sraise _ => true
  | .no => true
  | _ => false
def Fn.isAl (fn : Fn) (x n : Str) : Bool := decide (fn.name = x) && match fn.body with
  | .no => decide (fn.N = [n])
  | _ => false
def Fn.isA (fn : Fn) : Bool := match fn.body with
  | .no => true
  | _ => false
theorem isAl_A {fn : Fn} {x n : Str} (h : fn.isAl x n = true) : fn.isA = true := by
  unfold Fn.isAl at h
  rw [Bool.and_eq_true] at h
  obtain ⟨_, h⟩ := h
  unfold Fn.isA
  split at h
  · rfl
  · cases h
def Fn.isE (fn : Fn) (r : Nat) : Bool := match fn.body with
  | .sraise c => decide (c = r)
  | _ => false
def Fn.isM (fn : Fn) : Bool := match fn.ps with
  | p :: _ => decide (p = ("self" : Str))
  | [] => false
def clsM (x : Str) : Nat := if (["say", "made", "gathering", "asked", "told_paper", "shown"] : List Str).any (fun y => decide (y = x)) = true then 1 else 0
def usesC (Fs : List Fn) (c : Nat) : Bool := Fs.any fun fn => fn.isM && decide (clsM fn.name = c)
def rzB (Fs : List Fn) (r : Nat) : Bool := Fs.any fun fn => fn.isE r
def cAof (Fs : List Fn) (mg : Str → Option Value) (r : Nat) : Option Addr := if rzB Fs r = true then match mg (cn r) with
  | some (.ref C) => some C
  | _ => none
  else none
def bodyEnd (r : SRes) : Res D :=
  match r with
  | .nx _ st => .ok .non st
  | .rt d st => .ok d st
  | .exc x _ st => .exc x st
  | _ => .err
def startE (n k : Nat) (ds : List D) : Env := ds.map some ++ List.replicate (n - k) none
def cf (Fs : List Fn) : Nat → CallF
  | 0 => fun _ _ _ => .err
  | n + 1 => fun f ds st => match Fs[f]? with
    | none => .err
    | some fn => if ds.length = fn.ps.length then bodyEnd (ex (cf Fs n) fn.body (startE fn.N.length fn.ps.length ds) st) else .err
end Zn

/-! Zn, part O: sorted of tuples of whole numbers, any number of them; two names set at once. -/
namespace Zn
open PySem PySem.Spec PyProof.Rows L2
section
variable {prog : Program} {w : World} {A : Around} {s : Shared}
def allInt : Nat → Bool := fun _ => false
def keyI (h : Heap) (v : Value) : List Int := match tupKey h allInt v with
  | some l => l.map fun x => match x with
    | .inl i => i
    | .inr _ => 0
  | none => []
theorem items_ints : ∀ {vs : List Value} {ns : List Int} (i : Nat), IntsAre vs ns → tupItems allInt i vs = some (ns.map Sum.inl)
  | _, _, _, .nil => rfl
  | _, _, i, .cons n t r => by
    show (if allInt i = true then none else (tupItems allInt (i + 1) _).map (Sum.inl n :: ·)) = _
    rw [if_neg (by simp [allInt]), items_ints (i + 1) r]
    rfl
theorem lexLt_ints : ∀ (a b : List Int), PyProof.Rows.lexLt itemOrd (a.map Sum.inl) (b.map Sum.inl) = HT.lexLt a b
  | [], [] => rfl
  | [], _ :: _ => rfl
  | _ :: _, [] => rfl
  | x :: a, y :: b => by
    rw [HT.lexLt_cons]
    show PyProof.Rows.lexLt itemOrd (Sum.inl x :: a.map Sum.inl) (Sum.inl y :: b.map Sum.inl) = _
    rw [lex_cons]
    show (decide (x < y) || (!decide (y < x) && PyProof.Rows.lexLt itemOrd (a.map Sum.inl) (b.map Sum.inl))) = _
    rw [lexLt_ints a b]
    by_cases e : x = y
    · subst e
      simp
    · rw [if_neg e]
      by_cases h : x < y
      · simp [h]
      · have : y < x := by omega
        simp [h, this]
def IsTI (h : Heap) (v : Value) (ns : List Int) : Prop := ∃ (a : Addr) (o : Obj) (xs : Array Value) (n : Nat), v = .ref a ∧ h.get? a = some o ∧ o.cls = .type "tuple" ∧ o.data = .seq xs n ∧ IntsAre xs.toList ns ∧ ns ≠ []
theorem IsTI.keeps {h h' : Heap} {v : Value} {ns : List Int} (x : IsTI h v ns) (k : ∀ b o, h.get? b = some o → o.cls = .type "tuple" → h'.get? b = some o) : IsTI h' v ns := by
  obtain ⟨a, o, xs, n, e, ho, hc, hd, hi, hn⟩ := x
  exact ⟨a, o, xs, n, e, k a o ho hc, hc, hd, hi, hn⟩
theorem IsTI.key {h : Heap} {v : Value} {ns : List Int} (x : IsTI h v ns) : tupKey h allInt v = some (ns.map Sum.inl) := by
  obtain ⟨a, o, xs, n, rfl, ho, hc, hd, hi, hn⟩ := x
  simp only [tupKey, ho, hd]
  exact items_ints 0 hi
theorem IsTI.keyI {h : Heap} {v : Value} {ns : List Int} (x : IsTI h v ns) : keyI h v = ns := by
  rw [Zn.keyI, x.key]
  show (ns.map Sum.inl).map _ = ns
  rw [List.map_map]
  exact (List.map_congr_left fun i _ => rfl).trans (List.map_id ns)
theorem ti_cmp {vs : List Value} {k : Value → List Int} (hp : ∀ v ∈ vs, IsTI s.heap v (k v)) : SrtO.Cmp prog w A s (tuples' true) (fun p => p.1 ∈ vs) (SrtO.lt2 fun v u => HT.lexLt (k v) (k u)) := by
  intro p q hm hm'
  show wpAny (model prog w) A (keyLt' (tuples' true) p.1 q.1) (fun r s' => s' = s ∧ r = HT.lexLt (k p.1) (k q.1)) (fun _ _ => False) s
  refine tup_ltAt (shape := allInt) true A _ p.1 q.1 _ _ (hp _ hm).key (hp _ hm').key ⟨rfl, ?_⟩
  exact lexLt_ints _ _
theorem ti_tups {h : Heap} {k : Value → List Int} : ∀ {vs : List Value}, (∀ v ∈ vs, IsTI h v (k v)) → ∃ fs, TupsOf h allInt vs fs ∧ fs.length = vs.length
  | [], _ => ⟨[], .nil, rfl⟩
  | v :: vs, hp => by
    obtain ⟨fs, h1, h2⟩ := ti_tups (vs := vs) fun u hu => hp u (List.mem_cons_of_mem _ hu)
    obtain ⟨a, o, xs, n, e, ho, hc, hd, hi, hn⟩ := hp v List.mem_cons_self
    obtain ⟨xs⟩ := xs
    obtain ⟨ns, hns⟩ : ∃ ns, ns = k v := ⟨_, rfl⟩
    rw [← hns] at hi hn
    cases hi with
    | nil => exact absurd rfl hn
    | cons i t r => exact ⟨_ :: fs, .cons ⟨a, o, _, n, e, ho, hc, hd, rfl, fun _ => ⟨i, t, rfl⟩, fun z => by cases z⟩ h1, by rw [List.length_cons, List.length_cons, h2]⟩
theorem ti_sortable {a : Addr} {vs : List Value} {k : Value → List Int} (h0 : 0 < vs.length) (hp : ∀ v ∈ vs, IsTI s.heap v (k v)) (ha : ∀ o, s.heap.get? a = some o → o.cls ≠ .type "tuple") : SrtO.SortableO prog w A s a vs fun v u => HT.lexLt (k v) (k u) := by
  intro h' keep
  have hp' : ∀ v ∈ vs, IsTI h' v (k v) := fun v hm => (hp v hm).keeps fun b o e c => keep b o (fun z => by subst z; exact ha o e c) e
  obtain ⟨fs, h1, h2⟩ := ti_tups hp'
  exact ⟨tuples' true, fun Q E hq => tup_kind (s := { s with heap := h' }) (by omega) h1 hq, ti_cmp hp'⟩
end
def rSortedX (K : PySem.W.Frag) : List V → Hp → VK → Prop := fun vs H Q => ∃ (a : Addr) (ps : List (V × List Int)), vs = [V.ref a] ∧ SqL K H a (ps.map (·.1)) ∧ (∀ p ∈ ps, p.2 ≠ [] ∧ ∃ t, p.1 = V.ref t ∧ SqT K H t (p.2.map V.int)) ∧
  ∀ (qs : List (V × List Int)) (p : Addr), qs.Perm ps → qs.Pairwise (fun x y => HT.lexLt y.2 x.2 = false) → H p = none → Q (.ref p) (upd H p (.lst (qs.map (·.1))))
theorem cr_sortedX {X : Cx} : CallR X (.builtin "sorted") (rSortedX X.K) := by
  intro pins s σ H vs us Q I r h
  obtain ⟨a, ps, rfl, hs, hx, q⟩ := h
  obtain ⟨its, rv, hl, hz⟩ := I.list hs
  obtain ⟨u, rfl, ru⟩ := vals1 r
  obtain rfl : u = Value.ref a := ru
  have hq : ∀ {ps : List (V × List Int)} {its : List Value}, Vals (ps.map (·.1)) its → (∀ p ∈ ps, p.2 ≠ [] ∧ ∃ t, p.1 = V.ref t ∧ SqT X.K H t (p.2.map V.int)) → its.map (fun v => (backV v, keyI s.heap v)) = ps ∧ ∀ v ∈ its, IsTI s.heap v (keyI s.heap v) ∧ ∃ t, v = Value.ref t := by
    intro ps
    induction ps with
    | nil => intro its rv _; cases rv; exact ⟨rfl, fun v hv => absurd hv (by simp)⟩
    | cons p ps ih =>
      intro its rv hx
      cases rv with
      | cons r1 r2 =>
        obtain ⟨h1, h2⟩ := ih r2 fun p hp => hx p (List.mem_cons_of_mem _ hp)
        obtain ⟨hn, t, e, ht⟩ := hx p List.mem_cons_self
        obtain ⟨p1, p2⟩ := p
        have e : p1 = V.ref t := e
        subst e
        rename_i u us
        have eu : u = Value.ref t := r1
        subst eu
        obtain ⟨its2, rv2, pt, _⟩ := I.tuple ht
        obtain ⟨o, ho, hc, n, hd⟩ := pt
        have ti : IsTI s.heap (.ref t) p2 := ⟨t, o, its2.toArray, n, rfl, ho, hc, hd, rv2.ints, hn⟩
        refine ⟨?_, fun v hv => ?_⟩
        · rw [List.map_cons, h1, ti.keyI]
          rfl
        · rcases List.mem_cons.mp hv with rfl | hv
          · rw [ti.keyI]
            exact ⟨ti, _, rfl⟩
          · exact h2 v hv
  obtain ⟨e1, e2⟩ := hq rv hx
  refine SrtO.sorted_ord (NtL.swo_lexL (keyI s.heap)) hl.isList (by rw [← rv.length]; exact hz) (fun h2 h₁ a' ha' kk => ?_) fun out h1 h2 => ?_
  · refine ti_sortable (s := { s with heap := h₁ }) (by omega) (fun v hm => (e2 v hm).1.keeps fun b o e _ => (kk b o e).2) fun o e => ?_
    have e' : some o = some (seqObj "list" its.toArray 0) := e.symm.trans ha'
    cases e'
    intro c
    exact absurd (Value.type.inj c) (by decide)
  · have h3 : ∀ u ∈ out, ∃ a, u = Value.ref a := fun u hu => (e2 u (h2.perm.mem_iff.mp hu)).2
    have em : (out.map fun v => (backV v, keyI s.heap v)).map (·.1) = out.map backV := by rw [List.map_map]; rfl
    have hp : (out.map fun v => (backV v, keyI s.heap v)).Perm ps := by
      rw [← e1]
      exact h2.perm.map _
    have hlen : (out.map backV).length ≤ sizeLine := by
      rw [List.length_map, h2.perm.length_eq, ← rv.length]
      exact hz
    obtain ⟨ep, he'⟩ := PyProof.Rows.sortedAll_at s.heap its out.toArray
    refine ⟨.ref _, upd H (s.heap.objs.size + 1) (.lst (out.map backV)), I.laid (t' := s.toks) (fun _ _ => PyProof.Rows.sortedAll_old) (Nat.le_succ _) ⟨hlen, out, ep, vals_back h3, he'⟩, rfl, ?_⟩
    have := q _ (s.heap.objs.size + 1) hp (List.pairwise_map.mpr h1) (I.hok.fresh (Nat.le_succ _))
    rw [em] at this
    exact this

/-! ### two names set at once from a pair that is written -/
def blkOf (sc : Scope) : ScopeKind := if sc.kind.isAnnotationScope then .function else sc.kind
def swOk (sc : Scope) (px py : Pos) (x y : Str) (a b : Expr) : Bool :=
  (blkOf sc == .function) && (sc.names.lookup x == some .local) && (sc.names.lookup y == some .local) && (py.line == px.line) && !(x == y) && !(foldedForSure 8 a && foldedForSure 8 b) && !(constantsAlone 8 a && constantsAlone 8 b) &&
    !([a, b].any fun | .Starred .. => true | _ => false)
def noSw (sc : Scope) : Expr → Bool
  | .Tuple [.Name x _, .Name _ _] _ _ => sc.names.lookup x == some .cell
  | _ => false
theorem no_stores {env : PySem.Env} {px py pt : Pos} {kt} {x y : Str} {v : Expr} (h : (env.scope.names.lookup x == some .cell) = true) :
    swappedStores [.Tuple [.Name x px, .Name y py] kt pt] v env = pure none := by
  have hx : (env.kindOf x == some .local) = false := by
    have e0 : (env.kindOf x == some .cell) = true := h
    have e : env.kindOf x = some .cell := by simpa using e0
    rw [e]; rfl
  unfold swappedStores
  have f : ∀ g : Expr → Option Str, g (.Name x px) = none → (List.filterMap g [Expr.Name x px, Expr.Name y py]).length ≠ 2 := fun g g1 => by
    rw [List.filterMap_cons_none g1]
    cases hg : g (.Name y py) <;> simp [hg]
  cases v with
  | Tuple vs k2 p2 =>
    simp only [List.length_cons, List.length_nil]
    split
    · rfl
    · split
      · rfl
      · refine if_pos ?_
        rw [Bool.or_eq_true]
        refine .inl ?_
        rw [bne_iff_ne]
        exact f _ (by simp [hx])
  | _ => rfl
theorem sw_stores {env : PySem.Env} {px py pt p2 : Pos} {kt k2} {x y : Str} {a b : Expr} (h : swOk env.scope px py x y a b = true) :
    swappedStores [.Tuple [.Name x px, .Name y py] kt pt] (.Tuple [a, b] k2 p2) env = pure (some [x, y]) := by
  unfold swOk at h
  simp only [Bool.and_eq_true, Bool.not_eq_true'] at h
  obtain ⟨⟨⟨⟨⟨⟨⟨h1, h2⟩, h3⟩, h4⟩, h5⟩, h6⟩, h7⟩, h8⟩ := h
  have hb : (env.blockKind != .function) = false := by
    have : (env.blockKind == .function) = true := h1
    rw [bne, this]; rfl
  have hx : (env.kindOf x == some .local) = true := h2
  have hy : (env.kindOf y == some .local) = true := h3
  have hne : (y == x) = false := by
    rw [beq_eq_false_iff_ne] at h5 ⊢
    exact Ne.symm h5
  unfold swappedStores
  simp only [List.any_cons, List.any_nil, Bool.or_false] at h8
  have e8 : ([a, b].any fun | .Starred .. => true | _ => false) = false := by
    simp only [List.any_cons, List.any_nil, Bool.or_false]
    exact h8
  simp [hb, e8, hx, hy, h4, h5, hne, h6, h7, List.eraseDups, List.eraseDupsBy, List.eraseDupsBy.loop, Expr.pos]
  have hx' : env.kindOf x = some .local := by simpa using hx
  have hy' : env.kindOf y = some .local := by simpa using hy
  have h4' : py.line = px.line := by simpa using h4
  have f : ∀ g : Expr → Option Str, g (.Name x px) = some x → g (.Name y py) = some y → List.filterMap g [Expr.Name x px, Expr.Name y py] = [x, y] := fun g g1 g2 => by simp [g1, g2]
  rw [Bool.or_eq_false_iff] at h8
  refine (if_neg ?_).trans ?_
  · rintro (h | h)
    · split at h
      · have := h8.1; simp at this
      · cases h
    · split at h
      · have := h8.2; simp at this
      · cases h
  · rw [f _ (by simp [hx']) (by simp [hy', h4'])]
    simp [List.eraseDupsBy.loop, hne, h5]
end Zn

/-! Zn, part 3: does a tree stand for a text? -/
namespace Zn
open PySem PySem.Spec PyProof.Rows L2

def visB (sc : Scope) (x : Str) : Bool :=
  match sc.names.lookup x with
  | some .local => true
  | some .cell => true
  | some .free => true
  | _ => false
def wrB (sc : Scope) (x : Str) : Bool :=
  match sc.names.lookup x with
  | some .local => true
  | some .cell => true
  | _ => false
def glB (sc : Scope) (x : Str) : Bool :=
  match sc.names.lookup x with
  | some .globalImplicit => true
  | _ => false
def nmOk (x : Str) : Bool := !(x == ("__debug__" : Str)) && !(x == ("__classdict__" : Str)) && !(x == ("__name__" : Str))
theorem visB_ok {sc : Scope} {x : Str} (h : visB sc x = true) : Vis sc x := by
  unfold visB at h
  split at h
  · exact .inl (by assumption)
  · exact .inr (.inl (by assumption))
  · exact .inr (.inr (by assumption))
  · cases h
theorem wrB_ok {sc : Scope} {x : Str} (h : wrB sc x = true) : Loc sc x := by
  unfold wrB at h
  split at h
  · exact .inl (by assumption)
  · exact .inr (by assumption)
  · cases h
theorem glB_ok {sc : Scope} {x : Str} (h : glB sc x = true) : sc.names.lookup x = some .globalImplicit := by
  unfold glB at h
  split at h
  · assumption
  · cases h
theorem nmOk_ok {x : Str} (h : nmOk x = true) : (x == ("__debug__" : Str)) = false ∧ (x == ("__classdict__" : Str)) = false ∧ x ≠ ("__name__" : Str) := by
  unfold nmOk at h
  simp only [Bool.and_eq_true, Bool.not_eq_true'] at h
  exact ⟨h.1.1, h.1.2, fun e => by rw [e] at h; simp at h⟩

def bName : Blt → Str
  | .len => "len"
  | .sum => "sum"
  | .all => "all"
  | .tuple => "tuple"
  | .list => "list"
  | .int => "int"
  | .min => "min"
  | .max => "max"
  | .sorted => "sorted"
  | .str => "str"
def mName : Mth → Str
  | .append => "append"
  | .extend => "extend"
  | .pop => "pop"
  | .popAt => "pop"
  | .reverse => "reverse"
  | .clear => "clear"
  | .insert => "insert"
  | .count => "count"
  | .index => "index"
def mAr : Mth → Nat
  | .append => 1
  | .extend => 1
  | .pop => 0
  | .popAt => 1
  | .reverse => 0
  | .clear => 0
  | .insert => 2
  | .count => 1
  | .index => 1
def bltNames : List Str := ["len", "sum", "all", "tuple", "list", "int", "bool", "str", "isinstance", "range", "enumerate", "reversed", "min", "max", "sorted", "set", "ValueError", "zip", "dict"]

def tst : T → Bool
  | .ite _ _ _ => false
  | .nt a => tst a
  | .bop _ es => tst es
  | .cons e es => tst e && tst es
  | .frz _ => false
  | _ => true
def isComp : Expr → Bool
  | .ListComp _ _ _ _ => true
  | _ => false
def pl : Expr → Bool
  | .Name _ _ => true
  | .Constant _ _ _ => true
  | .BinOp _ _ _ _ => true
  | .UnaryOp _ _ _ => true
  | .Compare _ _ _ _ => true
  | .BoolOp _ _ _ => true
  | .IfExp _ _ _ _ => true
  | .Tuple _ _ _ => true
  | .List _ _ => true
  | .Dict _ _ _ => true
  | .Subscript _ _ _ => true
  | .Call _ _ _ _ => true
  | .ListComp _ _ _ _ => true
  | .Attribute _ _ _ => true
  | _ => false
def atB : Expr → Bool
  | .Call _ _ _ _ => false
  | _ => true
def atBB : Expr → Bool
  | .Call _ [] _ _ => false
  | _ => true
def conB (d : D) (c : Const) : Bool :=
  match d, c with
  | .non, .none => true
  | .bl b, .bool b' => b == b'
  | .int i, .int j => decide (i = j)
  | .str s, .str s' => decide (s = s')
  | _, _ => false
def chkN (N : List Str) (sc : Scope) : T → Expr → Bool
  | .tnm i, .Name x _ => decide (N[i]? = some x) && wrB sc x
  | .ttp ts, .Tuple es _ _ => chkNs N sc ts es
  | _, _ => false
where chkNs (N : List Str) (sc : Scope) : T → List Expr → Bool
  | .nil, [] => true
  | .cons (.tnm i) ts, .Name x _ :: es => decide (N[i]? = some x) && wrB sc x && chkNs N sc ts es
  | _, _ => false

def isEn : T → Bool
  | .senum _ => true
  | .szip _ _ => true
  | _ => false
def isTupE : Expr → Bool
  | .Tuple _ _ _ => true
  | _ => false
def tgOk (src : T) (g : Expr) : Bool := !isEn src || isTupE g
section
variable (N : List Str) (Fs : List Fn)
def chkC1 (sc : Scope) (c : Nat) : Expr → Bool
  | .Name z _ => decide (cn c = z) && glB sc z && decide (c ≤ 7)
  | _ => false
def chkCs (sc : Scope) : List Nat → List Expr → Bool
  | [], [] => true
  | c :: cs, e :: es => chkC1 sc c e && chkCs sc cs es
  | _, _ => false
def chkZ (sc : Scope) (cs : List Nat) : Expr → Bool
  | .Tuple es _ _ => chkCs sc cs es && decide (cs.length ≤ 100)
  | z => chkCs sc cs [z]
mutual
def chkE (sc : Scope) : T → Expr → Bool
  | .var i, ex => match ex with
    | .Name x _ => decide (N[i]? = some x) && visB sc x && nmOk x
    | _ => false
  | .con d, ex => match ex with
    | .Constant c _ _ => conB d c
    | _ => false
  | .gi f i, ex => match ex with
    | .Name x _ => (match Fs[f]? with
      | some fn => fn.isI x i
      | none => false) && glB sc x && nmOk x
    | _ => false
  | .gsv f s, ex => match ex with
    | .Name x _ => (match Fs[f]? with
      | some fn => fn.isS x s
      | none => false) && glB sc x && nmOk x
    | _ => false
  | .bin _ op a b, ex => match ex with
    | .BinOp l o r _ => decide (op = o) && chkE sc a l && chkE sc b r
    | _ => false
  | .neg a, ex => match ex with
    | .UnaryOp .USub o _ => chkE sc a o
    | _ => false
  | .cmp op a b, ex => match ex with
    | .Compare l [o] [r] _ => decide (op = o) && chkE sc a l && chkE sc b r && pl r
    | _ => false
  | .cmp2 op op' a b c, ex => match ex with
    | .Compare l [o, o'] [r, r'] _ => decide (op = o) && decide (op' = o') && chkE sc a l && chkE sc b r && chkE sc c r' && pl r'
    | _ => false
  | .bop o es, ex => match ex with
    | .BoolOp o' vs _ => decide (o = o') && chkEs sc es vs && !vs.isEmpty
    | _ => false
  | .nt a, ex => match ex with
    | .UnaryOp .Not o _ => chkE sc a o
    | _ => false
  | .ite c a b, ex => match ex with
    | .IfExp t l r _ => chkE sc c t && tst c && chkE sc a l && chkE sc b r
    | _ => false
  | .tup es, ex => match ex with
    | .Tuple vs _ _ => chkEs sc es vs
    | _ => false
  | .lst _ es, ex => match ex with
    | .List vs _ => chkEs sc es vs
    | _ => false
  | .dct1 k v, ex => match ex with
    | .Dict [some k'] [v'] _ => chkE sc k k' && chkE sc v v'
    | _ => false
  | .sub a i, ex => match ex with
    | .Subscript l r _ => chkE sc a l && chkE sc i r && pl r
    | _ => false
  | .slc _ a lo hi, ex => match ex with
    | .Subscript l (.Slice u w none _) _ => chkE sc a l && chkO sc lo u && chkO sc hi w
    | _ => false
  | .call f _ es, ex => match ex with
    | .Call (.Name x _) (v :: vs) [] _ => (match Fs[f]? with
      | some fn => (decide (fn.name = x) || Fs.any fun a => a.isAl x fn.name) && !fn.isC && !fn.isM
      | none => false) && glB sc x && nmOk x && chkEs sc es (v :: vs)
    | _ => false
  | .blt b _ es, ex => match ex with
    | .Call (.Name x _) (v :: vs) [] _ => decide (bName b = x) && glB sc x && chkEs sc es (v :: vs)
    | _ => false
  | .isi a ty, ex => match ex with
    | .Call (.Name x _) [v, .Name y _] [] _ => decide (x = ("isinstance" : Str)) && decide (y = Str.ofString ty) && isiK ty && glB sc x && glB sc y && chkE sc a v && pl v
    | _ => false
  | .isi2 a ty ty', ex => match ex with
    | .Call (.Name x _) [v, .Tuple [.Name y _, .Name z _] _ _] [] _ => decide (x = ("isinstance" : Str)) && decide (y = Str.ofString ty) && isiK ty && decide (z = Str.ofString ty') && isiK ty' && glB sc x && glB sc y && glB sc z && chkE sc a v && pl v
    | _ => false
  | .comp _ src tg own cond elt, ex => match ex with
    | .ListComp elt' [⟨tg', iter, ifs, k⟩] scope _ => decide (k = 0) && chkW sc src iter && blkC N sc scope own && chkN N scope tg tg' && (slots tg).all (fun i => decide (i ∈ own.map (·.2))) && chkC (relS scope sc) cond ifs && chkE (relS scope sc) elt elt' && tgOk src tg'
    | _ => false
  | .rev _ a, ex => match ex with
    | .Subscript l (.Slice none none (some (.UnaryOp .USub (.Constant (.int 1) _ _) _)) _) _ => chkE sc a l
    | _ => false
  | .suq _ a, ex => match ex with
    | .Call (.Name x _) [.Call (.Name y _) [v] [] _] [] _ => decide (x = ("sorted" : Str)) && decide (y = ("set" : Str)) && glB sc x && glB sc y && chkE sc a v && pl v
    | _ => false
  | .mmd g a, ex => match ex with
    | .Call (.Name x _) [v] [⟨some y, .Constant .none _ _, _⟩] _ => decide (x = (if g = true then ("max" : Str) else ("min" : Str))) && decide (y = ("default" : Str)) && glB sc x && chkE sc a v && pl v
    | _ => false
  | .cmp4 op op' op'' a b c d, ex => match ex with
    | .Compare l [o, o', o''] [r, r', r''] _ => decide (op = o) && decide (op' = o') && decide (op'' = o'') && chkE sc a l && chkE sc b r && chkE sc c r' && chkE sc d r'' && pl r''
    | _ => false
  | .lrng _ a, ex => match ex with
    | .Call (.Name x _) [.Call (.Name y _) [v] [] _] [] _ => decide (x = ("list" : Str)) && decide (y = ("range" : Str)) && glB sc x && glB sc y && chkE sc a v && pl v
    | _ => false
  | .frz a, ex => chkE sc a ex && !isComp ex
  | .isxv a cs, ex => match ex with
    | .Call (.Name f _) [v, z] [] _ => decide (f = ("isinstance" : Str)) && glB sc f && chkE sc a v && pl v && chkZ sc cs z && (List.range 7).any (rzB Fs)
    | _ => false
  | .fldn a, ex => match ex with
    | .Attribute v x _ => decide (x = ("number" : Str)) && chkE sc a v && atB v && pl v
    | _ => false
  | .fld c k a, ex => match ex with
    | .Attribute v x _ => decide ((fdN c)[k]? = some x) && chkE sc a v && atB v && pl v
    | _ => false
  | .meth c f _ o es, ex => match ex with
    | .Call (.Attribute v x apos) vs [] pos => (match Fs[f]? with
      | some fn => decide (fn.name = x) && !fn.isC && fn.isM && decide (clsM x = c) && decide (x ∉ fdN c)
      | none => false) && (apos.endLine == pos.line) && chkE sc o v && atB v && pl v && chkEs sc es vs && decide (vs.length < 20)
    | _ => false
  | .mkI c a, ex => match ex with
    | .Call (.Name x _) [v] [] _ => decide (clN c = x) && decide (c < 2) && usesC Fs c && glB sc x && nmOk x && chkE sc a v && pl v
    | _ => false
  | .smth k _ o e, ex => match ex with
    | .Call (.Attribute v x apos) [w] [] pos => decide (x = (if k = 0 then ("join" : Str) else ("split" : Str))) && (apos.endLine == pos.line) && chkE sc o v && atB v && chkE sc e w && pl w
    | _ => false
  | .lrs es, ex => match ex with
    | .List vs _ => chkEs sc es vs
    | _ => false
  | .dnew, ex => match ex with
    | .Dict [] [] _ => true
    | _ => false
  | .dct0, ex => match ex with
    | .Dict [] [] _ => true
    | _ => false
  | .dget o k z, ex => match ex with
    | .Call (.Attribute v x apos) [e, f] [] pos => decide (x = ("get" : Str)) && (apos.endLine == pos.line) && chkE sc o v && atB v && chkE sc k e && pl e && chkE sc z f && pl f
    | _ => false
  | .dgt1 o k, ex => match ex with
    | .Call (.Attribute v x apos) [e] [] pos => decide (x = ("get" : Str)) && (apos.endLine == pos.line) && chkE sc o v && atBB v && chkE sc k e && pl e
    | _ => false
  | .dof a, ex => match ex with
    | .Call (.Name x _) [v] [] _ => decide (x = ("dict" : Str)) && glB sc x && chkE sc a v && pl v
    | _ => false
  | .ditems _ a, ex => match ex with
    | .Call (.Name x _) [.Call (.Attribute v y apos) [] [] pos] [] _ => decide (x = ("sorted" : Str)) && decide (y = ("items" : Str)) && (apos.endLine == pos.line) && glB sc x && chkE sc a v && atB v
    | _ => false
  | .mth k o es, ex => match ex with
    | .Call (.Attribute v x apos) vs [] pos => decide (mName k = x) && (apos.endLine == pos.line) && chkE sc o v && atB v && chkEs sc es vs && decide (vs.length = mAr k)
    | _ => false
  | _, _ => false
def chkEs (sc : Scope) : T → List Expr → Bool
  | .nil, vs => vs.isEmpty
  | .cons e es, vs => match vs with
    | v :: vs => pl v && chkE sc e v && chkEs sc es vs
    | _ => false
  | _, _ => false
def chkO (sc : Scope) : T → Option Expr → Bool
  | .no, v => v.isNone
  | .so e, v => match v with
    | some v => chkE sc e v
    | none => false
  | _, _ => false
def chkC (sc : Scope) : T → List Expr → Bool
  | .no, vs => vs.isEmpty
  | .so e, vs => match vs with
    | [v] => chkE sc e v && tst e
    | _ => false
  | _, _ => false
def chkW (sc : Scope) : T → Expr → Bool
  | .sit e, ex => chkE sc e ex && pl ex
  | .srng k es, ex => match ex with
    | .Call (.Name x _) vs [] _ => decide (x = ("range" : Str)) && glB sc x && chkEs sc es vs && decide (vs.length = k) && decide (k = 1 ∨ k = 2 ∨ k = 3)
    | _ => false
  | .senum e, ex => match ex with
    | .Call (.Name x _) [v] [] _ => decide (x = ("enumerate" : Str)) && glB sc x && chkE sc e v && pl v
    | _ => false
  | .srev e, ex => match ex with
    | .Call (.Name x _) [v] [] _ => decide (x = ("reversed" : Str)) && glB sc x && chkE sc e v && pl v
    | _ => false
  | .szip a b, ex => match ex with
    | .Call (.Name x _) [v, w] [] _ => decide (x = ("zip" : Str)) && glB sc x && chkE sc a v && pl v && chkE sc b w && pl w
    | _ => false
  | _, _ => false
end
def chkG (sc : Scope) : T → Expr → Bool
  | .tnm i, ex => match ex with
    | .Name x _ => decide (N[i]? = some x) && wrB sc x
    | _ => false
  | .tix a i, ex => match ex with
    | .Subscript l r _ => chkE N Fs sc a l && chkE N Fs sc i r && pl r
    | _ => false
  | .ttp ts, ex => match ex with
    | .Tuple es _ _ => chkGs sc ts es
    | _ => false
  | _, _ => false
where chkGs (sc : Scope) : T → List Expr → Bool
  | .nil, es => es.isEmpty
  | .cons t ts, es => match es with
    | e :: es => chkG sc t e && chkGs sc ts es
    | _ => false
  | _, _ => false
def swapped : T → Expr → Bool
  | .ttp _, .Tuple _ _ _ => true
  | _, _ => false
mutual
def chkH (sc : Scope) (i : Nat) : T → Expr → Bool
  | .isx cs, ex => match ex with
    | .Call (.Name f _) [.Name y _, z] [] _ => decide (f = ("isinstance" : Str)) && glB sc f && decide (N[i]? = some y) && visB sc y && nmOk y && chkZ sc cs z
    | _ => false
  | .var j, ex => match ex with
    | .Name x _ => decide (N[j]? = some x) && visB sc x && nmOk x
    | _ => false
  | .lst _ es, ex => match ex with
    | .List vs _ => chkHs sc i es vs
    | _ => false
  | .hfld, ex => match ex with
    | .Attribute (.Name y _) x _ => decide (x = ("number" : Str)) && decide (N[i]? = some y) && visB sc y && nmOk y
    | _ => false
  | .con d, ex => match ex with
    | .Constant c _ _ => conB d c
    | _ => false
  | .tup es, ex => match ex with
    | .Tuple vs _ _ => chkHs sc i es vs
    | _ => false
  | .sub a (.con (.int k)), ex => match ex with
    | .Subscript l r _ => chkH sc i a l && chkH sc i (.con (.int k)) r && pl r
    | _ => false
  | _, _ => false
def chkHs (sc : Scope) (i : Nat) : T → List Expr → Bool
  | .nil, vs => vs.isEmpty
  | .cons e es, vs => match vs with
    | v :: vs => pl v && chkH sc i e v && chkHs sc i es vs
    | _ => false
  | _, _ => false
end
mutual
def chkX (sc : Scope) (i : Nat) : T → Stmt → Bool
  | .sset (.tnm j) e, s => match s with
    | .Assign [.Name x _] v _ => decide (j ≠ i) && decide (N[j]? = some x) && wrB sc x && chkH N sc i e v && pl v
    | _ => false
  | .sexp (.mth .append (.var j) (.cons e .nil)), s => match s with
    | .Expr (.Call (.Attribute (.Name y py) x apos) [v] [] pos) _ => decide (x = ("append" : Str)) && (apos.endLine == pos.line) && chkH N sc i (.var j) (.Name y py) && chkH N sc i e v && pl v
    | _ => false
  | .sif (.isx cs) a b, s => match s with
    | .If t l r _ => chkH N sc i (.isx cs) t && chkXs sc i a l && chkXs sc i b r
    | _ => false
  | _, _ => false
def chkXs (sc : Scope) (i : Nat) : T → List Stmt → Bool
  | .nil, ss => ss.isEmpty
  | .cons s ss, l => match l with
    | x :: l => chkX sc i s x && chkXs sc i ss l
    | _ => false
  | _, _ => false
end
mutual
def chkS (sc : Scope) : T → Stmt → Bool
  | .sset tg e, s => match s with
    | .Assign [g] v _ => chkG N Fs sc tg g && chkE N Fs sc e v && pl v && (!swapped tg v || noSw sc g)
    | _ => false
  | .sexp e, s => match s with
    | .Expr v _ => chkE N Fs sc e v && pl v && !isComp v
    | _ => false
  | .sret e, s => match s with
    | .Return (some v) _ => chkE N Fs sc e v
    | _ => false
  | .sretn, s => match s with
    | .Return none _ => true
    | _ => false
  | .sif c a b, s => match s with
    | .If t l r _ => chkE N Fs sc c t && tst c && chkSs sc a l && chkSs sc b r
    | _ => false
  | .swhile c b, s => match s with
    | .While t l [] _ => chkE N Fs sc c t && tst c && chkSs sc b l
    | _ => false
  | .sfor src tg b, s => match s with
    | .For g iter l [] _ => chkW N Fs sc src iter && chkG N Fs sc tg g && chkSs sc b l && tgOk src g
    | _ => false
  | .sbrk, s => match s with
    | .Break _ => true
    | _ => false
  | .scnt, s => match s with
    | .Continue _ => true
    | _ => false
  | .spass, s => match s with
    | .Pass _ => true
    | _ => false
  | .sdead, _ => true
  | .spar i j a b, s => match s with
    | .Assign [.Tuple [.Name x px, .Name y py] _ _] (.Tuple [v, w] _ _) _ => decide (i ≠ j) && decide (N[i]? = some x) && decide (N[j]? = some y) && chkE N Fs sc a v && pl v && chkE N Fs sc b w && pl w && swOk sc px py x y v w
    | _ => false
  | .saug a i e, s => match s with
    | .AugAssign (.Subscript l r _) .Add v _ => chkE N Fs sc a l && chkE N Fs sc i r && pl r && chkE N Fs sc e v && pl v
    | _ => false
  | .sraise c, s => match s with
    | .Raise (some (.Call (.Name x _) [.Constant (.str _) _ _] [] _)) none _ => decide (cn c = x) && glB sc x && nmOk x && rzB Fs c && decide (c ≠ 1)
    | _ => false
  | .sraiseN c e, s => match s with
    | .Raise (some (.Call (.Name x _) [v] [] _)) none _ => decide (cn c = x) && glB sc x && nmOk x && rzB Fs c && decide (c = 1) && chkE N Fs sc e v && pl v
    | _ => false
  | .stry b c i h, s => match s with
    | .Try body [.ExceptHandler (some (.Name x _)) (some n) (s0 :: ss) _] [] [] _ => chkSs sc b body && decide (cn c = x) && glB sc x && nmOk x && decide (c < 7) && (List.range 7).any (rzB Fs) && decide (N[i]? = some n) && decide (sc.names.lookup n = some .local) && chkXs N sc i h (s0 :: ss)
    | _ => false
  | .stryv b c i j, s => match s with
    | .Try body [.ExceptHandler (some (.Name x _)) (some n) [.Assign [.Name m _] (.Name n2 _) _] _] [] [] _ => chkSs sc b body && decide (cn c = x) && glB sc x && nmOk x && decide (c < 7) && (List.range 7).any (rzB Fs) && decide (N[i]? = some n) && decide (sc.names.lookup n = some .local) && decide (n2 = n) && nmOk n && decide (i ≠ j) && decide (N[j]? = some m) && wrB sc m
    | _ => false
  | _, _ => false
def chkSs (sc : Scope) : T → List Stmt → Bool
  | .nil, ss => ss.isEmpty
  | .cons s ss, l => match l with
    | x :: l => chkS sc s x && chkSs sc ss l
    | _ => false
  | .sdead, _ => true
  | _, _ => false
end
end
end Zn

/-! Zn, part D: dicts: the rules over the model that the kit lacks. -/
namespace Zn
open PySem PySem.Spec PyProof.Rows L2
section
variable {X : Cx}
def rDIx : R2 := fun x y H Q => ∃ a v, x = .ref a ∧ DGet H a y (some v) ∧ Q v H
theorem ix_dict (hu : X.A.units + 1 < cLine) : IxR X rDIx := by
  intro value slice pins s σ H x y v u Q I rx ry h hs
  obtain ⟨a, w, rfl, g, q⟩ := h
  obtain rfl : v = Value.ref a := rx
  exact tail_any (dict_typeIs I g) PySem.F.slot_dict_getitem.lookup (d_getItem hu I g ry fun w' s3 I3 rw' => ⟨w, H, I3, rw', q⟩) hs
def rDIn : R2 := fun x y H Q => ∃ a o, y = .ref a ∧ DGet H a x o ∧ Q (.bl o.isSome) H
def rDNotIn : R2 := fun x y H Q => ∃ a o, y = .ref a ∧ DGet H a x o ∧ Q (.bl (!o.isSome)) H
theorem op_dIn (hu : X.A.units + 1 < cLine) : OpR X (compareOp .In) rDIn := by
  intro pins s σ H x y v u Q I rx ry h
  obtain ⟨a, o, rfl, g, q⟩ := h
  obtain rfl : u = Value.ref a := ry
  exact d_in hu I g rx fun s' I' => ⟨.bl _, H, I', rfl, q⟩
theorem op_dNotIn (hu : X.A.units + 1 < cLine) : OpR X (compareOp .NotIn) rDNotIn := by
  intro pins s σ H x y v u Q I rx ry h
  obtain ⟨a, o, rfl, g, q⟩ := h
  obtain rfl : u = Value.ref a := ry
  exact d_notIn hu I g rx fun s' I' => ⟨.bl _, H, I', rfl, q⟩
abbrev TPr := Addr × List Int × Addr × V
def PrAt (H : Hp) (t : TPr) : Prop := H t.1 = some (.tup [V.ref t.2.2.1, t.2.2.2]) ∧ H t.2.2.1 = some (.tup (t.2.1.map V.int))
def PrV (t : TPr) (x : List Key × Addr × Value) : Prop := x.1 = t.2.1.map Sum.inl ∧ x.2.1 = t.2.2.1 ∧ RelV t.2.2.2 x.2.2
theorem map_kV (k : List Int) : (k.map Sum.inl).map kV = k.map V.int := by rw [List.map_map]; rfl
theorem inl_inj : ∀ {a b : List Int}, (a.map Sum.inl : List Key) = b.map Sum.inl → a = b
  | [], [], _ => rfl
  | [], _ :: _, h => by cases h
  | _ :: _, [], h => by cases h
  | x :: a, y :: b, h => by
    simp only [List.map_cons, List.cons.injEq] at h
    cases h.1
    rw [inl_inj h.2]
theorem prv_keys : ∀ {ts : List TPr} {ps : List (List Key × Addr × Value)}, Paired PrV ts ps → ps.map (·.1) = (ts.map fun t => t.2.1).map fun k => k.map Sum.inl
  | _, _, .nil => rfl
  | _, _, .cons h r => by rw [List.map_cons, List.map_cons, List.map_cons, h.1, prv_keys r]
theorem nodup_inl {ks : List (List Int)} (h : ks.Nodup) : (ks.map fun k => (k.map Sum.inl : List Key)).Nodup := by
  rw [List.nodup_iff_pairwise_ne, List.pairwise_map]
  exact List.Pairwise.imp (fun hne e => hne (inl_inj e)) h
theorem prv_dt {H : Hp} : ∀ {ts : List TPr} {ps : List (List Key × Addr × Value)}, (∀ t ∈ ts, PrAt H t) → Paired PrV ts ps → Paired (fun (p : List Key × V) (q : List Key × Addr × Value) => p.1 = q.1 ∧ H q.2.1 = some (.tup (p.1.map kV)) ∧ RelV p.2 q.2.2) (ts.map fun t => (t.2.1.map Sum.inl, t.2.2.2)) ps
  | _, _, _, .nil => .nil
  | t :: ts, _, ht, .cons h r => by
    refine .cons ⟨h.1.symm, ?_, h.2.2⟩ (prv_dt (fun t hm => ht t (List.mem_cons_of_mem _ hm)) r)
    rw [h.2.1, map_kV]
    exact (ht t List.mem_cons_self).2
theorem prs_of {pins : List (Addr × Obj)} {σ : L2.St} {H : Hp} {s : Shared} (I : Inv X pins σ H s) : ∀ (ts : List TPr), (∀ t ∈ ts, PrAt H t) → ∃ ps : List (List Key × Addr × Value), Paired PrV ts ps ∧
      (∀ (j : Nat) (x : List Key × Addr × Value), ps[j]? = some x → ∃ t, ts[j]? = some t ∧ s.heap.IsTuple t.1 #[.ref x.2.1, x.2.2]) ∧ ∀ x ∈ ps, (tupleKind (mixKind X.prog X.w)).is s.heap x.1 x.2.1
  | [], _ => ⟨[], .nil, fun j x h => by simp at h, fun x h => by simp at h⟩
  | t :: ts, ht => by
    obtain ⟨ps, h1, h2, h3⟩ := prs_of I ts fun t h => ht t (List.mem_cons_of_mem _ h)
    obtain ⟨k1, k2⟩ := ht t List.mem_cons_self
    obtain ⟨_, its2, rv2, hp2⟩ := (show ObjOk X.prog X.w H s.heap t.1 (.tup [V.ref t.2.2.1, t.2.2.2]) from I.hok _ _ k1)
    cases rv2 with
    | cons r1 r2 =>
      cases r2 with
      | cons r3 r4 =>
        cases r4
        obtain rfl := (show _ = Value.ref t.2.2.1 from r1)
        rename_i v
        refine ⟨(t.2.1.map Sum.inl, t.2.2.1, v) :: ps, .cons ⟨rfl, rfl, r3⟩ h1, fun j x h => ?_, fun x h => ?_⟩
        · cases j with
          | zero => cases h; exact ⟨t, rfl, hp2⟩
          | succ j => exact h2 j x h
        · rcases List.mem_cons.mp h with rfl | h
          · exact key_of I.hok (by rw [map_kV]; exact k2)
          · exact h3 x h
def rDictT (K : PySem.W.Frag) : List V → Hp → VK → Prop := fun xs H Q => ∃ (l : Addr) (ts : List TPr), xs = [V.ref l] ∧ SqL K H l ((ts.map (·.1)).map V.ref) ∧ (∀ t ∈ ts, PrAt H t) ∧ (ts.map fun t => t.2.1).Nodup ∧
  ∀ p, H p = none → Q (.ref p) (upd H p (.dT (ts.map fun t => (t.2.1.map Sum.inl, t.2.2.2))))
theorem cr_dictT (hc : X.calm = true) (hu : X.A.units + 2 < cLine) : CallR X (.type "dict") (rDictT X.K) := by
  intro pins s σ H xs us Q I r h
  obtain ⟨l, ts, rfl, hl, ht, nd, q⟩ := h
  obtain rfl := Vals.ref1 r
  obtain ⟨its, rv, pl, hz⟩ := I.list hl
  rw [List.length_map, List.length_map] at hz
  have ev := refs_at rv
  subst ev
  obtain ⟨ps, hps, hrel, hkey⟩ := prs_of I ts ht
  have hlen : ts.length = ps.length := Paired.length hps
  have nd2 : (ps.map (·.1)).Nodup := by rw [prv_keys hps]; exact nodup_inl nd
  obtain ⟨o, n, ho, hcl, hd, hdat⟩ := pl
  have hTs : ∀ (j : Nat) (t : TPr), ts[j]? = some t → (ts.map (·.1)).getD j 0 = t.1 := fun j t h => by
    rw [List.getD_eq_getElem?_getD, List.getElem?_map, h]; rfl
  refine call_dict_pairsH (knd := tupleKind (mixKind X.prog X.w)) (ps := ps) (PairArg.list l ((ts.map (·.1)).map Value.ref).toArray (fun j => (ts.map (·.1)).getD j 0) (ps.map fun x => (Value.ref x.2.1, x.2.2))) (I.ok.hd hc) ?_ ⟨⟨o, n, ho, hcl, hd, hdat⟩, ?_⟩ ⟨by simp, ?_⟩ ?_ ?_ fun h' tk hd' hk => ?_
  · show X.A.units + 1 + 1 < cLine
    exact hu
  · refine ⟨by simp [hlen], fun j k v hj => ?_⟩
    rw [List.getElem?_map] at hj
    obtain ⟨x, hx, e⟩ := Option.map_eq_some_iff.mp hj
    cases e
    obtain ⟨t, h1, h2⟩ := hrel j x hx
    dsimp only
    rw [hTs j t h1]
    refine ⟨?_, .inl h2⟩
    rw [List.getElem?_toArray, List.getElem?_map, List.getElem?_map, h1]
    rfl
  · intro j k v hj
    have hj : (ps.map fun x => (Value.ref x.2.1, x.2.2))[j]? = some (k, v) := hj
    rw [List.getElem?_map] at hj
    obtain ⟨x, hx, e⟩ := Option.map_eq_some_iff.mp hj
    cases e
    exact ⟨x.1, x.2.1, by rw [hx], rfl⟩
  · intro h' hk x hx
    exact tupleKind_stays.stays (fun b o vs n e _ => hk b o (Nat.ne_of_lt (Heap.lt_size e)) (fun z => nomatch z) e) (hkey x hx)
  · rw [List.length_map, ← hlen]
    exact hz
  · rw [storedAllH_nil_of_nodup ps nd2] at hd'
    have hn := I.hok.fresh (Nat.le_refl s.heap.objs.size)
    have kk : ∀ b u, s.heap.get? b = some u → h'.get? b = some u := fun b u e => hk b u (fun z => nomatch z) e
    have hm : (s.heap.objs.size == sysModules) = false := beq_eq_false_iff_ne.mpr (Nat.ne_of_gt I.big)
    obtain ⟨od, es, ep, d1, d2, d3, d4, d5, d6⟩ := hd'
    refine ⟨.ref s.heap.objs.size, upd H s.heap.objs.size (.dT (ts.map fun t => (t.2.1.map Sum.inl, t.2.2.2))), I.laid (t' := tk) kk (Nat.le_refl _) ?_, rfl, q _ hn⟩
    refine ⟨by rw [List.length_map]; exact hz, hm, ps, prv_dt (fun t htm => ?_) hps, od, es, ep, d1, d2, d3, d4, d6⟩
    obtain ⟨k1, k2⟩ := ht t htm
    exact ⟨by rw [upd_ne (ne_of_none k1 hn)]; exact k1, by rw [upd_ne (ne_of_none k2 hn)]; exact k2⟩

/-! ### sorted(d), sorted(d.items()), d from whole numbers to whole numbers -/
def rSortDI : List V → Hp → VK → Prop := fun xs H Q => ∃ (a : Addr) (kvs : List (Int × Int)), xs = [V.ref a] ∧ H a = some (.dK (dkV kvs)) ∧
    ∀ (ys : List Int) (p : Addr), ys.Perm (kvs.map (·.1)) → ys.Pairwise (· ≤ ·) → H p = none → Q (.ref p) (upd H p (.lst (ys.map V.int)))
theorem cr_sortDI (hcalm : X.calm = true) : CallR X (.builtin "sorted") rSortDI := by
  intro pins s σ H xs us Q I r q
  obtain ⟨a, kv, ex, hd, q⟩ := q
  subst ex
  obtain rfl := Vals.ref1 r
  obtain ⟨z, lo, vs, rel, dd⟩ := dk_of I.hok hd
  obtain ⟨ep, hat⟩ := dd.dictAt
  have hkeys : vs.map (·.1) = (kv.map (·.1)).map Sum.inl := by
    rw [← rel.keys, dkV, List.map_map, List.map_map]
    rfl
  have hl : vs.length = (kv.map (·.1)).length := by
    have e := congrArg List.length hkeys
    rw [List.length_map, List.length_map] at e
    exact e
  have h16 : vs.length ≤ sizeLine := by rw [← rel.length]; exact z
  refine Calls.call_function_entry PyProof.Rows.kind_sorted PyProof.Rows.plain_sorted PyProof.Rows.entry_sorted (PyProof.Rows.args_sorted1 _) ?_
  unfold Builtin.«sorted»
  refine wpAny_bind (m := checkCount "sorted" 1 1 _) (wpAny_pure ?_)
  refine wpAny_bind (PySem.W.kdu_collect (A := X.A.in1) (PySem.W.kdl_dict (knd := mixKind X.prog X.w) (kvs := vs) (ep := ep) lo) (I.ok.hd hcalm) hat h16 fun h' tk acc hk hacc => ?_)
  have hal : acc.toList.length = (kv.map (·.1)).length := by rw [Array.length_toList, hacc.1, hl]
  have hS : IntsAre acc.toList (kv.map (·.1)) := ints_each hal fun j v e => by
    obtain ⟨k, x, e1, e2⟩ := hacc.2 j v (by rw [← Array.getElem?_toList]; exact e)
    have e3 : (vs.map (·.1))[j]? = some k := by rw [List.getElem?_map, e1]; rfl
    rw [hkeys, List.getElem?_map] at e3
    cases e4 : (kv.map (·.1))[j]? with
    | none => rw [e4] at e3; cases e3
    | some y =>
      rw [e4] at e3
      have e5 : Sum.inl y = k := Option.some.inj e3
      subst e5
      rcases keyIs_shape (show keyIs (Sum.inl y) v = true from e2) with ⟨i, t, ek, ev⟩ | ⟨z, t, ek, ev⟩
      · cases ek
        exact ⟨y, t, rfl, ev⟩
      · cases ek
  have I1 : Inv X pins σ H { s with heap := h', toks := tk } := I.kept hk
  have hvz : acc.toList.length ≤ sizeLine := by rw [hal, ← hl]; exact h16
  refine wpAny_bind (wpAny_newList ?_ hvz)
  have hoL : (h'.push (seqObj "list" acc.toList.toArray 0)).get? h'.objs.size = some (seqObj "list" acc.toList.toArray 0) := Heap.get?_push_size _ rfl
  show wpAny _ _ _ _ _ { s with heap := h'.push (seqObj "list" acc.toList.toArray 0), toks := tk }
  refine wpAny_bind (wpAny_holding (wpAny_call_entry PyProof.Rows.slot_list_sort ⟨_, hoL, rfl⟩ PyProof.Rows.entry_list_sort
    (SrtO.list_sort_ord (s := { s with heap := h'.push (seqObj "list" acc.toList.toArray 0), toks := tk }) SrtO.swo_int hoL hvz (fun h2 => SrtO.ints_sortable hS h2) fun out h1 h2 => ⟨_, rfl, ?_⟩) (PyProof.Rows.args_list_sort _)))
  obtain ⟨k1', k2, k3⟩ := SrtO.ints_out hS h1 h2
  obtain ⟨c, hc⟩ := sortedHeap_at (vs := acc.toList) (out := out.toArray) hoL
  have hn : H h'.objs.size = none := I1.hok.fresh (Nat.le_refl _)
  have hlen : ((out.map SrtO.iv).map V.int).length ≤ sizeLine := by rw [List.length_map, k2.length_eq, ← hl]; exact h16
  refine wpAny_pure ⟨_, rfl, .ref h'.objs.size, upd H h'.objs.size (.lst ((out.map SrtO.iv).map V.int)), I1.laid (t' := tk) (fun b u e => ?_) (Nat.le_refl _) ⟨hlen, out, c, vals_of_ints k1', hc⟩, rfl, q _ _ k2 k3 hn⟩
  have hlt := Heap.lt_size e
  show (sortedHeap (h'.push (seqObj "list" acc.toList.toArray 0)) h'.objs.size acc.toList out.toArray).get? b = some u
  rw [sortedHeap_old (Nat.ne_of_lt hlt) (by rw [size_push']; exact Nat.lt_succ_of_lt hlt)]
  exact Heap.get?_push_of_some _ e
def rItemsK : V → List V → Hp → VK → Prop := fun x xs H Q => ∃ (a : Addr) (kvs : List (Key × V)), x = .ref a ∧ xs = [] ∧ H a = some (.dK kvs) ∧ ∀ p, H p = none → Q (.ref p) (upd H p (DX.itemsO p a))
theorem mt_itemsK : MtR X "dict.items" rItemsK := by
  intro pins s σ H x xs v us Q I rx rxs h
  obtain ⟨a, kvs, rfl, rfl, ha, q⟩ := h
  cases rx
  cases rxs
  obtain ⟨z, hd, xs', rel, o, es, ep, ho, hx, hdat, _⟩ := dk_of I.hok ha
  refine DT.callItems (es := es) (ep := ep) hd ⟨o, ho, hx, hdat⟩ ?_
  have hf : H s.heap.objs.size = none := I.hok.fresh (Nat.le_refl _)
  exact ⟨.ref s.heap.objs.size, upd H s.heap.objs.size (DX.itemsO s.heap.objs.size a), I.laid (t' := s.toks) (fun b u e => Heap.get?_push_of_some _ e) (Nat.le_refl _) (DX.itemsO_ok (Heap.get?_push_size _ rfl)), rfl, q _ hf⟩

open LiI in
theorem tups_laid {pins : List (Addr × Obj)} {σ : L2.St} {H : Hp} {s : Shared} {h' : Heap} {tk : Nat} {kvs : List (Key × V)} {as : List Addr} (I : Inv X pins σ H s) (hl : as.length = kvs.length) (nd : as.Nodup) (above : ∀ t ∈ as, s.heap.objs.size ≤ t)
    (hk : ∀ b o, s.heap.get? b = some o → h'.get? b = some o) (hp : ∀ (j : Nat) (t : Addr) (q : Key × V), as[j]? = some t → kvs[j]? = some q → ∃ key x, RelV (kV q.1) key ∧ RelV q.2 x ∧ h'.get? t = some { cls := .type "tuple", data := .seq #[key, x] }) :
    (∀ b o, H b = some o → putT H as kvs b = some o) ∧ Inv X pins σ (putT H as kvs) { s with heap := h', toks := tk } := by
  have new : ∀ t ∈ as, H t = none := fun t ht => I.hok.fresh (above t ht)
  have atP := putT_at as kvs H hl nd
  have low : ∀ b o, s.heap.get? b = some o → b ∉ as := fun b o e z => absurd (Heap.lt_size e) (Nat.not_lt.mpr (above b z))
  have kp : ∀ b u, H b = some u → (putT H as kvs) b = some u := fun b u e => by
    rw [putT_off as kvs _ (fun z => by rw [new b z] at e; cases e)]
    exact e
  refine ⟨kp, I.call' (ch := []) rfl ⟨fun b o q _ _ _ => hk b o q, fun b o q _ _ _ => ⟨o.slots, hk b o q⟩, fun b o q n _ => ?_, fun b o q _ => ⟨o, hk b o q⟩, fun b xs q => kp b _ q, fun b o u q => kp b _ q, fun b ps q => ⟨#[], by rw [kp b _ q]; simp⟩⟩ (fun b u q => ?_) I.bare fun b z => by simp at z⟩
  · rw [putT_off as kvs _ (low b o q)]
    exact n
  · by_cases hb : b ∈ as
    · obtain ⟨j, pk, e1, e2, e3⟩ := paired_ix atP hb
      rw [e3] at q
      cases q
      obtain ⟨key, x, f1, f2, f3⟩ := hp j b pk e1 e2
      exact ⟨by show 2 ≤ sizeLine; decide, [key, x], .cons f1 (.cons f2 .nil), ⟨_, f3, rfl, _, rfl⟩⟩
    · rw [putT_off as kvs _ hb] at q
      exact (I.hok b u q).stay (fun d v _ y => hk d v y) (fun d y => kp d _ y) fun d xs y => kp d _ y
def rSortIt : List V → Hp → VK → Prop := fun xs H Q => ∃ (p a : Addr) (kvs : List (Int × Int)), xs = [V.ref p] ∧ H p = some (DX.itemsO p a) ∧ H a = some (.dK (dkV kvs)) ∧
  ∀ (H' : Hp) (l : Addr) (ts : List (Addr × Int × Int)), (∀ b o, H b = some o → H' b = some o) → (ts.map (·.2)).Perm kvs → (ts.map fun t => [t.2.1, t.2.2]).Pairwise (fun x y => HT.lexLt y x = false) → H l = none →
    H' l = some (.lst (ts.map fun t => V.ref t.1)) → (∀ t ∈ ts, H' t.1 = some (.tup [.int t.2.1, .int t.2.2])) → Q (.ref l) H'
def bk3 (h : Heap) (v : Value) : Addr × Int × Int := (match v with
  | .ref a => a
  | _ => 0, (keyI h v).getD 0 0, (keyI h v).getD 1 0)
theorem cr_sortIt (hc : X.calm = true) : CallR X (.builtin "sorted") rSortIt := by
  intro pins s σ H xs us Q I r h
  obtain ⟨p, a, kvs, rfl, hp, ha, q⟩ := h
  obtain rfl := Vals.ref1 r
  have view : s.heap.IsItemsView p a := (show ObjOk X.prog X.w H s.heap p (DX.itemsO p a) from I.hok p _ hp).1
  obtain ⟨z, hd, vs, rel, o, es, ep, ho, hx, hdat, hko, hprs, hnd⟩ := dk_of I.hok ha
  have hh : X.A.handled = none := I.ok.hd hc
  have lkv : (dkV kvs).length = kvs.length := by rw [dkV, List.length_map]
  have l1 : (dkV kvs).length = vs.length := Paired.length rel
  have l2 : es.toList.length = vs.length := hprs.length
  rw [Array.length_toList] at l2
  refine DT.sortedI (es := es) (ep := ep) hh view ⟨o, ho, hx, hdat⟩ (by rw [l2, ← l1]; exact z) fun h' tk as hk hlt hl hG => ?_
  have nd : as.Nodup := List.Pairwise.imp (fun h => Nat.ne_of_lt h) hG.rise
  have hlk : as.length = kvs.length := by omega
  have above : ∀ t ∈ as, s.heap.objs.size ≤ t := fun t ht => Nat.le_of_lt (hG.above t ht)
  have pr : ∀ (j : Nat) (t : Addr) (q : Int × Int), as[j]? = some t → kvs[j]? = some q → ∃ t1 t2, h'.get? t = some { cls := .type "tuple", data := .seq #[Value.int q.1 t1, Value.int q.2 t2] } := by
    intro j t q' hj hq
    obtain ⟨e, he, hg⟩ := hG.pairs j t hj
    have hq2 : (dkV kvs)[j]? = some (Sum.inl q'.1, V.int q'.2) := by rw [dkV, List.getElem?_map, hq]; rfl
    obtain ⟨kv, hkv, hr1, hr2⟩ := LiI.paired_get rel hq2
    obtain ⟨k, v⟩ := kv
    have hk1 : Sum.inl q'.1 = k := hr1
    subst hk1
    obtain ⟨g1, g2⟩ := hprs.get? (by rw [Array.getElem?_toList]; exact he) hkv
    obtain ⟨t2, e2⟩ := (show ∃ t, v = Value.int q'.2 t from hr2)
    rcases keyIs_shape (show keyIs (Sum.inl q'.1) e.key = true from g1) with ⟨i, t1, ek, ev⟩ | ⟨z, t1, ek, ev⟩
    · cases ek
      exact ⟨t1, t2, by rw [hg, ev, g2, e2]⟩
    · cases ek
  obtain ⟨kp, I1⟩ := tups_laid (tk := tk) (kvs := dkV kvs) (as := as) I (by rw [hlk, lkv]) nd above hk fun j t q' hj hq => by
    rw [dkV, List.getElem?_map] at hq
    obtain ⟨q2, h1, h2⟩ := Option.map_eq_some_iff.mp hq
    subst h2
    obtain ⟨t1, t2, hg⟩ := pr j t q2 hj h1
    exact ⟨_, _, ⟨t1, rfl⟩, ⟨t2, rfl⟩, hg⟩
  have atP := LiI.putT_at as (dkV kvs) H (by rw [hlk, lkv]) nd
  obtain ⟨h2, hh2⟩ : ∃ h2, h2 = h'.push { cls := .type "list", data := .seq (as.map Value.ref).toArray } := ⟨_, rfl⟩
  have hob : h2.get? h'.objs.size = some (seqObj "list" (as.map Value.ref).toArray 0) := by rw [hh2]; exact Heap.get?_push_size _ rfl
  have ka : ∀ b o, h'.get? b = some o → h2.get? b = some o := fun b o e => by rw [hh2]; exact Heap.get?_push_of_some _ e
  have ti : ∀ (j : Nat) (t : Addr) (q : Int × Int), as[j]? = some t → kvs[j]? = some q → IsTI h2 (.ref t) [q.1, q.2] := fun j t q hj hq => by
    obtain ⟨t1, t2, hg⟩ := pr j t q hj hq
    exact ⟨t, _, #[Value.int q.1 t1, Value.int q.2 t2], 0, rfl, ka _ _ hg, rfl, rfl, .cons _ _ (.cons _ _ .nil), by simp⟩
  have at_ : ∀ v ∈ as.map Value.ref, ∃ (j : Nat) (t : Addr) (q : Int × Int), v = .ref t ∧ as[j]? = some t ∧ kvs[j]? = some q := fun v hv => by
    obtain ⟨t, ht, rfl⟩ := List.mem_map.mp hv
    obtain ⟨j, hj⟩ := List.mem_iff_getElem?.mp ht
    have hjl := (List.getElem?_eq_some_iff.mp hj).1
    exact ⟨j, t, kvs[j]'(by omega), rfl, hj, List.getElem?_eq_getElem (by omega)⟩
  have bk : ∀ (j : Nat) (t : Addr) (q : Int × Int), as[j]? = some t → kvs[j]? = some q → bk3 h2 (.ref t) = (t, q.1, q.2) := fun j t q hj hq => by
    unfold bk3
    rw [(ti j t q hj hq).keyI]
    rfl
  have hvz : (as.map Value.ref).length ≤ sizeLine := by rw [List.length_map, hlk, ← lkv]; exact z
  rw [← hh2]
  refine wpAny_call_entry PyProof.Rows.slot_list_sort ⟨_, hob, rfl⟩ PyProof.Rows.entry_list_sort
    (SrtO.list_sort_ord (s := { s with heap := h2, toks := tk }) (NtL.swo_lexL (keyI h2)) hob hvz (fun h3 => ti_sortable (s := { s with heap := h2, toks := tk }) (by omega) (fun v hv => by
      obtain ⟨j, t, q', rfl, hj, hq⟩ := at_ v hv
      rw [(ti j t q' hj hq).keyI]
      exact ti j t q' hj hq) (fun o e => by
      have e' : some o = some (seqObj "list" (as.map Value.ref).toArray 0) := e.symm.trans hob
      cases e'
      intro c
      exact absurd (Value.type.inj c) (by decide))) fun out h1 h3 => ⟨.none, rfl, ?_⟩) (PyProof.Rows.args_list_sort _)
  have hmem : ∀ v ∈ out, ∃ (j : Nat) (t : Addr) (q : Int × Int), v = .ref t ∧ as[j]? = some t ∧ kvs[j]? = some q := fun v hv => at_ v (h3.perm.mem_iff.mp hv)
  have hback : out.map (fun v => V.ref (bk3 h2 v).1) = out.map backV := List.map_congr_left fun v hv => by
    obtain ⟨j, t, q', rfl, hj, hq⟩ := hmem v hv
    rw [bk j t q' hj hq]
    rfl
  have hall : ∀ (n : Nat) (bs : List Addr) (ks : List (Int × Int)), bs.length = ks.length → (∀ (j : Nat) (t : Addr) (q : Int × Int), bs[j]? = some t → ks[j]? = some q → bk3 h2 (.ref t) = (t, q.1, q.2)) → (bs.map Value.ref).map (fun v => (bk3 h2 v).2) = ks := by
    intro _ bs
    induction bs with
    | nil => intro ks hl _; cases ks with
      | nil => rfl
      | cons _ _ => simp at hl
    | cons b bs ih =>
      intro ks hl hb
      cases ks with
      | nil => simp at hl
      | cons k ks =>
        rw [List.map_cons, List.map_cons, hb 0 b k rfl rfl, ih ks (by simpa using hl) fun j t q hj hq => hb (j + 1) t q hj hq]
  have hperm : (out.map fun v => (bk3 h2 v).2).Perm kvs := by
    have := h3.perm.map fun v => (bk3 h2 v).2
    rw [hall 0 as kvs hlk bk] at this
    exact this
  have hsrt : ((out.map (bk3 h2)).map fun t => [t.2.1, t.2.2]).Pairwise (fun x y => HT.lexLt y x = false) := by
    rw [List.map_map, List.pairwise_map]
    refine List.Pairwise.imp_of_mem (fun {u v} hu hv huv => ?_) h1
    obtain ⟨j, t, q', rfl, hj, hq⟩ := hmem u hu
    obtain ⟨j2, t2, q2, rfl, hj2, hq2⟩ := hmem v hv
    replace huv : HT.lexLt (keyI h2 (.ref t2)) (keyI h2 (.ref t)) = false := huv
    rw [(ti j t q' hj hq).keyI, (ti j2 t2 q2 hj2 hq2).keyI] at huv
    show HT.lexLt [(bk3 h2 (.ref t2)).2.1, (bk3 h2 (.ref t2)).2.2] [(bk3 h2 (.ref t)).2.1, (bk3 h2 (.ref t)).2.2] = false
    rw [bk j t q' hj hq, bk j2 t2 q2 hj2 hq2]
    exact huv
  obtain ⟨c, hcc⟩ := sortedHeap_at (vs := as.map Value.ref) (out := out.toArray) hob
  have hlen : (out.map backV).length ≤ sizeLine := by rw [List.length_map, h3.perm.length_eq]; exact hvz
  have hn1 := I1.hok.fresh (Nat.le_refl h'.objs.size)
  have hn0 : H h'.objs.size = none := I.hok.fresh (Nat.le_of_lt hlt)
  have h4 : ∀ u ∈ out, ∃ a, u = Value.ref a := fun u hu => by
    obtain ⟨j, t, q', rfl, _⟩ := hmem u hu
    exact ⟨t, rfl⟩
  refine ⟨.ref h'.objs.size, upd (LiI.putT H as (dkV kvs)) h'.objs.size (.lst (out.map backV)), I1.laid (t' := tk) (fun b u e => ?_) (Nat.le_refl _) ⟨hlen, out, c, vals_back h4, hcc⟩, rfl, ?_⟩
  · have hltb := Heap.lt_size e
    show (sortedHeap h2 h'.objs.size (as.map Value.ref) out.toArray).get? b = some u
    rw [sortedHeap_old (Nat.ne_of_lt hltb) (by rw [hh2, size_push']; exact Nat.lt_succ_of_lt hltb)]
    exact ka b u e
  · refine q _ _ (out.map (bk3 h2)) (fun b o e => ?_) (by rw [List.map_map]; exact hperm) hsrt hn0 (by rw [upd_same, List.map_map, ← hback]; rfl) fun t ht => ?_
    · rw [upd_ne (ne_of_none e hn0)]
      exact kp b o e
    · obtain ⟨v, hv, rfl⟩ := List.mem_map.mp ht
      obtain ⟨j, t, q', rfl, hj, hq⟩ := hmem v hv
      rw [bk j t q' hj hq]
      have hq2 : (dkV kvs)[j]? = some (Sum.inl q'.1, V.int q'.2) := by rw [dkV, List.getElem?_map, hq]; rfl
      obtain ⟨q3, e3, e4⟩ := LiI.paired_get atP hj
      rw [hq2] at e3
      cases e3
      rw [upd_ne (ne_of_none e4 hn1)]
      exact e4
end
end Zn

/-! Zn, part 4: what is wanted behind an evaluation; the operators keep it. -/
namespace Zn
open PySem PySem.Spec PyProof.Rows L2

structure RE (K : PySem.W.Frag) (s : Sit) (env : Env) (σ : L2.St) : Prop where
  len : env.length = σ.length
  at_ : ∀ (i : Nat) (d : D), env[i]? = some (some d) → ∃ v, σ[i]? = some (some v) ∧ Rep K s d v
def RX (K : PySem.W.Frag) (cA : Nat → Option Addr) (s : Sit) (x : Exn) (cls : Value) (dd : Option Addr) : Prop :=
  ∃ C, cA x.cls = some C ∧ cls = .ref C ∧ match x.arg with
    | none => dd = none
    | some d => ∃ a v, dd = some a ∧ s.H a = some (.xd [("number", v)]) ∧ ¬ s.M a ∧ PySem.W.findIn K (.ref C) "number" = some none ∧ RD K s.H s.M d v

section
variable {K : PySem.W.Frag} {cA : Nat → Option Addr} {s s' s1 : Sit} {σ : L2.St} {W : WX} {env : Env}
theorem RE.le (ok : s.Ok K) (e : s.Le s') (r : RE K s env σ) : RE K s' env σ := ⟨r.len, fun i d h => let ⟨v, h1, h2⟩ := r.at_ i d h; ⟨v, h1, h2.le ok e⟩⟩
theorem RE.set {i : Nat} {d : D} {v : V} (r : RE K s env σ) (h : Rep K s d v) : RE K s (env.set i (some d)) (σ.set i (some v)) := by
  refine ⟨by rw [List.length_set, List.length_set]; exact r.len, fun j e he => ?_⟩
  by_cases hj : i = j
  · subst hj
    by_cases hi : i < env.length
    · rw [List.getElem?_set_self hi] at he
      cases he
      exact ⟨v, by rw [List.getElem?_set_self (by rw [← r.len]; exact hi)], h⟩
    · rw [List.getElem?_eq_none (by simpa using hi)] at he
      cases he
  · rw [List.getElem?_set_ne hj] at he
    obtain ⟨w, h1, h2⟩ := r.at_ j e he
    exact ⟨w, by rw [List.getElem?_set_ne hj]; exact h1, h2⟩
theorem wipeE_length (env : Env) : ∀ vs : List Nat, (wipeE env vs).length = env.length
  | [] => rfl
  | v :: vs => by unfold wipeE; rw [List.length_set, wipeE_length env vs]
theorem RE.wipe (r : RE K s env σ) : ∀ vs : List Nat, RE K s (wipeE env vs) (L2.wipe σ vs)
  | [] => r
  | v :: vs => by
    have ih := RE.wipe r vs
    refine ⟨by rw [wipeE_length, wipe_length]; exact r.len, fun i d h => ?_⟩
    unfold wipeE at h
    unfold L2.wipe
    by_cases e : v = i
    · subst e
      by_cases hv : v < (wipeE env vs).length
      · rw [List.getElem?_set_self hv] at h
        cases h
      · rw [List.getElem?_eq_none (by simpa using hv)] at h
        cases h
    · rw [List.getElem?_set_ne e] at h
      rw [List.getElem?_set_ne e]
      exact ih.at_ i d h

def Post {α : Type} (K : PySem.W.Frag) (cA : Nat → Option Addr) (s : Sit) (σ : L2.St) (W : WX) (r : Res α) (Q : α → Sit → Prop) : Prop :=
  match r with
  | .ok a st => ∀ s', s'.st = st → s'.Ok K → s.Le s' → Q a s'
  | .exc x st => ∀ s' cls dd, s'.st = st → s'.Ok K → s.Le s' → RX K cA s' x cls dd → W cls dd σ s'.H
  | .err => False
theorem Post.le {α : Type} {r : Res α} {Q : α → Sit → Prop} (e : s.Le s') (h : Post K cA s σ W r Q) : Post K cA s' σ W r Q := by
  cases r with
  | ok a st => exact fun t h1 h2 h3 => h t h1 h2 (e.trans h3)
  | exc x st => exact fun t c d h1 h2 h3 h4 => h t c d h1 h2 (e.trans h3) h4
  | err => exact h
theorem Post.mono {α : Type} {r : Res α} {Q Q' : α → Sit → Prop} (h : Post K cA s σ W r Q) (i : ∀ a s', s'.Ok K → s.Le s' → Q a s' → Q' a s') : Post K cA s σ W r Q' := by
  cases r with
  | ok a st => exact fun t h1 h2 h3 => i a t h2 h3 (h t h1 h2 h3)
  | exc x st => exact h
  | err => exact h
theorem Post.split {α β : Type} {r : Res α} {k : α → Store → Res β} {Q : β → Sit → Prop} (h : Post K cA s σ W (r.bind k) Q) :
    Post K cA s σ W r fun a s1 => Post K cA s1 σ W (k a s1.st) Q := by
  cases r with
  | ok a st =>
    intro t h1 h2 h3
    have h : Post K cA s σ W (k a st) Q := h
    rw [← h1] at h
    exact h.le h3
  | exc x st => exact h
  | err => exact h

abbrev PQ (K : PySem.W.Frag) (Q : VK) : D → Sit → Prop := fun d s' => ∀ v, Rep K s' d v → Q v s'.H
def tE (K : PySem.W.Frag) (cA : Nat → Option Addr) (F : CallF) (W : WX) (e : T) : TE := fun σ H Q => ∃ s env, s.H = H ∧ s.Ok K ∧ RE K s env σ ∧ Post K cA s σ W (ev F e env s.st) (PQ K Q)
def tA (K : PySem.W.Frag) (cA : Nat → Option Addr) (F : CallF) (W : WX) (e : T) : TA := fun σ H Q => ∃ s env, s.H = H ∧ s.Ok K ∧ RE K s env σ ∧ Post K cA s σ W (evs F e env s.st) fun ds s' => ∀ vs, Reps K s' ds vs → Q vs s'.H
def tT (K : PySem.W.Frag) (cA : Nat → Option Addr) (F : CallF) (W : WX) (e : T) : TT := fun σ H Q => ∃ s env, s.H = H ∧ s.Ok K ∧ RE K s env σ ∧ Post K cA s σ W (ev F e env s.st) fun d s' => ∃ b, d = .bl b ∧ Q b s'.H
def tB' (K : PySem.W.Frag) (cA : Nat → Option Addr) (F : CallF) (W : WX) (o : BoolOp) (e : T) : TE := fun σ H Q => ∃ s env, s.H = H ∧ s.Ok K ∧ RE K s env σ ∧ Post K cA s σ W (evB F o e env s.st) (PQ K Q)
def tBT (K : PySem.W.Frag) (cA : Nat → Option Addr) (F : CallF) (W : WX) (o : BoolOp) (e : T) : TT := fun σ H Q => ∃ s env, s.H = H ∧ s.Ok K ∧ RE K s env σ ∧ Post K cA s σ W (evB F o e env s.st) fun d s' => ∃ b, d = .bl b ∧ Q b s'.H
def tO (K : PySem.W.Frag) (cA : Nat → Option Addr) (F : CallF) (W : WX) (e : T) : TO := fun σ H Q => ∃ s env, s.H = H ∧ s.Ok K ∧ RE K s env σ ∧ Post K cA s σ W (evo F e env s.st) fun o s' => Q o s'.H
def tC' (K : PySem.W.Frag) (cA : Nat → Option Addr) (F : CallF) (W : WX) (e : T) : TT := fun σ H Q => ∃ s env, s.H = H ∧ s.Ok K ∧ RE K s env σ ∧ Post K cA s σ W (evt F e env s.st) fun b s' => Q b s'.H

theorem PE.imp {X : Cx} {e : Expr} {t t' : TE} (h : PE X e t) (i : ∀ σ H Q, t' σ H Q → t σ H Q) : PE X e t' := ⟨fun pins s σ H Q I hw => h.run pins s σ H Q I (i σ H Q hw)⟩
theorem PT.imp {X : Cx} {e : Expr} {t t' : TT} (h : PT X e t) (i : ∀ σ H Q, t' σ H Q → t σ H Q) : PT X e t' := ⟨fun pins s σ H Q I hw => h.run pins s σ H Q I (i σ H Q hw)⟩
theorem PW.imp {X : Cx} {e : Expr} {t t' : TT} (h : PW X e t) (i : ∀ σ H Q, t' σ H Q → t σ H Q) : PW X e t' := ⟨fun wh pins s σ H Q I hw => h.run wh pins s σ H Q I (i σ H Q hw)⟩
theorem PA.imp {X : Cx} {e : List Expr} {t t' : TA} (h : PA X e t) (i : ∀ σ H Q, t' σ H Q → t σ H Q) : PA X e t' := ⟨fun pos pins s σ H Q I hw => h.run pos pins s σ H Q I (i σ H Q hw)⟩
theorem PO.imp {X : Cx} {e : Option Expr} {t t' : TO} (h : PO X e t) (i : ∀ σ H Q, t' σ H Q → t σ H Q) : PO X e t' := ⟨fun pins s σ H Q I hw => h.run pins s σ H Q I (i σ H Q hw)⟩
theorem PS.imp {X : Cx} {e : Stmt} {t t' : TS} (h : PS X e t) (i : ∀ D σ H, t' D σ H → t D σ H) : PS X e t' := ⟨fun pins s σ H D I hw => h.run pins s σ H D I (i D σ H hw)⟩
theorem PSs.imp {X : Cx} {e : List Stmt} {t t' : TS} (h : PSs X e t) (i : ∀ D σ H, t' D σ H → t D σ H) : PSs X e t' := ⟨fun pins s σ H D I hw => h.run pins s σ H D I (i D σ H hw)⟩
theorem PG.imp {X : Cx} {e : Expr} {t t' : TG} (h : PG X e t) (i : ∀ v σ H Q, t' v σ H Q → t v σ H Q) : PG X e t' := ⟨fun pins s σ H v u Q I r hw => h.run pins s σ H v u Q I r (i v σ H Q hw)⟩
theorem PGs.imp {X : Cx} {e : List Expr} {t t' : TGs} (h : PGs X e t) (i : ∀ v σ H Q, t' v σ H Q → t v σ H Q) : PGs X e t' := ⟨fun pins s σ H v u Q I r hw => h.run pins s σ H v u Q I r (i v σ H Q hw)⟩
theorem PI.imp {X : Cx} {tg e : Expr} {t t' : TI} (h : PI X tg e t) (i : ∀ σ H Q, t' σ H Q → t σ H Q) : PI X tg e t' := ⟨fun pins s σ H Q I hw => h.run pins s σ H Q I (i σ H Q hw)⟩

/-! ### from a situation on -/
theorem tE_then {F : CallF} {e : T} {β : Type} {k : D → Store → Res β} {Q' : β → Sit → Prop} {Q : VK} (ok : s.Ok K) (re : RE K s env σ) (h : Post K cA s σ W ((ev F e env s.st).bind k) Q')
    (n : ∀ s1 d x, s1.Ok K → s.Le s1 → RE K s1 env σ → Rep K s1 d x → Post K cA s1 σ W (k d s1.st) Q' → Q x s1.H) : tE K cA F W e σ s.H Q :=
  ⟨s, env, rfl, ok, re, h.split.mono fun d s1 o1 l1 h1 v hv => n s1 d v o1 l1 (re.le ok l1) hv h1⟩
theorem tA_then {F : CallF} {e : T} {β : Type} {k : List D → Store → Res β} {Q' : β → Sit → Prop} {Q : List V → Hp → Prop} (ok : s.Ok K) (re : RE K s env σ) (h : Post K cA s σ W ((evs F e env s.st).bind k) Q')
    (n : ∀ s1 d x, s1.Ok K → s.Le s1 → RE K s1 env σ → Reps K s1 d x → Post K cA s1 σ W (k d s1.st) Q' → Q x s1.H) : tA K cA F W e σ s.H Q :=
  ⟨s, env, rfl, ok, re, h.split.mono fun d s1 o1 l1 h1 v hv => n s1 d v o1 l1 (re.le ok l1) hv h1⟩
theorem tO_then {F : CallF} {e : T} {β : Type} {k : Option Int → Store → Res β} {Q' : β → Sit → Prop} {Q : Option Int → Hp → Prop} (ok : s.Ok K) (re : RE K s env σ) (h : Post K cA s σ W ((evo F e env s.st).bind k) Q')
    (n : ∀ s1 d, s1.Ok K → s.Le s1 → RE K s1 env σ → Post K cA s1 σ W (k d s1.st) Q' → Q d s1.H) : tO K cA F W e σ s.H Q :=
  ⟨s, env, rfl, ok, re, h.split.mono fun d s1 o1 l1 h1 => n s1 d o1 l1 (re.le ok l1) h1⟩
theorem tT_then {F : CallF} {e : T} {β : Type} {k : Bool → Store → Res β} {Q' : β → Sit → Prop} {Q : Bool → Hp → Prop} (ok : s.Ok K) (re : RE K s env σ) (h : Post K cA s σ W ((ev F e env s.st).bind fun x st => tstB x st k) Q')
    (n : ∀ s1 b, s1.Ok K → s.Le s1 → RE K s1 env σ → Post K cA s1 σ W (k b s1.st) Q' → Q b s1.H) : tT K cA F W e σ s.H Q :=
  ⟨s, env, rfl, ok, re, h.split.mono fun d s1 o1 l1 h1 => by
    cases d with
    | bl b => exact ⟨b, rfl, n s1 b o1 l1 (re.le ok l1) h1⟩
    | _ => exact False.elim h1⟩

/-! ### what comes of the ends -/
theorem post_ok {α : Type} {a : α} {Q : α → Sit → Prop} (ok : s.Ok K) (h : Post K cA s σ W (.ok a s.st) Q) : Q a s := h s rfl ok (Sit.Le.refl s)
theorem post_val {d : D} {v : V} {Q : VK} (ok : s.Ok K) (h : Post K cA s σ W (.ok d s.st) (PQ K Q)) (r : Rep K s d v) : Q v s.H := post_ok ok h v r
theorem post_mk {m : Bool} {xs : List D} {vs : List V} {Q : VK} (ok : s.Ok K) (hr : RDs K s.H s.M xs vs) (h : Post K cA s σ W (mk m xs s.st) (PQ K Q)) : ∀ p, s.H p = none → Q (.ref p) (upd s.H p (.lst vs)) := by
  intro p hp
  cases m with
  | false =>
    refine h (s.put p (.lst vs)) rfl (Sit.put_ok ok hp) (Sit.put_le hp) (.ref p) (.dat (.lst upd_same ?_ (hr.le ok (Sit.put_le hp))))
    exact fun m => Sit.notM ok hp m
  | true => exact h (s.new p xs vs) rfl (Sit.new_ok ok hp hr) (Sit.new_le ok hp) (.ref p) (Sit.new_at ok)
theorem post_tup {xs : List D} {vs : List V} {Q : VK} (ok : s.Ok K) (hr : RDs K s.H s.M xs vs) (h : Post K cA s σ W (.ok (.tup xs) s.st) (PQ K Q)) : ∀ p, s.H p = none → Q (.ref p) (upd s.H p (.tup vs)) := fun p hp =>
  h (s.put p (.tup vs)) rfl (Sit.put_ok ok hp) (Sit.put_le hp) (.ref p) (.dat (.tup upd_same (hr.le ok (Sit.put_le hp))))

theorem lstOf_ok {d : D} {v : V} {xs : List D} (ok : s.Ok K) (r : Rep K s d v) (h : lstOf s.st d = some xs) : ∃ a vs, v = .ref a ∧ s.H a = some (.lst vs) ∧ RDs K s.H s.M xs vs := by
  cases r with
  | ref ha =>
    rename_i l a
    unfold lstOf at h
    simp only at h
    split at h
    · rename_i c hc
      obtain ⟨vs, h1, h2⟩ := cellOk_xs (ok.cell l _ a hc ha) h
      exact ⟨a, vs, rfl, h1, h2⟩
    · cases h
  | dat r =>
    cases r with
    | lst h1 n r =>
      unfold lstOf at h
      cases h
      exact ⟨_, _, rfl, h1, r⟩
    | _ => cases h
  | _ => cases h
theorem atI_map {α β : Type} {f : α → β} {xs : List α} {i : Int} {x : α} (h : atI xs i = some x) : atI (xs.map f) i = some (f x) := by
  unfold atI at h ⊢
  rw [List.length_map]
  cases e : ixN xs.length i with
  | none => rw [e] at h; cases h
  | some j =>
    rw [e] at h
    simp only [Option.bind_some] at h ⊢
    rw [List.getElem?_map, h]
    rfl
theorem RDs.atI {H : Hp} {M : Addr → Prop} {ds : List D} {vs : List V} {i : Int} {d : D} (r : RDs K H M ds vs) (h : L2.atI ds i = some d) : ∃ v, L2.atI vs i = some v ∧ RD K H M d v := by
  unfold L2.atI at h ⊢
  rw [← r.length]
  cases e : ixN ds.length i with
  | none => rw [e] at h; cases h
  | some j =>
    rw [e] at h
    simp only [Option.bind_some] at h ⊢
    exact r.get h
theorem RDs.cut {H : Hp} {M : Addr → Prop} {ds : List D} {vs : List V} {lo hi : Option Int} (r : RDs K H M ds vs) : RDs K H M (cutD ds lo hi) (cutV vs lo hi) := by
  unfold cutD cutV
  rw [← r.length]
  exact (r.drop _).take _
theorem cutD_whole {xs : List D} {lo hi : Option Int} (h : HT.sIx xs.length 0 lo = 0 ∧ HT.sIx xs.length xs.length hi = xs.length) : cutD xs lo hi = xs := by
  unfold cutD
  rw [h.1, h.2, List.drop_zero, Nat.sub_zero, List.take_length]
theorem intsOf_ok : ∀ {xs : List D} {ns : List Int}, intsOf xs = some ns → xs = ns.map D.int
  | [], ns, h => by cases h; rfl
  | .int i :: r, ns, h => by
    unfold intsOf at h
    cases e : intsOf r with
    | none => rw [e] at h; cases h
    | some ms =>
      rw [e] at h
      cases h
      rw [intsOf_ok e]
      rfl
  | .non :: _, _, h => by cases h
  | .bl _ :: _, _, h => by cases h
  | .str _ :: _, _, h => by cases h
  | .tup _ :: _, _, h => by cases h
  | .lst _ :: _, _, h => by cases h
  | .scr _ :: _, _, h => by cases h
  | .dct :: _, _, h => by cases h
  | .dcT _ _ :: _, _, h => by cases h
  | .ref _ :: _, _, h => by cases h
theorem boolsOf_ok : ∀ {xs : List D} {ns : List Bool}, boolsOf xs = some ns → xs = ns.map D.bl
  | [], ns, h => by cases h; rfl
  | .bl i :: r, ns, h => by
    unfold boolsOf at h
    cases e : boolsOf r with
    | none => rw [e] at h; cases h
    | some ms =>
      rw [e] at h
      cases h
      rw [boolsOf_ok e]
      rfl
  | .non :: _, _, h => by cases h
  | .int _ :: _, _, h => by cases h
  | .str _ :: _, _, h => by cases h
  | .tup _ :: _, _, h => by cases h
  | .lst _ :: _, _, h => by cases h
  | .scr _ :: _, _, h => by cases h
  | .dct :: _, _, h => by cases h
  | .dcT _ _ :: _, _, h => by cases h
  | .ref _ :: _, _, h => by cases h
theorem RDs.replicate {H : Hp} {M : Addr → Prop} {ds : List D} {vs : List V} (r : RDs K H M ds vs) : ∀ n : Nat, RDs K H M (List.replicate n ds).flatten (List.replicate n vs).flatten
  | 0 => .nil
  | n + 1 => by
    rw [List.replicate_succ, List.replicate_succ, List.flatten_cons, List.flatten_cons]
    exact r.append (RDs.replicate r n)

/-! ### the operators -/
def OpS (K : PySem.W.Frag) (cA : Nat → Option Addr) (g : D → D → Store → Res D) (r : R2) : Prop :=
  ∀ (s : Sit) (σ : L2.St) (W : WX) (d e : D) (x y : V) (Q : VK), s.Ok K → Rep K s d x → Rep K s e y → Post K cA s σ W (g d e s.st) (PQ K Q) → r x y s.H Q
theorem rep_int {i : Int} {v : V} (r : Rep K s (.int i) v) : v = .int i := by
  cases r with
  | dat r => cases r; rfl
theorem rep_bl {i : Bool} {v : V} (r : Rep K s (.bl i) v) : v = .bl i := by
  cases r with
  | dat r => cases r; rfl
theorem rep_str {i : Str} {v : V} (r : Rep K s (.str i) v) : v = .str i := by
  cases r with
  | dat r => cases r; rfl
theorem rep_non {v : V} (r : Rep K s .non v) : v = .non := by
  cases r with
  | dat r => cases r; rfl
theorem rep_tupH {xs : List D} {v : V} (r : Rep K s (.tup xs) v) : ∃ a vs, v = .ref a ∧ s.H a = some (.tup vs) ∧ RDs K s.H s.M xs vs := by
  cases r with
  | dat r => cases r with
    | tup h r => exact ⟨_, _, rfl, h, r⟩
theorem rep_tup {xs : List D} {v : V} (r : Rep K s (.tup xs) v) : ∃ a vs, v = .ref a ∧ SqT K s.H a vs ∧ RDs K s.H s.M xs vs := by
  obtain ⟨a, vs, e, h, r⟩ := rep_tupH r
  exact ⟨a, vs, e, SqT.of h, r⟩
theorem rep_scr {ns : List Int} {v : V} (r : Rep K s (.scr ns) v) : ∃ a, v = .ref a ∧ SqL K s.H a (ns.map V.int) := by
  cases r with
  | dat r => cases r with
    | scr h => exact ⟨_, rfl, by
        rcases h with ⟨o, h⟩ | h
        · exact .inl (.inr ⟨o, h⟩)
        · exact .inr h⟩
theorem Rep.int (i : Int) : Rep K s (.int i) (.int i) := .dat (.int i)
theorem Rep.bl (i : Bool) : Rep K s (.bl i) (.bl i) := .dat (.bl i)
theorem Rep.str (i : Str) : Rep K s (.str i) (.str i) := .dat (.str i)
theorem Rep.non : Rep K s .non .non := .dat .non

theorem ops_add {m : Bool} : OpS K cA (addF m) (fun x y H Q => rI0 (fun i j => .int (i + j)) x y H Q ∨ ((∃ i j, x = .str i ∧ y = .str j ∧ i.length + j.length ≤ sizeLine ∧ Q (.str (i ++ j)) H) ∨ (rCatA K x y H Q ∨ rCat x y H Q))) := by
  intro s σ W d e x y Q ok rx ry h
  unfold addF at h
  split at h
  · cases rep_int rx; cases rep_int ry
    exact .inl ⟨_, _, rfl, rfl, post_val ok h (.int _)⟩
  · cases rep_str rx; cases rep_str ry
    split at h
    · rename_i hz
      exact .inr (.inl ⟨_, _, rfl, rfl, hz, post_val ok h (.str _)⟩)
    · exact h.elim
  · obtain ⟨a, us, rfl, ha, ra⟩ := rep_tup rx
    obtain ⟨b, ws, rfl, hb, rb⟩ := rep_tup ry
    split at h
    · rename_i xs ys hz
      refine .inr (.inr (.inl ⟨a, b, us, ws, rfl, rfl, ha, hb, by rw [← ra.length, ← rb.length]; exact hz, fun e => ?_, fun _ e => ?_, fun _ _ => post_tup ok (ra.append rb) h⟩))
      · subst e
        cases ra
        exact post_val ok h ry
      · subst e
        cases rb
        rw [List.append_nil] at h
        exact post_val ok h rx
    · exact h.elim
  · split at h
    · rename_i xs ys hx hy
      obtain ⟨a, us, rfl, ha, ra⟩ := lstOf_ok ok rx hx
      obtain ⟨b, ws, rfl, hb, rb⟩ := lstOf_ok ok ry hy
      split at h
      · rename_i hz
        exact .inr (.inr (.inr ⟨a, b, us, ws, rfl, rfl, ha, hb, by rw [← ra.length, ← rb.length]; exact hz, post_mk ok (ra.append rb) h⟩))
      · exact h.elim
    · exact h.elim
theorem ops_sub : OpS K cA subF (rI0 fun i j => .int (i - j)) := by
  intro s σ W d e x y Q ok rx ry h
  unfold subF at h
  split at h
  · cases rep_int rx; cases rep_int ry
    exact ⟨_, _, rfl, rfl, post_val ok h (.int _)⟩
  · exact h.elim
theorem ops_mul {m : Bool} : OpS K cA (mulF m) (fun x y H Q => (rI CMulW (fun i j => .int (i * j)) x y H Q ∨ rRep x y H Q) ∨ (rRepT K x y H Q ∨ rRepS K x y H Q)) := by
  intro s σ W d e x y Q ok rx ry h
  unfold mulF at h
  split at h
  · cases rep_int rx; cases rep_int ry
    split at h
    · rename_i hz
      unfold mulOk at hz
      rw [decide_eq_true_eq] at hz
      exact .inl (.inl ⟨_, _, rfl, rfl, hz, post_val ok h (.int _)⟩)
    · exact h.elim
  · cases rep_int ry
    rename_i a k
    split at h
    · rename_i hz
      obtain ⟨b, us, rfl, hb, ra⟩ := rep_tup rx
      have hl := ra.length
      have hne : us ≠ [] := fun e => by rw [e, List.length_nil] at hl; omega
      by_cases h1 : k = 1
      · subst h1
        refine .inr (.inr ⟨b, 1, us, rfl, rfl, hb, hne, .inl ⟨rfl, ?_⟩⟩)
        have e : (List.replicate (1 : Int).toNat a).flatten = a := by simp
        rw [e] at h
        exact h s rfl ok (Sit.Le.refl _) _ rx
      · by_cases h0 : k = 0
        · subst h0
          refine .inr (.inr ⟨b, 0, us, rfl, rfl, hb, hne, .inr ⟨rfl, ?_⟩⟩)
          exact post_tup ok (vs := []) .nil h
        · obtain ⟨z1, z2, z3, z4⟩ := hz
          exact .inr (.inl ⟨b, k, us, rfl, rfl, hb, hne, by omega, z4, by rw [← hl]; exact z2, post_tup ok (ra.replicate _) h⟩)
    · exact h.elim
  · cases rep_int ry
    split at h
    · rename_i a ha
      obtain ⟨b, us, rfl, hb, ra⟩ := lstOf_ok ok rx ha
      split at h
      · rename_i hz
        exact .inl (.inr ⟨b, _, us, rfl, rfl, hb, hz.2.1, hz.1, by rw [← ra.length]; exact hz.2.2, post_mk ok (ra.replicate _) h⟩)
      · exact h.elim
    · exact h.elim
  · exact h.elim
theorem ops_div : OpS K cA divF (rI CDivW fun i j => .int (i / j)) := by
  intro s σ W d e x y Q ok rx ry h
  unfold divF at h
  split at h
  · cases rep_int rx; cases rep_int ry
    split at h
    · rename_i hz
      unfold divOk at hz
      rw [Bool.and_eq_true, decide_eq_true_eq, decide_eq_true_eq] at hz
      exact ⟨_, _, rfl, rfl, hz, post_val ok h (.int _)⟩
    · exact h.elim
  · exact h.elim
theorem ops_mod : OpS K cA modF (rI (fun _ j => 0 < j) fun i j => .int (i % j)) := by
  intro s σ W d e x y Q ok rx ry h
  unfold modF at h
  split at h
  · cases rep_int rx; cases rep_int ry
    split at h
    · rename_i hz
      exact ⟨_, _, rfl, rfl, hz, post_val ok h (.int _)⟩
    · exact h.elim
  · exact h.elim
theorem powOk_ok {i j : Int} (hz : powOk i j = true) : CPow i j := by
  unfold powOk at hz
  rw [Bool.and_eq_true, Bool.and_eq_true, decide_eq_true_eq, decide_eq_true_eq, decide_eq_true_eq] at hz
  exact ⟨hz.1.1, hz.1.2, hz.2⟩
theorem ops_pow : OpS K cA powF (rI CPow fun i j => .int (i ^ j.toNat)) := by
  intro s σ W d e x y Q ok rx ry h
  unfold powF at h
  split at h
  · cases rep_int rx; cases rep_int ry
    split at h
    · rename_i hz
      exact ⟨_, _, rfl, rfl, powOk_ok hz, post_val ok h (.int _)⟩
    · exact h.elim
  · exact h.elim
theorem ops_shl : OpS K cA shlF (rI CPow fun i j => .int (i * 2 ^ j.toNat)) := by
  intro s σ W d e x y Q ok rx ry h
  unfold shlF at h
  split at h
  · cases rep_int rx; cases rep_int ry
    split at h
    · rename_i hz
      exact ⟨_, _, rfl, rfl, powOk_ok hz, post_val ok h (.int _)⟩
    · exact h.elim
  · exact h.elim
theorem ops_shr : OpS K cA shrF (rI (fun _ j => 0 ≤ j) fun i j => .int (i / 2 ^ j.toNat)) := by
  intro s σ W d e x y Q ok rx ry h
  unfold shrF at h
  split at h
  · cases rep_int rx; cases rep_int ry
    split at h
    · rename_i hz
      exact ⟨_, _, rfl, rfl, hz, post_val ok h (.int _)⟩
    · exact h.elim
  · exact h.elim
theorem ops_and : OpS K cA andF (rI0 fun i j => .int (Builtin.bitAnd i j)) := by
  intro s σ W d e x y Q ok rx ry h
  unfold andF at h
  split at h
  · cases rep_int rx; cases rep_int ry
    exact ⟨_, _, rfl, rfl, post_val ok h (.int _)⟩
  · exact h.elim

/-! ### == -/
mutual
theorem py_ok {H : Hp} {M : Addr → Prop} : ∀ {d : D} {v : V} {p : PyData}, RD K H M d v → d.py = some p → Dp K H v p
  | _, _, _, .non, h => by cases h; exact .non
  | _, _, _, .bl b, h => by cases h; exact .bl b
  | _, _, _, .int b, h => by cases h; exact .int b
  | _, _, _, .str b, h => by cases h; exact .str b
  | .tup xs, _, _, .tup h1 r, h => by
    unfold D.py at h
    cases e : pys xs with
    | none => rw [e] at h; cases h
    | some ps => rw [e] at h; cases h; exact .tup (SqT.of h1) (pys_ok r e)
  | .lst xs, _, _, .lst h1 _ r, h => by
    unfold D.py at h
    cases e : pys xs with
    | none => rw [e] at h; cases h
    | some ps => rw [e] at h; cases h; exact .lst (SqL.of h1) (pys_ok r e)
  | _, _, _, .scr _, h => by cases h
  | _, _, _, .dct _ _, h => by cases h
  | _, _, _, .dcT _ _ _ _, h => by cases h
theorem pys_ok {H : Hp} {M : Addr → Prop} : ∀ {d : List D} {v : List V} {p : List PyData}, RDs K H M d v → pys d = some p → DpAll K H v p
  | _, _, _, .nil, h => by cases h; exact .nil
  | x :: xs, _, _, .cons a r, h => by
    unfold pys at h
    cases e1 : x.py with
    | none => rw [e1] at h; cases h
    | some q =>
      cases e2 : pys xs with
      | none => rw [e1, e2] at h; cases h
      | some qs => rw [e1, e2] at h; cases h; exact .cons (py_ok a e1) (pys_ok r e2)
end
theorem pyOf_ok {d : D} {v : V} {p : PyData} (ok : s.Ok K) (r : Rep K s d v) (h : pyOf s.st d = some p) : Dp K s.H v p := by
  unfold pyOf at h
  split at h
  · rename_i xs hx
    obtain ⟨a, vs, rfl, h1, h2⟩ := lstOf_ok ok r hx
    cases e : pys xs with
    | none => rw [e] at h; cases h
    | some ps => rw [e] at h; cases h; exact .lst (SqL.of h1) (pys_ok h2 e)
  · cases r with
    | ref ha => cases h
    | dat r => exact py_ok r h
    | _ => cases h
def rEqS (K : PySem.W.Frag) : R2 := fun x y H Q => ∃ d e, Dp K H x d ∧ Dp K H y e ∧ shp d = true ∧ shp e = true ∧ Q (.bl (PyData.eqv d e)) H
def rNeS (K : PySem.W.Frag) : R2 := fun x y H Q => ∃ d e, Dp K H x d ∧ Dp K H y e ∧ shp d = true ∧ shp e = true ∧ Q (.bl (!PyData.eqv d e)) H
theorem shp_lay {d : PyData} (h : shp d = true) : d.canLay0 = true := (Bool.and_eq_true_iff.mp h).1
theorem shp_room {A : Around} {da db : PyData} (h : shp da = true) (hu : A.units + 151 < cLine) : A.units + min da.depth db.depth < cLine := by
  have h1 := of_decide_eq_true (Bool.and_eq_true_iff.mp h).2
  have h2 : min da.depth db.depth ≤ da.depth := Nat.min_le_left _ _
  omega
theorem op_eqS {X : Cx} (hu : X.A.units + 151 < cLine) : OpR X (compareOp .Eq) (rEqS X.K) := by
  intro pins s σ H x y v u Q I rx ry h
  obtain ⟨d, e, hd, he, sd, se, q⟩ := h
  obtain ⟨as, r1⟩ := Dp.reads I d x v hd rx
  obtain ⟨bs, r2⟩ := Dp.reads I e y u he ry
  exact SeqAt.compareEq_reads r1 r2 (shp_lay sd) (shp_lay se) (shp_room sd hu) ⟨.bl _, H, I, rfl, q⟩
theorem op_neS {X : Cx} (hu : X.A.units + 151 < cLine) : OpR X (compareOp .NotEq) (rNeS X.K) := by
  intro pins s σ H x y v u Q I rx ry h
  obtain ⟨d, e, hd, he, sd, se, q⟩ := h
  obtain ⟨as, r1⟩ := Dp.reads I d x v hd rx
  obtain ⟨bs, r2⟩ := Dp.reads I e y u he ry
  exact SeqAt.compareNe_reads r1 r2 (shp_lay sd) (shp_lay se) (shp_room sd hu) ⟨.bl _, H, I, rfl, q⟩
theorem ops_eq : OpS K cA (fun x y st => optB (eqF st x y) st) (rEqS K) := by
  intro s σ W d e x y Q ok rx ry h
  have h : Post K cA s σ W (optB (eqF s.st d e) s.st) (PQ K Q) := h
  unfold eqF at h
  split at h
  · rename_i p q hp hq
    split at h
    · rename_i hz
      rw [Bool.and_eq_true] at hz
      exact ⟨p, q, pyOf_ok ok rx hp, pyOf_ok ok ry hq, hz.1, hz.2, post_val ok h (.bl _)⟩
    · exact h.elim
  · exact h.elim
theorem ops_ne : OpS K cA (fun x y st => optB ((eqF st x y).map (!·)) st) (rNeS K) := by
  intro s σ W d e x y Q ok rx ry h
  have h : Post K cA s σ W (optB ((eqF s.st d e).map (!·)) s.st) (PQ K Q) := h
  unfold eqF at h
  split at h
  · rename_i p q hp hq
    split at h
    · rename_i hz
      rw [Bool.and_eq_true] at hz
      exact ⟨p, q, pyOf_ok ok rx hp, pyOf_ok ok ry hq, hz.1, hz.2, post_val ok h (.bl _)⟩
    · exact h.elim
  · exact h.elim
theorem ops_lt : OpS K cA (fun x y st => optB (ltF x y) st) (fun x y H Q => rI0 (fun i j => .bl (decide (i < j))) x y H Q ∨ rLtT K x y H Q) := by
  intro s σ W d e x y Q ok rx ry h
  have h : Post K cA s σ W (optB (ltF d e) s.st) (PQ K Q) := h
  unfold ltF at h
  split at h
  · cases rep_int rx; cases rep_int ry
    exact .inl ⟨_, _, rfl, rfl, post_val ok h (.bl _)⟩
  · split at h
    · rename_i ns ms hn hm
      obtain ⟨a, us, rfl, ha, ra⟩ := rep_tup rx
      obtain ⟨b, ws, rfl, hb, rb⟩ := rep_tup ry
      rw [intsOf_ok hn] at ra
      rw [intsOf_ok hm] at rb
      rw [ra.ints] at ha
      rw [rb.ints] at hb
      exact .inr ⟨a, b, ns, ms, rfl, rfl, ha, hb, post_val ok h (.bl _)⟩
    · exact h.elim
  · exact h.elim
theorem ops_le : OpS K cA (fun x y st => optB (leF x y) st) (fun x y H Q => rI0 (fun i j => .bl (decide (i ≤ j))) x y H Q ∨ rLeT' K x y H Q) := by
  intro s σ W d e x y Q ok rx ry h
  have h : Post K cA s σ W (optB (leF d e) s.st) (PQ K Q) := h
  unfold leF at h
  split at h
  · cases rep_int rx; cases rep_int ry
    exact .inl ⟨_, _, rfl, rfl, post_val ok h (.bl _)⟩
  · split at h
    · rename_i ns ms hn hm
      obtain ⟨a, us, rfl, ha, ra⟩ := rep_tup rx
      obtain ⟨b, ws, rfl, hb, rb⟩ := rep_tup ry
      rw [intsOf_ok hn] at ra
      rw [intsOf_ok hm] at rb
      rw [ra.ints] at ha
      rw [rb.ints] at hb
      exact .inr ⟨a, b, ns, ms, rfl, rfl, ha, hb, post_val ok h (.bl _)⟩
    · exact h.elim
  · exact h.elim
theorem ops_gt : OpS K cA (fun x y st => optB (gtF x y) st) (fun x y H Q => rI0 (fun i j => .bl (decide (j < i))) x y H Q ∨ rGtT K x y H Q) := by
  intro s σ W d e x y Q ok rx ry h
  have h : Post K cA s σ W (optB (gtF d e) s.st) (PQ K Q) := h
  unfold gtF at h
  split at h
  · cases rep_int rx; cases rep_int ry
    exact .inl ⟨_, _, rfl, rfl, post_val ok h (.bl _)⟩
  · split at h
    · rename_i ns ms hn hm
      obtain ⟨a, us, rfl, ha, ra⟩ := rep_tup rx
      obtain ⟨b, ws, rfl, hb, rb⟩ := rep_tup ry
      rw [intsOf_ok hn] at ra
      rw [intsOf_ok hm] at rb
      rw [ra.ints] at ha
      rw [rb.ints] at hb
      exact .inr ⟨a, b, ns, ms, rfl, rfl, ha, hb, post_val ok h (.bl _)⟩
    · exact h.elim
  · exact h.elim
theorem ops_ge : OpS K cA (fun x y st => optB (geF x y) st) (fun x y H Q => rI0 (fun i j => .bl (decide (j ≤ i))) x y H Q ∨ rGeT K x y H Q) := by
  intro s σ W d e x y Q ok rx ry h
  have h : Post K cA s σ W (optB (geF d e) s.st) (PQ K Q) := h
  unfold geF at h
  split at h
  · cases rep_int rx; cases rep_int ry
    exact .inl ⟨_, _, rfl, rfl, post_val ok h (.bl _)⟩
  · split at h
    · rename_i ns ms hn hm
      obtain ⟨a, us, rfl, ha, ra⟩ := rep_tup rx
      obtain ⟨b, ws, rfl, hb, rb⟩ := rep_tup ry
      rw [intsOf_ok hn] at ra
      rw [intsOf_ok hm] at rb
      rw [ra.ints] at ha
      rw [rb.ints] at hb
      exact .inr ⟨a, b, ns, ms, rfl, rfl, ha, hb, post_val ok h (.bl _)⟩
    · exact h.elim
  · exact h.elim
theorem isNon_ok {d : D} {v : V} (r : Rep K s d v) : isNon d = decide (v = .non) := by
  cases r with
  | ref h => rfl
  | dat r => cases r <;> rfl
  | _ => rfl
theorem ops_is : OpS K cA (fun x y st => optB (isF x y) st) (fun x y H Q => (y = .non ∧ Q (.bl (decide (x = .non))) H) ∨ ∃ a b, x = .bl a ∧ y = .bl b ∧ Q (.bl (decide (a = b))) H) := by
  intro s σ W d e x y Q ok rx ry h
  have h : Post K cA s σ W (optB (isF d e) s.st) (PQ K Q) := h
  unfold isF at h
  split at h
  · cases rep_non ry
    refine .inl ⟨rfl, ?_⟩
    rw [← isNon_ok rx]
    exact post_val ok h (.bl _)
  · cases rep_bl rx; cases rep_bl ry
    exact .inr ⟨_, _, rfl, rfl, post_val ok h (.bl _)⟩
  · exact h.elim
theorem ops_isnot : OpS K cA (fun x y st => optB ((isF x y).map (!·)) st) (fun x y H Q => (y = .non ∧ Q (.bl (!decide (x = .non))) H) ∨ ∃ a b, x = .bl a ∧ y = .bl b ∧ Q (.bl (!decide (a = b))) H) := by
  intro s σ W d e x y Q ok rx ry h
  have h : Post K cA s σ W (optB ((isF d e).map (!·)) s.st) (PQ K Q) := h
  unfold isF at h
  split at h
  · cases rep_non ry
    refine .inl ⟨rfl, ?_⟩
    rw [← isNon_ok rx]
    exact post_val ok h (.bl _)
  · cases rep_bl rx; cases rep_bl ry
    exact .inr ⟨_, _, rfl, rfl, post_val ok h (.bl _)⟩
  · exact h.elim

theorem seqOf_ok {s : Sit} {d : D} {v : V} {xs : List D} (ok : s.Ok K) (r : Rep K s d v) (h : seqOf s.st d = some xs) :
    ∃ a us, v = .ref a ∧ (SqL K s.H a us ∨ SqT K s.H a us) ∧ RDs K s.H s.M xs us := by
  unfold seqOf at h
  split at h
  · cases h
    obtain ⟨a, us, rfl, ha, ra⟩ := rep_tup r
    exact ⟨a, us, rfl, .inr ha, ra⟩
  · obtain ⟨a, us, rfl, ha, ra⟩ := lstOf_ok ok r h
    exact ⟨a, us, rfl, .inl (SqL.of ha), ra⟩
theorem flat_ok {d : D} {v : V} (r : Rep K s d v) (h : flatD d = true) : flatV v = true := by
  cases r with
  | ref _ => cases h
  | dat r => cases r <;> first | rfl | cases h
  | _ => cases h
theorem eqFl_ok {d e : D} {x y : V} (rd : Rep K s d x) (re : Rep K s e y) (hd : flatD d = true) (he : flatD e = true) : eqFl e d = eqV y x := by
  cases rd with
  | ref _ => cases hd
  | dat rd =>
    cases re with
    | ref _ => cases he
    | dat re => cases rd <;> cases re <;> first | rfl | cases hd | cases he
    | _ => cases he
  | _ => cases hd
theorem any_ok {d : D} {x : V} (rd : Rep K s d x) (hd : flatD d = true) : ∀ {ds : List D} {vs : List V}, RDs K s.H s.M ds vs → ds.all flatD = true → vs.all flatV = true ∧ (ds.any fun z => eqFl z d) = inV x vs
  | _, _, .nil, _ => ⟨rfl, rfl⟩
  | _, _, .cons h r, z => by
    rw [List.all_cons, Bool.and_eq_true] at z
    obtain ⟨a, b⟩ := any_ok rd hd r z.2
    refine ⟨by rw [List.all_cons, flat_ok (.dat h) z.1, a]; rfl, ?_⟩
    unfold inV at b ⊢
    rw [List.any_cons, List.any_cons, b, eqFl_ok rd (.dat h) hd z.1]
theorem getK_val {H : Hp} {M : Addr → Prop} (k : List Int) : ∀ {ks : List (List Int)} {ds : List D} {vs : List V}, ks.length = ds.length → RDs K H M ds vs →
    (getK ks ds k = none ∧ valV (dtV ks vs) (k.map Sum.inl) = none) ∨ ∃ d v, getK ks ds k = some d ∧ valV (dtV ks vs) (k.map Sum.inl) = some v ∧ RD K H M d v
  | [], [], _, _, .nil => .inl ⟨rfl, rfl⟩
  | [], _ :: _, _, h, _ => by cases h
  | _ :: _, [], _, h, _ => by cases h
  | k' :: ks, d :: ds, _, h, .cons (v := v) (vs := vs) r1 r2 => by
    by_cases e : k' = k
    · refine .inr ⟨d, v, by simp only [getK, if_pos e], ?_, r1⟩
      show valV ((k'.map Sum.inl, v) :: dtV ks vs) _ = _
      rw [valV_pos (p := (k'.map Sum.inl, v)) (by rw [e])]
    · have e2 : ¬ (k'.map Sum.inl : List Key) = k.map Sum.inl := fun z => e (inl_inj z)
      have q := getK_val k (ks := ks) (by simpa using h) r2
      have e3 : valV (dtV (k' :: ks) (v :: vs)) (k.map Sum.inl) = valV (dtV ks vs) (k.map Sum.inl) := valV_neg (p := (k'.map Sum.inl, v)) e2
      rw [e3]
      simp only [getK, if_neg e]
      exact q
theorem dcT_get {d : D} {ks : List (List Int)} {ds : List D} {x y : V} {k : List Int} (rx : Rep K s d x) (ry : Rep K s (.dcT ks ds) y) (h : keyT d = some k) :
    ∃ a o, y = .ref a ∧ DGet s.H a x o ∧ ((getK ks ds k = none ∧ o = none) ∨ ∃ e v, getK ks ds k = some e ∧ o = some v ∧ RD K s.H s.M e v) := by
  cases d with
  | tup xs =>
    simp only [keyT] at h
    obtain ⟨t, us, rfl, ht, ra⟩ := rep_tupH rx
    rw [intsOf_ok h] at ra
    rw [ra.ints] at ht
    cases ry with
    | dat ry => cases ry with
      | dcT h1 n l r =>
        rename_i a vs
        refine ⟨a, _, rfl, DGet.t h1 (b := t) (k := k.map Sum.inl) (by rw [map_kV]; exact ht), getK_val k l r⟩
  | _ => cases h
theorem in_ok {d e : D} {x y : V} {b : Bool} (ok : s.Ok K) (rx : Rep K s d x) (ry : Rep K s e y) (h : inF s.st d e = some b) :
    (((∃ a us, y = .ref a ∧ (SqL K s.H a us ∨ SqT K s.H a us) ∧ flatV x = true ∧ us.all flatV = true ∧ b = inV x us) ∨
    (∃ p ps, Dp K s.H x p ∧ Dp K s.H y (.list ps) ∧ SeqAt.shaped p = true ∧ SeqAt.shaped (.list ps) = true ∧ b = ps.any fun z => PyData.eqv z p)) ∨
    (∃ a o, y = .ref a ∧ DGet s.H a x o ∧ b = o.isSome)) ∨ ∃ (c : Nat) (z : Str), x = .str ⟨#[c]⟩ ∧ y = .str z ∧ b = decide (c ∈ z.cps.toList) := by
  unfold inF at h
  split at h
  · obtain ⟨k, hk, hb⟩ := Option.map_eq_some_iff.mp h
    obtain ⟨a, o, e1, e2, e3⟩ := dcT_get rx ry hk
    refine .inl (.inr ⟨a, o, e1, e2, ?_⟩)
    rw [← hb]
    rcases e3 with ⟨e3, rfl⟩ | ⟨_, _, e3, rfl, _⟩ <;> rw [e3] <;> rfl
  · rename_i z
    split at h
    · rename_i a
      split at h
      · rename_i c hc
        cases h
        refine .inr ⟨c, z, ?_, rep_str ry, rfl⟩
        rw [rep_str rx]
        congr 1
        cases a with
        | mk cs => rw [show cs = #[c] from Array.toList_inj.mp hc]
      · cases h
    · cases h
  · left; left
    split at h
    · rename_i xs hx
      split at h
      · rename_i hf
        cases h
        obtain ⟨a, us, rfl, ha, ra⟩ := seqOf_ok ok ry hx
        obtain ⟨z1, z2⟩ := any_ok rx hf.1 ra hf.2
        exact .inl ⟨a, us, rfl, ha, flat_ok rx hf.1, z1, z2⟩
      · unfold inDF at h
        split at h
        · rename_i p ps hp hq
          split at h
          · rename_i hs
            rw [Bool.and_eq_true] at hs
            cases h
            exact .inr ⟨p, ps, pyOf_ok ok rx hp, pyOf_ok ok ry hq, hs.1, hs.2, rfl⟩
          · cases h
        · cases h
    · cases h
theorem ops_in : OpS K cA (fun x y st => optB (inF st x y) st) (fun x y H Q => ((rIn K false x y H Q ∨ rInD K x y H Q) ∨ rDIn x y H Q) ∨ ∃ (c : Nat) (z : Str), x = .str ⟨#[c]⟩ ∧ y = .str z ∧ Q (.bl (decide (c ∈ z.cps.toList))) H) := by
  intro s σ W d e x y Q ok rx ry h
  have h : Post K cA s σ W (optB (inF s.st d e) s.st) (PQ K Q) := h
  cases z : inF s.st d e with
  | none => rw [z] at h; exact h.elim
  | some b =>
    rw [z] at h
    rcases in_ok ok rx ry z with ((⟨a, us, e1, ha, f1, f2, rfl⟩ | ⟨p, ps, h1, h2, h3, h4, rfl⟩) | ⟨a, o, e1, h1, rfl⟩) | ⟨c, w, e1, e2, rfl⟩
    · exact .inl (.inl (.inl ⟨a, us, e1, ha, f1, f2, post_val ok h (.dat (.bl _))⟩))
    · exact .inl (.inl (.inr ⟨p, ps, h1, h2, h3, h4, post_val ok h (.dat (.bl _))⟩))
    · exact .inl (.inr ⟨a, o, e1, h1, post_val ok h (.dat (.bl _))⟩)
    · exact .inr ⟨c, w, e1, e2, post_val ok h (.dat (.bl _))⟩
theorem ops_notin : OpS K cA (fun x y st => optB ((inF st x y).map (!·)) st) (fun x y H Q => ((rIn K true x y H Q ∨ rNotInD K x y H Q) ∨ rDNotIn x y H Q) ∨ ∃ (c : Nat) (z : Str), x = .str ⟨#[c]⟩ ∧ y = .str z ∧ Q (.bl (!decide (c ∈ z.cps.toList))) H) := by
  intro s σ W d e x y Q ok rx ry h
  have h : Post K cA s σ W (optB ((inF s.st d e).map (!·)) s.st) (PQ K Q) := h
  cases z : inF s.st d e with
  | none => rw [z] at h; exact h.elim
  | some b =>
    rw [z] at h
    rcases in_ok ok rx ry z with ((⟨a, us, e1, ha, f1, f2, rfl⟩ | ⟨p, ps, h1, h2, h3, h4, rfl⟩) | ⟨a, o, e1, h1, rfl⟩) | ⟨c, w, e1, e2, rfl⟩
    · exact .inl (.inl (.inl ⟨a, us, e1, ha, f1, f2, post_val ok h (.dat (.bl _))⟩))
    · exact .inl (.inl (.inr ⟨p, ps, h1, h2, h3, h4, post_val ok h (.dat (.bl _))⟩))
    · exact .inl (.inr ⟨a, o, e1, h1, post_val ok h (.dat (.bl _))⟩)
    · exact .inr ⟨c, w, e1, e2, post_val ok h (.dat (.bl _))⟩

def OpK (X : Cx) (cA : Nat → Option Addr) (f : Value → Value → Sem Value) (g : D → D → Store → Res D) : Prop := ∃ r, OpR X f r ∧ OpS X.K cA g r
theorem opk_bin {X : Cx} {m : Bool} {op : Operator} : OpK X cA (binaryOp op) (binF m op) := by
  have dead : ∀ {f : Value → Value → Sem Value} {g : D → D → Store → Res D}, (∀ d e st, g d e st = .err) → OpK X cA f g := fun hg =>
    ⟨fun _ _ _ _ => False, fun _ _ _ _ _ _ _ _ _ _ _ _ h => h.elim, fun s σ W d e x y Q ok rx ry h => by rw [hg] at h; exact h⟩
  cases op with
  | Add => exact ⟨_, op_add.or (op_add_str.or (op_catA.or op_cat)), ops_add⟩
  | Sub => exact ⟨_, op_sub, ops_sub⟩
  | Mult => exact ⟨_, (op_mulW.or op_rep).or (op_repT.or op_repS), ops_mul⟩
  | FloorDiv => exact ⟨_, op_fdivW, ops_div⟩
  | Mod => exact ⟨_, op_mod, ops_mod⟩
  | Pow => exact ⟨_, op_pow, ops_pow⟩
  | LShift => exact ⟨_, op_shl, ops_shl⟩
  | RShift => exact ⟨_, op_shr, ops_shr⟩
  | BitAnd => exact ⟨_, op_and, ops_and⟩
  | _ => exact dead fun _ _ _ => rfl
theorem opk_cmp {X : Cx} {op : CmpOp} (hu2 : X.A.units + 151 < cLine) : OpK X cA (compareOp op) (fun x y st => optB (cmpF op x y st) st) := by
  have hu1 : X.A.units + 65 < cLine := by omega
  have hu : X.A.units + 64 < cLine := by omega
  have dead : ∀ {f : Value → Value → Sem Value} {g : D → D → Store → Res D}, (∀ d e st, g d e st = .err) → OpK X cA f g := fun hg =>
    ⟨fun _ _ _ _ => False, fun _ _ _ _ _ _ _ _ _ _ _ _ h => h.elim, fun s σ W d e x y Q ok rx ry h => by rw [hg] at h; exact h⟩
  cases op with
  | Eq => exact ⟨_, op_eqS hu2, ops_eq⟩
  | NotEq => exact ⟨_, op_neS hu2, ops_ne⟩
  | Lt => exact ⟨_, op_lt.or (op_ltT (by omega)), ops_lt⟩
  | LtE => exact ⟨_, op_le.or (op_leT' (by omega)), ops_le⟩
  | Gt => exact ⟨_, op_gt.or (op_gtT (by omega)), ops_gt⟩
  | GtE => exact ⟨_, op_ge.or (op_geT (by omega)), ops_ge⟩
  | Is => exact ⟨_, op_isN.or op_is_bl, ops_is⟩
  | IsNot => exact ⟨_, op_notN.or op_isnot_bl, ops_isnot⟩
  | In => exact ⟨_, ((op_in_seq.or (op_inD hu1)).or (op_dIn (by omega))).or op_in_sign, ops_in⟩
  | NotIn => exact ⟨_, ((op_notIn_seq.or (op_notInD hu1)).or (op_dNotIn (by omega))).or op_notIn_sign, ops_notin⟩
end
end Zn

/-! Zn, part 5: the rules over the model for subscripts, slices, built-ins, what is walked. -/
namespace Zn
open PySem PySem.Spec PyProof.Rows L2
section
variable {K : PySem.W.Frag} {cA : Nat → Option Addr} {s s' s1 : Sit} {σ : L2.St} {W : WX} {env : Env}

theorem star_pl {e : Expr} {es : List Expr} {env : PySem.Env} (h : pl e = true) : starEach (e :: es) env = (false, eval e env) :: starEach es env := by
  cases e <;> first | rfl | cases h
theorem mark_pl {e : Expr} {op : CmpOp} (h : pl e = true) : behindInMarks op e = false := by
  cases e <;> first | rfl | cases h
theorem ix_pl {e : Expr} (h : pl e = true) : PlainIx e := by
  intro o i
  cases e <;> first | rfl | cases h
theorem sw_pl {e : Expr} {t : Option Expr} {l : Nat} {env : PySem.Env} (h : pl e = true) (hc : isComp e = false) : swapsWith e t l env = pure false := by
  cases e with
  | ListComp _ _ _ _ => exact absurd (show true = false from hc) (by decide)
  | _ => first | rfl | cases h
theorem at_pl {e : Expr} {x : Str} {env : PySem.Env} {w : Sem Value} (h : atB e = true) : attributeBase e x env w = w := by
  cases e <;> first | rfl | cases h
theorem at_plB {e : Expr} {x : Str} {env : PySem.Env} {w : Sem Value} (h : atBB e = true) : attributeBase e x env w = w := by
  cases e with
  | Call f as ks p => cases as with
    | nil => cases h
    | cons a as => cases f <;> rfl
  | _ => rfl
theorem fold_pl {e : Expr} {env : PySem.Env} (h : pl e = true) : ∀ x, foldedSetIterable e env x = pure x := by
  intro x
  cases e <;> first | rfl | cases h
theorem backTo_any {pos : Pos} {env : PySem.Env} : ∀ {es : List Expr}, (∀ e ∈ es, pl e = true) → (backTo pos (starEach es env)).any (·.1) = false
  | [], _ => rfl
  | e :: es, h => by
    rw [star_pl (h e List.mem_cons_self)]
    show (false || (backTo pos (starEach es env)).any (·.1)) = false
    rw [backTo_any fun e he => h e (List.mem_cons_of_mem _ he)]
    rfl

/-! ### dicts of our own -/
theorem dkOf_at {st : Store} {d : D} {kvs : List (Int × Int)} (h : dkOf st d = some kvs) : ∃ l, d = .ref l ∧ st[l]? = some (some (.dk kvs)) := by
  cases d with
  | ref l =>
    unfold dkOf at h
    simp only at h
    split at h
    · rename_i k hk
      cases h
      exact ⟨l, rfl, hk⟩
    · cases h
  | _ => cases h
theorem dkOf_ok {d : D} {v : V} {kvs : List (Int × Int)} (ok : s.Ok K) (r : Rep K s d v) (h : dkOf s.st d = some kvs) : ∃ a, v = .ref a ∧ s.H a = some (.dK (dkV kvs)) := by
  obtain ⟨l, rfl, hk⟩ := dkOf_at h
  cases r with
  | ref ha => exact ⟨_, rfl, ok.cell l _ _ hk ha⟩
  | dat r => cases r
theorem getI_val (i : Int) : ∀ kvs : List (Int × Int), valV (dkV kvs) (Sum.inl i) = (getI kvs i).map V.int
  | [] => rfl
  | p :: r => by
    by_cases e : p.1 = i
    · rw [show dkV (p :: r) = (Sum.inl p.1, V.int p.2) :: dkV r from rfl, valV_pos (p := (Sum.inl p.1, V.int p.2)) (by rw [e])]
      simp only [getI, if_pos e]
      rfl
    · rw [show dkV (p :: r) = (Sum.inl p.1, V.int p.2) :: dkV r from rfl, valV_neg (p := (Sum.inl p.1, V.int p.2)) (fun z => e (Sum.inl.inj z)), getI_val i r]
      simp only [getI, if_neg e]
theorem putI_val (k v : Int) (kvs : List (Int × Int)) : putK (dkV kvs) (Sum.inl k) (V.int v) = dkV (putI kvs k v) := by
  have e : ((dkV kvs).any fun kv => decide (kv.1 = Sum.inl k)) = kvs.any fun p => decide (p.1 = k) := by
    rw [dkV, List.any_map]
    congr 1
    funext p
    simp only [Function.comp, Sum.inl.injEq]
  unfold L2.putK putI
  rw [e]
  by_cases h : (kvs.any fun p => decide (p.1 = k)) = true
  · rw [if_pos h, if_pos h, dkV, dkV, List.map_map, List.map_map]
    refine List.map_congr_left fun p _ => ?_
    by_cases q : p.1 = k
    · simp only [Function.comp, q, if_true]
    · simp only [Function.comp, Sum.inl.injEq, if_neg q]
  · rw [if_neg h, if_neg h, dkV, dkV, List.map_append]
    rfl
/-! ### subscripts -/
theorem ops_ix : OpS K cA subIx (fun x y H Q => rIx K x y H Q ∨ rDIx x y H Q) := by
  intro s σ W d e x y Q ok rx ry h
  unfold subIx at h
  split at h
  · cases rep_int ry
    obtain ⟨a, us, rfl, ha, ra⟩ := rep_tup rx
    split at h
    · rename_i d hd
      obtain ⟨v, hv, rv⟩ := ra.atI hd
      exact .inl (.inr (.inl ⟨a, us, _, v, rfl, rfl, ha, hv, post_val ok h (.dat rv)⟩))
    · exact h.elim
  · cases rep_int ry
    obtain ⟨a, rfl, ha⟩ := rep_scr rx
    split at h
    · rename_i d hd
      exact .inl (.inl ⟨a, _, _, _, rfl, rfl, ha, atI_map hd, post_val ok h (.int _)⟩)
    · exact h.elim
  · cases rep_int ry
    cases rep_str rx
    split at h
    · rename_i c hc
      split at h
      · rename_i hz
        exact .inl (.inr (.inr ⟨_, _, c, rfl, rfl, hz, hc, post_val ok h (.str _)⟩))
      · exact h.elim
    · exact h.elim
  · split at h
    · rename_i ks ds xs d hd
      obtain ⟨k, hk, hg⟩ := Option.bind_eq_some_iff.mp hd
      obtain ⟨a, o, rfl, g, hh⟩ := dcT_get (k := k) ry rx hk
      rcases hh with ⟨h1, _⟩ | ⟨e', v, h1, rfl, rv⟩
      · rw [h1] at hg
        cases hg
      · rw [h1] at hg
        cases hg
        exact .inr ⟨a, v, rfl, g, post_val ok h (.dat rv)⟩
    · exact h.elim
  · cases rep_int ry
    split at h
    · rename_i d hd
      cases rx with
      | @lr a _ vs ha hn hl hv =>
        obtain ⟨j, h1, h2⟩ := Option.bind_eq_some_iff.mp (show (ixN _ _).bind _ = some d from hd)
        have hj : j < vs.length := by rw [← hl]; exact (List.getElem?_eq_some_iff.mp h2).1
        have h3 := List.getElem?_eq_getElem hj
        refine .inl (.inl ⟨a, vs, _, vs[j], rfl, rfl, SqL.of ha, ?_, post_val ok h (hv j d _ h2 h3)⟩)
        unfold L2.atI
        rw [← hl, h1]
        exact h3
      | dat rx => cases rx
    · exact h.elim
  · cases rep_int ry
    split at h
    · rename_i xs hx
      obtain ⟨a, us, rfl, ha, ra⟩ := lstOf_ok ok rx hx
      split at h
      · rename_i d hd
        obtain ⟨v, hv, rv⟩ := ra.atI hd
        exact .inl (.inl ⟨a, us, _, v, rfl, rfl, SqL.of ha, hv, post_val ok h (.dat rv)⟩)
      · exact h.elim
    · split at h
      · rename_i v hv
        obtain ⟨kvs, hk, hg⟩ := Option.bind_eq_some_iff.mp hv
        obtain ⟨a, rfl, ha⟩ := dkOf_ok ok rx hk
        refine .inr ⟨a, .int v, rfl, ?_, post_val ok h (.int _)⟩
        rw [show some (V.int v) = (getI kvs _).map V.int by rw [hg]; rfl, ← getI_val]
        exact .inl ⟨dkV kvs, Sum.inl _, .inl ha, rfl, rfl⟩
      · exact h.elim
  · exact h.elim

abbrev SlX (X : Cx) : V → Option Int → Option Int → Hp → VK → Prop := fun x lo hi H Q => rSlL X.K x lo hi H Q ∨ (rSlA X.K x lo hi H Q ∨ rSlS x lo hi H Q)
theorem slc_ok {X : Cx} {m : Bool} {d : D} {x : V} {lo hi : Option Int} {Q : VK} (ok : s.Ok X.K) (rx : Rep X.K s d x) (h : Post X.K cA s σ W (slcF m d lo hi s.st) (PQ X.K Q)) : SlX X x lo hi s.H Q := by
  unfold slcF at h
  split at h
  · obtain ⟨a, us, rfl, ha, ra⟩ := rep_tup rx
    refine .inr (.inl ⟨a, us, rfl, ha, fun e => ?_, fun _ => post_tup ok ra.cut h⟩)
    rw [← ra.length] at e
    rw [cutD_whole e] at h
    exact post_val ok h rx
  · cases rep_str rx
    split at h
    · rename_i hz
      exact .inr (.inr ⟨_, rfl, hz, post_val ok h (.str _)⟩)
    · exact h.elim
  · split at h
    · rename_i xs hx
      obtain ⟨a, us, rfl, ha, ra⟩ := lstOf_ok ok rx hx
      exact .inl ⟨a, us, rfl, SqL.of ha, post_mk ok ra.cut h⟩
    · exact h.elim

/-! ### built-ins -/
def CallS (K : PySem.W.Frag) (cA : Nat → Option Addr) (g : List D → Store → Res D) (r : List V → Hp → VK → Prop) : Prop :=
  ∀ (s : Sit) (σ : L2.St) (W : WX) (ds : List D) (vs : List V) (Q : VK), s.Ok K → Reps K s ds vs → Post K cA s σ W (g ds s.st) (PQ K Q) → r vs s.H Q
theorem one_of {K : PySem.W.Frag} {s : Sit} {x : D} {vs : List V} (r : Reps K s [x] vs) : ∃ v, vs = [v] ∧ Rep K s x v := by
  cases r with
  | cons rx rn =>
    cases rn
    exact ⟨_, rfl, rx⟩
theorem calls_len : CallS K cA lenL (fun xs H Q => (∃ p ys, xs = [.ref p] ∧ (SqL K H p ys ∨ SqT K H p ys) ∧ Q (.int ys.length) H) ∨ ∃ z, xs = [.str z] ∧ z.length ≤ sizeLine ∧ Q (.int z.length) H) := by
  intro s σ W ds vs Q ok r h
  unfold lenL at h
  split at h
  · obtain ⟨v, rfl, rx⟩ := one_of r
    unfold lenF at h
    split at h
    · obtain ⟨a, us, rfl, ha, ra⟩ := rep_tup rx
      rw [ra.length] at h
      exact .inl ⟨a, us, rfl, .inr ha, post_val ok h (.int _)⟩
    · obtain ⟨a, rfl, ha⟩ := rep_scr rx
      rw [← List.length_map (f := V.int)] at h
      exact .inl ⟨a, _, rfl, .inl ha, post_val ok h (.int _)⟩
    · cases rep_str rx
      split at h
      · rename_i hz
        exact .inr ⟨_, rfl, hz, post_val ok h (.int _)⟩
      · exact h.elim
    · split at h
      · rename_i xs hx
        obtain ⟨a, us, rfl, ha, ra⟩ := lstOf_ok ok rx hx
        rw [ra.length] at h
        exact .inl ⟨a, us, rfl, .inl (SqL.of ha), post_val ok h (.int _)⟩
      · exact h.elim
  · exact h.elim
def rSumT (K : PySem.W.Frag) : List V → Hp → VK → Prop := fun vs H Q => ∃ (a : Addr) (ns : List Int), vs = [V.ref a] ∧ SqT K H a (ns.map V.int) ∧ Q (.int ns.sum) H
theorem cr_sumT {X : Cx} (hc : X.calm = true) : CallR X (.builtin "sum") (rSumT X.K) := by
  intro pins s σ H vs us Q I r h
  obtain ⟨a, ns, rfl, hs, q⟩ := h
  obtain ⟨its, rv, pl, _⟩ := I.tuple hs
  rw [Vals.ref1 r]
  have hi := rv.ints
  obtain ⟨xs, hx⟩ := hi.allInts.items
  have hn : numsOf its.toArray.toList = ns := by rw [show its.toArray.toList = its from rfl, hi.numsOf]
  rw [hx] at hn
  rw [nums_intItems] at hn
  have hl : s.heap.IsTuple a (intItems xs) := by rw [← hx]; exact pl
  refine PySem.W.ktm_sumG (I.ok.hd hc) hl fun h' tk t' hk => ?_
  rw [preSum_eq, List.take_of_length_le (by simp), hn]
  exact ⟨.int _, H, I.kept hk, ⟨_, rfl⟩, q⟩
theorem calls_sum : CallS K cA sumL (fun vs H Q => rSum K vs H Q ∨ rSumT K vs H Q) := by
  intro s σ W ds vs Q ok r h
  unfold sumL at h
  split at h
  · obtain ⟨v, rfl, rx⟩ := one_of r
    split at h
    · rename_i ns hn
      obtain ⟨xs, hx, hi⟩ := Option.bind_eq_some_iff.mp hn
      obtain ⟨a, us, rfl, ha, ra⟩ := seqOf_ok ok rx hx
      rw [intsOf_ok hi] at ra
      rw [ra.ints] at ha
      rcases ha with ha | ha
      · exact .inl ⟨a, ns, rfl, ha, post_val ok h (.int _)⟩
      · exact .inr ⟨a, ns, rfl, ha, post_val ok h (.int _)⟩
    · exact h.elim
  · exact h.elim
theorem mm_fold (ns : List Int) : ∀ n : Int, (ns.foldl min n ∈ n :: ns ∧ ∀ y ∈ n :: ns, ns.foldl min n ≤ y) ∧ (ns.foldl max n ∈ n :: ns ∧ ∀ y ∈ n :: ns, y ≤ ns.foldl max n) := by
  induction ns with
  | nil => intro n; exact ⟨⟨by simp, fun y h => by simp at h; simp [h]⟩, by simp, fun y h => by simp at h; simp [h]⟩
  | cons a r ih =>
    intro n
    obtain ⟨⟨h1, h2⟩, _⟩ := ih (min n a)
    obtain ⟨_, h3, h4⟩ := ih (max n a)
    simp only [List.foldl_cons]
    refine ⟨⟨?_, fun y hy => ?_⟩, ?_, fun y hy => ?_⟩
    · rcases List.mem_cons.mp h1 with e | e
      · rw [e]; rcases Int.le_total n a with h | h
        · rw [Int.min_eq_left h]; simp
        · rw [Int.min_eq_right h]; simp
      · simp [e]
    · have h5 := h2 (min n a) (by simp)
      rcases List.mem_cons.mp hy with e | hy
      · rw [e]; omega
      · rcases List.mem_cons.mp hy with e | hy
        · rw [e]; omega
        · exact h2 y (by simp [hy])
    · rcases List.mem_cons.mp h3 with e | e
      · rw [e]; rcases Int.le_total n a with h | h
        · rw [Int.max_eq_right h]; simp
        · rw [Int.max_eq_left h]; simp
      · simp [e]
    · have h5 := h4 (max n a) (by simp)
      rcases List.mem_cons.mp hy with e | hy
      · rw [e]; omega
      · rcases List.mem_cons.mp hy with e | hy
        · rw [e]; omega
        · exact h4 y (by simp [hy])
theorem mmL_ok {g : Bool} {x : D} {v : V} {Q : VK} (ok : s.Ok K) (r : Rep K s x v) (h : Post K cA s σ W (mmL g x s.st) (PQ K Q)) : ∃ (a : Addr) (n : Int) (ns : List Int), v = V.ref a ∧ SqL K s.H a ((n :: ns).map V.int) ∧
    ∀ m, m ∈ n :: ns → ((g = false ∧ ∀ y ∈ n :: ns, m ≤ y) ∨ (g = true ∧ ∀ y ∈ n :: ns, y ≤ m)) → Q (.int m) s.H := by
  unfold mmL at h
  split at h
  · rename_i xs hx
    obtain ⟨a, us, rfl, ha, ra⟩ := lstOf_ok ok r hx
    split at h
    · rename_i n ns hi
      rw [intsOf_ok hi] at ra
      rw [ra.ints] at ha
      refine ⟨a, n, ns, rfl, SqL.of ha, fun m hm hq => ?_⟩
      obtain ⟨⟨k1, k2⟩, k3, k4⟩ := mm_fold ns n
      rcases hq with ⟨rfl, hq⟩ | ⟨rfl, hq⟩
      · have e : m = ns.foldl min n := by have := k2 m hm; have := hq _ k1; omega
        rw [e]; exact post_val ok h (.int _)
      · have e : m = ns.foldl max n := by have := k4 m hm; have := hq _ k3; omega
        rw [e]; exact post_val ok h (.int _)
    · exact h.elim
  · exact h.elim
theorem calls_min : CallS K cA minL (fun xs H Q => (∃ i j, xs = [.int i, .int j] ∧ Q (.int (if j < i then j else i)) H) ∨ rMin K xs H Q) := by
  intro s σ W ds vs Q ok r h
  unfold minL at h
  split at h
  · cases r with
    | cons r1 r2 =>
      obtain ⟨v, rfl, rx⟩ := one_of r2
      cases rep_int r1
      cases rep_int rx
      exact .inl ⟨_, _, rfl, post_val ok h (.int _)⟩
  · obtain ⟨v, rfl, rx⟩ := one_of r
    obtain ⟨a, n, ns, rfl, h1, h2⟩ := mmL_ok ok rx h
    exact .inr ⟨a, n :: ns, rfl, h1, by simp, fun m hm hq => h2 m hm (.inl ⟨rfl, hq⟩)⟩
  · exact h.elim
theorem calls_max : CallS K cA maxL (fun xs H Q => (∃ i j, xs = [.int i, .int j] ∧ Q (.int (if j > i then j else i)) H) ∨ rMax K xs H Q) := by
  intro s σ W ds vs Q ok r h
  unfold maxL at h
  split at h
  · cases r with
    | cons r1 r2 =>
      obtain ⟨v, rfl, rx⟩ := one_of r2
      cases rep_int r1
      cases rep_int rx
      exact .inl ⟨_, _, rfl, post_val ok h (.int _)⟩
  · obtain ⟨v, rfl, rx⟩ := one_of r
    obtain ⟨a, n, ns, rfl, h1, h2⟩ := mmL_ok ok rx h
    exact .inr ⟨a, n :: ns, rfl, h1, by simp, fun m hm hq => h2 m hm (.inr ⟨rfl, hq⟩)⟩
  · exact h.elim
theorem insI_perm (x : Int) : ∀ l : List Int, (insI x l).Perm (x :: l)
  | [] => .refl _
  | y :: l => by
    unfold insI
    split
    · exact .refl _
    · exact ((insI_perm x l).cons y).trans (.swap x y l)
theorem srtI_perm : ∀ l : List Int, (srtI l).Perm l
  | [] => .refl _
  | x :: l => (insI_perm x (srtI l)).trans ((srtI_perm l).cons x)
theorem insI_le (x : Int) : ∀ l : List Int, l.Pairwise (· ≤ ·) → (insI x l).Pairwise (· ≤ ·)
  | [], _ => by simp [insI]
  | y :: l, h => by
    unfold insI
    rw [List.pairwise_cons] at h
    split
    · rename_i hxy
      rw [List.pairwise_cons, List.pairwise_cons]
      exact ⟨fun z hz => by
        rcases List.mem_cons.mp hz with rfl | hz
        · exact hxy
        · exact Int.le_trans hxy (h.1 z hz), h⟩
    · rename_i hxy
      rw [List.pairwise_cons]
      refine ⟨fun z hz => ?_, insI_le x l h.2⟩
      rcases List.mem_cons.mp ((insI_perm x l).mem_iff.mp hz) with rfl | hz
      · omega
      · exact h.1 z hz
theorem srtI_le : ∀ l : List Int, (srtI l).Pairwise (· ≤ ·)
  | [] => .nil
  | x :: l => insI_le x _ (srtI_le l)
theorem sorted_same : ∀ {a b : List Int}, a.Perm b → a.Pairwise (· ≤ ·) → b.Pairwise (· ≤ ·) → a = b
  | [], b, p, _, _ => (List.nil_perm.mp p).symm
  | x :: a, [], p, _, _ => (List.perm_nil.mp p)
  | x :: a, y :: b, p, h1, h2 => by
    rw [List.pairwise_cons] at h1 h2
    have e : x = y := by
      have hx : x ∈ y :: b := p.mem_iff.mp (by simp)
      have hy : y ∈ x :: a := p.mem_iff.mpr (by simp)
      rcases List.mem_cons.mp hx with e | hx
      · exact e
      · rcases List.mem_cons.mp hy with e | hy
        · exact e.symm
        · exact Int.le_antisymm (h1.1 y hy) (h2.1 x hx)
    subst e
    rw [sorted_same (p.cons_inv) h1.2 h2.2]
theorem insT_perm (x : List Int) : ∀ l, (insT x l).Perm (x :: l)
  | [] => .refl _
  | y :: ys => by
    simp only [insT]
    split
    · exact .refl _
    · exact (List.Perm.cons y (insT_perm x ys)).trans (.swap x y ys)
theorem srtT_perm : ∀ l : List (List Int), (srtT l).Perm l
  | [] => .refl _
  | x :: l => (insT_perm x _).trans (.cons x (srtT_perm l))
theorem insT_le (x : List Int) : ∀ l : List (List Int), l.Pairwise (fun x y => HT.lexLt y x = false) → (insT x l).Pairwise (fun x y => HT.lexLt y x = false)
  | [], _ => List.pairwise_singleton _ _
  | y :: l, h => by
    simp only [insT]
    rw [List.pairwise_cons] at h
    split
    · rename_i hxy
      rw [List.pairwise_cons, List.pairwise_cons]
      exact ⟨fun z hz => by
        rcases List.mem_cons.mp hz with rfl | hz
        · exact hxy
        · exact NtL.lex_tr x y z hxy (h.1 z hz), h⟩
    · rename_i hxy
      rw [List.pairwise_cons]
      refine ⟨fun z hz => ?_, insT_le x l h.2⟩
      rcases List.mem_cons.mp ((insT_perm x l).mem_iff.mp hz) with rfl | hz
      · exact NtL.lex_asym y z (by simpa using hxy)
      · exact h.1 z hz
theorem srtT_le : ∀ l : List (List Int), (srtT l).Pairwise (fun x y => HT.lexLt y x = false)
  | [] => .nil
  | x :: l => insT_le x _ (srtT_le l)
theorem lex_anti : ∀ {a b : List Int}, HT.lexLt a b = false → HT.lexLt b a = false → a = b
  | [], [], _, _ => rfl
  | [], y :: b, h, _ => by rw [HT.lexLt_nil_cons] at h; cases h
  | x :: a, [], _, h => by rw [HT.lexLt_nil_cons] at h; cases h
  | x :: a, y :: b, h1, h2 => by
    rw [HT.lexLt_cons] at h1 h2
    by_cases e : x = y
    · subst e
      rw [if_pos rfl] at h1 h2
      rw [lex_anti h1 h2]
    · rw [if_neg e] at h1
      rw [if_neg (Ne.symm e)] at h2
      have := of_decide_eq_false h1
      have := of_decide_eq_false h2
      omega
theorem sorted_sameT : ∀ {a b : List (List Int)}, a.Perm b → a.Pairwise (fun x y => HT.lexLt y x = false) → b.Pairwise (fun x y => HT.lexLt y x = false) → a = b
  | [], b, p, _, _ => (List.nil_perm.mp p).symm
  | x :: a, [], p, _, _ => (List.perm_nil.mp p)
  | x :: a, y :: b, p, h1, h2 => by
    rw [List.pairwise_cons] at h1 h2
    have e : x = y := by
      have hx : x ∈ y :: b := p.mem_iff.mp (by simp)
      have hy : y ∈ x :: a := p.mem_iff.mpr (by simp)
      rcases List.mem_cons.mp hx with e | hx
      · exact e
      · rcases List.mem_cons.mp hy with e | hy
        · exact e.symm
        · exact lex_anti (h2.1 x hx) (h1.1 y hy)
    subst e
    rw [sorted_sameT (p.cons_inv) h1.2 h2.2]
theorem tups_ok {s : Sit} (ok : s.Ok K) : ∀ {ds : List D} {nss : List (List Int)} {vs : List V}, tupsOf ds = some nss → RDs K s.H s.M ds vs →
    ∃ ps : List (V × List Int), vs = ps.map (·.1) ∧ nss = ps.map (·.2) ∧ ∀ p ∈ ps, p.2 ≠ [] ∧ RD K s.H s.M (tupD p.2) p.1 ∧ ∃ t, p.1 = V.ref t ∧ SqT K s.H t (p.2.map V.int)
  | [], nss, vs, h, r => by
    cases r
    simp only [tupsOf, Option.some.injEq] at h
    subst h
    exact ⟨[], rfl, rfl, fun p hp => absurd hp (by simp)⟩
  | d :: ds, nss, vs, h, r => by
    cases r with
    | cons r1 r2 =>
      rename_i v vs
      cases d with
      | tup xs =>
        cases xs with
        | nil => simp [tupsOf] at h
        | cons x xs =>
          simp only [tupsOf] at h
          split at h
          · rename_i ns nss' h1 h2
            cases h
            obtain ⟨ps, e1, e2, e3⟩ := tups_ok ok h2 r2
            have ei := intsOf_ok h1
            rw [ei] at r1
            refine ⟨(v, ns) :: ps, by rw [e1]; rfl, by rw [e2]; rfl, fun p hp => ?_⟩
            rcases List.mem_cons.mp hp with rfl | hp
            · refine ⟨fun z => ?_, r1, ?_⟩
              · have z : ns = [] := z
                rw [z] at ei
                cases ei
              · cases r1 with
                | tup hq rs =>
                  rw [rs.ints] at hq
                  exact ⟨_, rfl, SqT.of hq⟩
            · exact e3 p hp
          · cases h
      | _ => simp [tupsOf] at h
theorem calls_sorted (m : Bool) : CallS K cA (sortedL m) (fun vs H Q => (rSortedI K vs H Q ∨ rSortedX K vs H Q) ∨ rSortDI vs H Q) := by
  intro s σ W ds vs Q ok r h
  unfold sortedL at h
  split at h
  · obtain ⟨v, rfl, rx⟩ := one_of r
    split at h
    · rename_i xs hx
      obtain ⟨a, us, rfl, ha, ra⟩ := lstOf_ok ok rx hx
      split at h
      · rename_i ns hi
        rw [intsOf_ok hi] at ra
        rw [ra.ints] at ha
        refine .inl (.inl ⟨a, ns, rfl, SqL.of ha, fun ns' p hp hs hf => ?_⟩)
        rw [sorted_same (hp.trans (srtI_perm ns).symm) hs (srtI_le ns)]
        exact post_mk ok RDs.of_ints h p hf
      · split at h
        · rename_i nss hi
          obtain ⟨ps, e1, e2, e3⟩ := tups_ok ok hi ra
          subst e1 e2
          refine .inl (.inr ⟨a, ps, rfl, SqL.of ha, fun p hp => ⟨(e3 p hp).1, (e3 p hp).2.2⟩, fun qs p hp hs hf => ?_⟩)
          have es : (qs.map (·.2)) = srtT (ps.map (·.2)) := sorted_sameT ((hp.map _).trans (srtT_perm _).symm) (List.pairwise_map.mpr hs) (srtT_le _)
          rw [← es] at h
          refine post_mk ok ?_ h p hf
          have : ∀ qs : List (V × List Int), (∀ q ∈ qs, RD K s.H s.M (tupD q.2) q.1) → RDs K s.H s.M ((qs.map (·.2)).map tupD) (qs.map (·.1)) := by
            intro qs
            induction qs with
            | nil => intro _; exact .nil
            | cons q qs ih => intro hq; exact .cons (hq q (by simp)) (ih fun q' h' => hq q' (by simp [h']))
          exact this qs fun q hq => (e3 q (hp.mem_iff.mp hq)).2.1
        · exact h.elim
    · split at h
      · rename_i kvs hk
        obtain ⟨a, rfl, ha⟩ := dkOf_ok ok rx hk
        refine .inr ⟨a, kvs, rfl, ha, fun ys p hp hs hf => ?_⟩
        rw [sorted_same (hp.trans (srtI_perm _).symm) hs (srtI_le _)]
        exact post_mk ok RDs.of_ints h p hf
      · exact h.elim
  · exact h.elim
theorem calls_all : CallS K cA allL (rAll K) := by
  intro s σ W ds vs Q ok r h
  unfold allL at h
  split at h
  · obtain ⟨v, rfl, rx⟩ := one_of r
    split at h
    · rename_i ns hn
      obtain ⟨xs, hx, hi⟩ := Option.bind_eq_some_iff.mp hn
      obtain ⟨a, us, rfl, ha, ra⟩ := lstOf_ok ok rx hx
      rw [boolsOf_ok hi] at ra
      rw [ra.bools] at ha
      exact ⟨a, ns, rfl, SqL.of ha, post_val ok h (.bl _)⟩
    · exact h.elim
  · exact h.elim
theorem calls_tuple : CallS K cA tupleL (fun xs H Q => ∃ p ys, xs = [.ref p] ∧ ((SqL K H p ys ∧ ∀ l, H l = none → Q (.ref l) (upd H l (.tup ys))) ∨ (SqT K H p ys ∧ Q (.ref p) H))) := by
  intro s σ W ds vs Q ok r h
  unfold tupleL at h
  split at h
  · obtain ⟨v, rfl, rx⟩ := one_of r
    split at h
    · obtain ⟨a, us, rfl, ha, ra⟩ := rep_tup rx
      exact ⟨a, us, rfl, .inr ⟨ha, post_val ok h rx⟩⟩
    · split at h
      · rename_i xs hx
        obtain ⟨a, us, rfl, ha, ra⟩ := lstOf_ok ok rx hx
        exact ⟨a, us, rfl, .inl ⟨SqL.of ha, post_tup ok ra h⟩⟩
      · exact h.elim
  · exact h.elim
theorem calls_list {m : Bool} : CallS K cA (listL m) (fun xs H Q => ∃ p ys, xs = [.ref p] ∧ (SqL K H p ys ∨ SqT K H p ys) ∧ ∀ l, H l = none → Q (.ref l) (upd H l (.lst ys))) := by
  intro s σ W ds vs Q ok r h
  unfold listL at h
  split at h
  · obtain ⟨v, rfl, rx⟩ := one_of r
    split at h
    · obtain ⟨a, us, rfl, ha, ra⟩ := rep_tup rx
      exact ⟨a, us, rfl, .inr ha, post_mk ok ra h⟩
    · split at h
      · rename_i xs hx
        obtain ⟨a, us, rfl, ha, ra⟩ := lstOf_ok ok rx hx
        exact ⟨a, us, rfl, .inl (SqL.of ha), post_mk ok ra h⟩
      · exact h.elim
  · exact h.elim
theorem calls_int : CallS K cA intL (fun xs H Q => ((∃ i, xs = [.int i] ∧ Q (.int i) H) ∨ ∃ k, xs = [.bl k] ∧ Q (.int (if k then 1 else 0)) H) ∨ ∃ a n, xs = [.str a] ∧ PySem.intText? a = some n ∧ a.length ≤ 640 ∧ Q (.int n) H) := by
  intro s σ W ds vs Q ok r h
  unfold intL at h
  split at h
  · obtain ⟨v, rfl, rx⟩ := one_of r
    split at h
    · cases rep_int rx
      exact .inl (.inl ⟨_, rfl, post_val ok h (.int _)⟩)
    · cases rep_bl rx
      exact .inl (.inr ⟨_, rfl, post_val ok h (.int _)⟩)
    · cases rep_str rx
      split at h
      · rename_i k hk
        split at h
        · rename_i hz
          exact .inr ⟨_, k, rfl, hk, hz, post_val ok h (.int _)⟩
        · exact h.elim
      · exact h.elim
    · exact h.elim
  · exact h.elim
theorem calls_str : CallS K cA strL (fun xs H Q => (∃ i, xs = [.int i] ∧ i.natAbs.log2 < 1920 ∧ Q (.str (toString i)) H) ∨ ∃ a, xs = [.str a] ∧ Q (.str a) H) := by
  intro s σ W ds vs Q ok r h
  unfold strL at h
  split at h
  · obtain ⟨v, rfl, rx⟩ := one_of r
    split at h
    · cases rep_int rx
      split at h
      · rename_i hz
        exact .inl ⟨_, rfl, hz, post_val ok h (.str _)⟩
      · exact h.elim
    · cases rep_str rx
      exact .inr ⟨_, rfl, post_val ok h (.str _)⟩
    · exact h.elim
  · exact h.elim

/-! ### isinstance -/
theorem tyX_ok {d : D} {v : V} (hx : ∀ c n, d ≠ .exn c n) (r : RD K s.H s.M d v) : TyX K s.H v (.type (tyN d)) := by
  cases r with
  | non => exact .base .non
  | bl b => exact .base (.bl b)
  | int b => exact .base (.int b)
  | str b => exact .base (.str b)
  | tup h _ =>
    exact .base (.tup h)
  | lst h _ _ => exact .base (.lst h)
  | scr h =>
    rcases h with ⟨o, h⟩ | ⟨o, its, n, h1, h2, _⟩
    · exact .base (.frz h)
    · exact .kList h1 h2
  | dct h _ => exact .base (.dK h)
  | dcT h _ _ _ => exact .base (.dT h)
  | exn _ _ _ _ _ => exact absurd rfl (hx _ _)
theorem isiK_cases {b : String} (h : isiK b = true) : b = "int" ∨ b = "bool" ∨ b = "str" ∨ b = "tuple" ∨ b = "list" := by
  unfold isiK at h
  simp only [Bool.or_eq_true, beq_iff_eq] at h
  rcases h with (((h | h) | h) | h) | h
  · exact .inl h
  · exact .inr (.inl h)
  · exact .inr (.inr (.inl h))
  · exact .inr (.inr (.inr (.inl h)))
  · exact .inr (.inr (.inr (.inr h)))
theorem isiN_ok {d : D} {b : String} (h : isiK b = true) : kitB (tyN d) b = some (isiN (tyN d) b) := by
  have key : ∀ a ∈ ["NoneType", "bool", "int", "str", "tuple", "list", "dict"], ∀ b ∈ ["int", "bool", "str", "tuple", "list"], kitB a b = some (isiN a b) := by decide +kernel
  refine key _ ?_ _ ?_
  · cases d <;> simp [tyN]
  · rcases isiK_cases h with rfl | rfl | rfl | rfl | rfl <;> simp
theorem isi_ok {d : D} {v : V} {ty : String} {Q : VK} (ok : s.Ok K) (r : Rep K s d v) (h : Post K cA s σ W (isiF d ty s.st) (PQ K Q)) : ∃ t b, TyX K s.H v t ∧ PySem.W.kitOne K t (.type ty) = some b ∧ Q (.bl b) s.H := by
  unfold isiF at h
  split at h
  · rename_i hk
    split at h
    · rename_i l
      split at h
      · rename_i xs hx
        obtain ⟨a, vs, rfl, h1, _⟩ := lstOf_ok ok r hx
        exact ⟨_, _, .base (.lst h1), kit_ty (isiN_ok (d := .ref l) hk), post_val ok h (.bl _)⟩
      · exact h.elim
    · exact h.elim
    · exact h.elim
    · exact h.elim
    · rename_i hn hn' hn2 hn3
      cases r with
      | ref z => exact absurd rfl (hn _)
      | ins => exact absurd rfl (hn2 _ _)
      | lr => exact absurd rfl (hn3 _)
      | dat r => exact ⟨_, _, tyX_ok (fun c n e => hn' c n e) r, kit_ty (isiN_ok hk), post_val ok h (.bl _)⟩
  · exact h.elim
end
end Zn

set_option maxHeartbeats 4000000
/-! Zn, part S: sorted(set(xs)) of whole numbers, any number of them. -/
namespace Zn
open PySem PySem.Spec PyProof.Rows L2
section
variable {P : Program} {w : World} {A : Around} {E : Value → Shared → Prop} {s : Shared} {a : Addr}
set_option maxHeartbeats 3200000 in
theorem call_set_lst {l : Addr} {items : Array Value} (ns : List Int) {Q : Value → Shared → Prop} (hh : A.handled = none) (hl : s.heap.IsList l items) (hit : IntsAre items.toList ns) (hb : ns.length + 1 < scanBound)
    (h : ∀ (h' : Heap) (tk c : Nat), SetR w h' s.heap.objs.size (fun j => decide (j ∈ ns)) c → c ≤ ns.length → (∀ b o, s.heap.get? b = some o → h'.get? b = some o) → Q (.ref s.heap.objs.size) { s with heap := h', toks := tk }) :
    wpAny (model P w) A (call (.type "set") [.ref l]) Q E s := by
  have hisz : items.size = ns.length := by
    have q := IntsAre.length hit
    rw [Array.length_toList] at q
    exact q
  obtain ⟨c, tl, hmro⟩ := F.called_set.mro
  have hmade := F.called_set.made
  have hsub := F.called_set.sub
  refine wpAny_call (codeAny_of_tree ?_)
  show wpAny _ _ (callAny (.type "set") _) _ _ _
  refine wpAny_pure ⟨Code.quiet_builtin _ (by decide +kernel), codeAny_builtin F.entry_type_call ?_⟩
  rw [Around.under_plain (weight_type_call_type "set" [.ref l] []) rfl]
  have h1 := F.called_set.notType
  have h2 := F.called_set.canCreate
  have hct := F.typeCall_set_1 (.ref l)
  repeat (any_goals (first | assumption | wp_step))

  refine codeAny_mono (code_set_led1 (.ref l) (E := E) (Q₁ := fun obj s₁ => obj = .ref s.heap.objs.size ∧ s₁ = { s with heap := s.heap.push { cls := .type "set", dict := none, data := .set #[] 0 (.fresh 0 0 (!w.params.followText "set-order")) } }) ⟨rfl, rfl⟩) fun r s₁ hr => ?_
  cases r with
  | error e => exact hr
  | ok fl =>
    cases fl with
    | ret obj =>
      obtain ⟨rfl, rfl⟩ := hr
      have hS : (s.heap.push { cls := .type "set", dict := none, data := .set #[] 0 (.fresh 0 0 (!w.params.followText "set-order")) }).get? s.heap.objs.size = some { cls := .type "set", dict := none, data := .set #[] 0 (.fresh 0 0 (!w.params.followText "set-order")) } := Heap.get?_push_size _ rfl
      have hT : Shared.TypeIs { s with heap := s.heap.push { cls := .type "set", dict := none, data := .set #[] 0 (.fresh 0 0 (!w.params.followText "set-order")) } } (.ref s.heap.objs.size) "set" := ⟨_, hS, rfl⟩
      have hli := F.called_set.init.lookup
      have hbi := F.called_set.init.bind (.ref s.heap.objs.size)
      repeat (any_goals (first | assumption | wp_step))

      refine codeAny_mono (codeAny_call_builtin (R := wants (fun r s₂ => r = .none ∧ ∃ h' tk c, s₂ = { s with heap := h', toks := tk } ∧ SetR w h' s.heap.objs.size (fun j => decide (j ∈ ns)) c ∧ c ≤ ns.length ∧
          (∀ b o, s.heap.get? b = some o → h'.get? b = some o)) E) F.called_set.init.plain F.entry_set_init (check_set_init_1 hT ?_)) fun r₂ s₂ hr₂ => ?_
      · obtain ⟨ol, hol, hcl, nl, hdl⟩ := hl
        obtain ⟨ocls, odict, odata, oslots⟩ := ol
        simp only at hcl hdl
        subst hcl; subst hdl
        have hol' : (s.heap.push { cls := .type "set", dict := none, data := .set #[] 0 (.fresh 0 0 (!w.params.followText "set-order")) }).get? l = some { cls := .type "list", dict := odict, data := .seq items nl, slots := oslots } := Heap.get?_push_of_some _ hol
        have hsls := F.sub_list_set
        have hslf := F.sub_list_frozenset
        have hne : (Value.type "list" == Value.type "dict") = false := by decide
        have hl1 : (s.heap.push { cls := .type "set", dict := none, data := .set #[] 0 (.fresh 0 0 (!w.params.followText "set-order")) }).IsList l items := ⟨_, hol', rfl, nl, rfl⟩
        unfold Builtin.«set.__init__» noKeywords Builtin.Frozenset.updateFrom
        generalize hPI : pyIter = PI
        wp_walk
        subst hPI

        refine wpAny_pyIter_list hl1 ?_
        refine wpAny_bind (wpAny_runValue ?_)
        have hlS : l < s.heap.objs.size := Heap.lt_size hol
        have hh3 : A.in1.in1.in1.handled = none := by simp [hh]
        have hz1 : (s.heap.push { cls := .type "set", dict := none, data := .set #[] 0 (.fresh 0 0 (!w.params.followText "set-order")) }).objs.size = s.heap.objs.size + 1 := Heap.size_push ..
        have hneI : l ≠ (s.heap.push { cls := .type "set", dict := none, data := .set #[] 0 (.fresh 0 0 (!w.params.followText "set-order")) }).objs.size := by
          rw [Heap.size_push]; exact Nat.ne_of_lt (Nat.lt_succ_of_lt hlS)
        have hSf : s.heap.objs.size ∉ [(s.heap.push { cls := .type "set", dict := none, data := .set #[] 0 (.fresh 0 0 (!w.params.followText "set-order")) }).objs.size, l] := by
          rw [Heap.size_push]; simp only [List.mem_cons, List.mem_singleton, List.not_mem_nil, or_false, not_or]
          exact ⟨Nat.ne_of_lt (Nat.lt_succ_self _), Nat.ne_of_gt hlS⟩
        have hval : ∀ (i : Nat) (v : Value), items[i]? = some v → ∃ k t, ns[i]? = some k ∧ v = .int k t := fun i v hv => by
          have hi : i < ns.length := by rw [← hisz]; exact (Array.getElem?_eq_some_iff.mp hv).1
          obtain ⟨t, e⟩ := PyProof.Rows.IntsAre.int_at hit i v (by rw [Array.getElem?_toList]; exact hv)
          refine ⟨ns[i], t, List.getElem?_eq_getElem hi, ?_⟩
          rw [e, List.getD_eq_getElem?_getD, List.getElem?_eq_getElem hi] <;> rfl
        refine set_update_ints ((Walks.list hh3 _ l hneI items).toS) s.heap.objs.size
          hSf ns hisz hb hval (items.size - 0) 0 _ (by omega) (Nat.zero_le _)
          ⟨⟨_, Heap.get?_push_size _ rfl, rfl, rfl⟩, (hl1.push _)⟩ ?hS0 ?hR
        case hS0 =>
          have hget : ((s.heap.push { cls := .type "set", dict := none, data := .set #[] 0 (.fresh 0 0 (!w.params.followText "set-order")) }).push { cls := .type "list_iterator", data := .fields #[.ref l, .int 0 0] }).get? s.heap.objs.size
              = some { cls := .type "set", dict := none, data := .set #[] 0 (.fresh 0 0 (!w.params.followText "set-order")) } := Heap.get?_push_of_some _ hS
          exact ⟨0, Nat.le_refl 0, setR_new_at hget⟩
        case hR =>
          intro s' c' hm hc' hS'
          obtain ⟨h', g2, d', tk', os'⟩ := s'
          have eg : g2 = s.gens := hm.gens
          have ed : d' = s.drawn := hm.drawn
          have eo : os' = s.os := hm.os
          subst eg; subst ed; subst eo
          show wpAny _ _ _ _ _ _
          refine wpAny_pure ?_
          show wpAny _ _ (ret Value.none) _ _ _
          rw [hisz] at hc'
          refine wpAny_pure ⟨rfl, h', tk', c', rfl, hS', hc', fun b o e => ?_⟩
          have hb0 : b < s.heap.objs.size := Heap.lt_size e
          have hb1 : b ≠ s.heap.objs.size := Nat.ne_of_lt hb0
          have hb2 : b ≠ (s.heap.push { cls := .type "set", dict := none, data := .set #[] 0 (.fresh 0 0 (!w.params.followText "set-order")) }).objs.size := by
            rw [Heap.size_push]; exact Nat.ne_of_lt (Nat.lt_succ_of_lt hb0)
          exact hm.heap b o (by simp only [List.mem_cons, List.mem_singleton, List.not_mem_nil, or_false, not_or]; exact ⟨hb1, hb2⟩) (Heap.get?_push_of_some _ (Heap.get?_push_of_some _ e))

      · cases r₂ with
        | error e => exact hr₂
        | ok fl₂ =>
          cases fl₂ with
          | ret r =>
            obtain ⟨rfl, h', tk, c', rfl, hS', hc', hk'⟩ := hr₂
            repeat (any_goals (first | assumption | wp_step))
            exact h _ _ _ hS' hc' hk'
          | _ => exact hr₂.elim
    | _ => exact hr.elim

theorem sorted_setI {S : Int → Bool} {n : Nat} {Q : Value → Shared → Prop} (R : SetR w s.heap a S n) (hh : A.handled = none)
    (hQ : ∀ s' p (out : Array Value) (c : Nat) (ns : List Int), (∀ b o, s.heap.get? b = some o → s'.heap.get? b = some o) → s'.gens = s.gens → s'.os = s.os → s.heap.objs.size ≤ p →
      s'.heap.get? p = some (seqObj "list" out c) → IntsAre out.toList ns → ns.Pairwise (· < ·) → (∀ k, k ∈ ns ↔ S k = true) → ns.length = n → n < scanBound → Q (.ref p) s') :
    wpAny (model P w) A (call (.builtin "sorted") [.ref a]) Q E s := by
  obtain ⟨o, es, ep, t, ho, hex, hd, g, nd, hm, hb, hf, hn, hr, hl⟩ := R
  refine Calls.call_function_entry kind_sorted plain_sorted entry_sorted (args_sorted1 _) ?_
  unfold Builtin.«sorted»
  refine wpAny_bind (m := checkCount "sorted" 1 1 _) (wpAny_pure ?_)
  refine wpAny_bind (collect_set (A := A.in1) hh ⟨o, ho, hex.1, hd⟩ hf hb hr hl fun s1 vs k1 hz g1 o1 pm => ?_)
  have hvl : vs.length = n := by rw [pm.length_eq, List.length_map, Array.length_toList]; exact hn
  have hnb : n < scanBound := by rw [← hn]; exact hb
  have hvz : vs.length ≤ sizeLine := by rw [hvl, sizeLine_eq]; unfold scanBound at hnb; omega
  have hI : IntsAre vs (vs.map SrtO.iv) := SrtO.ints_iv fun v hv => by
    obtain ⟨e, he, q⟩ := List.mem_map.mp (pm.mem_iff.mp hv)
    obtain ⟨k, tk, h1, _⟩ := g e he
    exact ⟨k, tk, by rw [← q]; exact h1⟩
  have pk : (vs.map SrtO.iv).Perm (es.toList.map keyOf) := by
    have q := pm.map SrtO.iv
    rw [List.map_map] at q
    have e : es.toList.map (SrtO.iv ∘ fun x => x.2) = es.toList.map keyOf := List.map_congr_left fun x hx => by
      obtain ⟨k, tk, h1, _⟩ := g x hx
      show SrtO.iv x.2 = keyOf x
      unfold keyOf
      rw [h1]; rfl
    rw [← e]; exact q
  refine wpAny_bind (wpAny_newList ?_ hvz)
  have hoL : (s1.heap.push (seqObj "list" vs.toArray 0)).get? s1.heap.objs.size = some (seqObj "list" vs.toArray 0) := Heap.get?_push_size _ rfl
  refine wpAny_bind (wpAny_holding (wpAny_call_entry slot_list_sort ⟨_, hoL, rfl⟩ entry_list_sort
    (SrtO.list_sort_ord SrtO.swo_int hoL hvz (fun h2 => SrtO.ints_sortable hI h2) fun out h1 h2 => ⟨_, rfl, ?_⟩) (args_list_sort _)))
  obtain ⟨k1', k2, k3⟩ := SrtO.ints_out hI h1 h2
  obtain ⟨c, hc⟩ := sortedHeap_at (vs := vs) (out := out.toArray) hoL
  have pn : (out.map SrtO.iv).Perm (es.toList.map keyOf) := k2.trans pk
  refine wpAny_pure ⟨_, rfl, hQ _ s1.heap.objs.size out.toArray c (out.map SrtO.iv) (fun b u e => ?_) g1 o1 hz hc k1' (lt_of_le_nodup _ k3 (pn.nodup_iff.mpr nd)) (fun k => by rw [pn.mem_iff, ← hm k]) ?_ hnb⟩
  · have q := k1 b u e
    have hlt := Heap.lt_size q
    show (sortedHeap (s1.heap.push (seqObj "list" vs.toArray 0)) s1.heap.objs.size vs out.toArray).get? b = some u
    rw [sortedHeap_old (Nat.ne_of_lt hlt) (by rw [size_push']; exact Nat.lt_succ_of_lt hlt)]
    exact Heap.get?_push_of_some _ q
  · rw [pn.length_eq, List.length_map, Array.length_toList]; exact hn
end
section
variable {X : Cx}
def rSetLI (K : PySem.W.Frag) (w : World) : List V → Hp → VK → Prop := fun xs H Q => ∃ (l : Addr) (ns : List Int), xs = [V.ref l] ∧ SqL K H l (ns.map V.int) ∧ ns.length + 1 < scanBound ∧
  ∀ (p : Addr) (c : Nat), H p = none → Q (.ref p) (upd H p (SetO w p (fun j => decide (j ∈ ns)) c))
theorem cr_setL (hc : X.calm = true) : CallR X (.type "set") (rSetLI X.K X.w) := by
  intro pins s σ H xs us Q I r h
  obtain ⟨l, ns, rfl, hl, hb, q⟩ := h
  rw [Vals.ref1 r]
  obtain ⟨its, rv, pl, hz⟩ := I.list hl
  have hn : H s.heap.objs.size = none := I.hok.fresh (Nat.le_refl _)
  refine call_set_lst (P := X.prog) (w := X.w) ns (I.ok.hd hc) pl.isList (by simpa using rv.ints) hb fun h' tk c R hc' k => ?_
  exact ⟨.ref s.heap.objs.size, upd H s.heap.objs.size (SetO X.w s.heap.objs.size (fun j => decide (j ∈ ns)) c), I.laid (t' := tk) k (Nat.le_refl _) (setO_new R), rfl, q _ c hn⟩
def rSortedSI (w : World) : List V → Hp → VK → Prop := fun vs H Q => ∃ (a : Addr) (S : Int → Bool) (n : Nat), vs = [V.ref a] ∧ H a = some (SetO w a S n) ∧
  ∀ (ns : List Int) (p : Addr), ns.Pairwise (· < ·) → (∀ k : Int, k ∈ ns ↔ S k = true) → H p = none → Q (.ref p) (upd H p (.lst (ns.map V.int)))
theorem cr_sortedSI (hc : X.calm = true) : CallR X (.builtin "sorted") (rSortedSI X.w) := by
  intro pins s σ H vs us Q I r h
  obtain ⟨a, S, n, rfl, ha, q⟩ := h
  have R := setO_get I ha
  rw [Vals.ref1 r]
  refine sorted_setI R (I.ok.hd hc) fun s' p out c ns k g o hp hg hi hs hm hl hnb => ?_
  have hlen : (ns.map V.int).length ≤ sizeLine := by rw [List.length_map, hl, sizeLine_eq]; unfold scanBound at hnb; omega
  have hn : H p = none := I.hok.fresh hp
  have J : Inv X pins σ (upd H p (.lst (ns.map V.int))) { s with heap := s'.heap, gens := s'.gens, drawn := s'.drawn, toks := s'.toks } :=
    I.call (ch := []) (Un.laid k hp hn) (I.hok.laid k hp ⟨hlen, out.toList, c, vals_of_ints hi, hg⟩) (by rw [g]; exact I.bare) (fun _ z => nomatch z)
  have e : s' = { s with heap := s'.heap, gens := s'.gens, drawn := s'.drawn, toks := s'.toks } := by
    cases s'
    cases s
    cases o
    rfl
  rw [e]
  exact ⟨.ref p, _, J, rfl, q ns p hs hm hn⟩
theorem unq_mem : ∀ (l : List Int) (x : Int), x ∈ unq l ↔ x ∈ l
  | [], _ => Iff.rfl
  | [_], _ => Iff.rfl
  | a :: b :: r, x => by
    have ih := unq_mem (b :: r) x
    rw [unq]
    by_cases h : a = b
    · rw [if_pos h, ih, h]; simp
    · rw [if_neg h, List.mem_cons, ih]; exact List.mem_cons.symm
theorem unq_head : ∀ (a : Int) (l : List Int), (a :: l).Pairwise (· ≤ ·) → ∀ x ∈ unq (a :: l), a ≤ x := fun a l h x hx => by
  rcases List.mem_cons.mp ((unq_mem _ _).mp hx) with rfl | hx
  · exact Int.le_refl _
  · exact (List.pairwise_cons.mp h).1 x hx
theorem unq_lt : ∀ (l : List Int), l.Pairwise (· ≤ ·) → (unq l).Pairwise (· < ·)
  | [], _ => .nil
  | [_], _ => by rw [unq]; exact List.pairwise_singleton _ _
  | a :: b :: r, h => by
    have h2 := (List.pairwise_cons.mp h).2
    have ih := unq_lt (b :: r) h2
    rw [unq]
    by_cases e : a = b
    · rw [if_pos e]; exact ih
    · rw [if_neg e]
      refine List.pairwise_cons.mpr ⟨fun x hx => ?_, ih⟩
      have h3 := unq_head b r h2 x hx
      have h4 := (List.pairwise_cons.mp h).1 b (by simp)
      omega
theorem lt_same : ∀ {a b : List Int}, a.Pairwise (· < ·) → b.Pairwise (· < ·) → (∀ x, x ∈ a ↔ x ∈ b) → a = b
  | [], [], _, _, _ => rfl
  | [], y :: b, _, _, h => absurd ((h y).mpr (by simp)) (by simp)
  | x :: a, [], _, _, h => absurd ((h x).mp (by simp)) (by simp)
  | x :: a, y :: b, ha, hb, h => by
    obtain ⟨h1, h2⟩ := List.pairwise_cons.mp ha
    obtain ⟨h3, h4⟩ := List.pairwise_cons.mp hb
    have hxy : x = y := by
      rcases List.mem_cons.mp ((h x).mp (by simp)) with e | e
      · exact e
      · rcases List.mem_cons.mp ((h y).mpr (by simp)) with e' | e'
        · exact e'.symm
        · have := h1 y e'; have := h3 x e; omega
    subst hxy
    rw [lt_same h2 h4 fun z => ?_]
    have hz := h z
    simp only [List.mem_cons] at hz
    constructor
    · intro m
      rcases hz.mp (.inr m) with e | e
      · have := h1 z m; omega
      · exact e
    · intro m
      rcases hz.mpr (.inr m) with e | e
      · have := h3 z m; omega
      · exact e
end
section
variable {K : PySem.W.Frag} {cA : Nat → Option Addr} {s : Sit} {σ : L2.St} {W : WX}
def rUq (K : PySem.W.Frag) : List V → Hp → VK → Prop := fun xs H Q => ∃ (l : Addr) (ns : List Int), xs = [V.ref l] ∧ SqL K H l (ns.map V.int) ∧ ns.length + 1 < scanBound ∧
  ∀ (p q : Addr) (o : HO), H p = none → upd H p o q = none → Q (.ref q) (upd (upd H p o) q (.lst ((uqI ns).map V.int)))
theorem suq_ok (m : Bool) {x : D} {v : V} {Q : VK} (ok : s.Ok K) (r : Rep K s x v) (h : Post K cA s σ W (suqF m x s.st) (PQ K Q)) : rUq K [v] s.H Q := by
  unfold suqF at h
  split at h
  · rename_i xs hx
    obtain ⟨a, us, rfl, ha, ra⟩ := lstOf_ok ok r hx
    split at h
    · rename_i ns hi
      rw [intsOf_ok hi] at ra
      rw [ra.ints] at ha
      split at h
      · rename_i hl
        refine ⟨a, ns, rfl, SqL.of ha, hl, fun p q o hp hq => ?_⟩
        have h2 : Post K cA (s.put p o) σ W (mk m ((uqI ns).map .int) (s.put p o).st) (PQ K Q) := h.le (Sit.put_le hp)
        exact post_mk (s := s.put p o) (Sit.put_ok ok hp) RDs.of_ints h2 q hq
      · exact h.elim
    · exact h.elim
  · exact h.elim
end
end Zn

/-! Zn, part M: min and max with a default of None; comparisons of four in a chain. -/
namespace Zn
open PySem PySem.Spec PyProof.Rows L2
theorem args_maxD (a : Value) : argsOk "max" ⟨[a], [("default", .none)]⟩ := by unfold argsOk; kernel_rfl
theorem args_minD (a : Value) : argsOk "min" ⟨[a], [("default", .none)]⟩ := by unfold argsOk; kernel_rfl
theorem call_function_tree_kw {prog : Program} {w : World} {A : Around} {E : Value → Shared → Prop} {s : Shared} {id : String} {b : Builtin} {args : List Value} {kw : List (Str × Value)} {Q : Value → Shared → Prop} (hk : builtinKind id = none) (hp : plainId id = true)
    (hb : entryFor table id = some b) (ha : argsOk id ⟨args, kw⟩)
    (hc : wpAny (model prog w) A.in1 (b ⟨args, kw⟩) (fun fin s' => match fin with
      | .done f => (match (Except.ok f : Result) with | .ok (.ret v) => Q v s' | .ok _ => False | .error e => E e s')
      | .again c' => c'.quiet = true ∧ codeAny (model prog w) A c' (fun r s' => match r with | .ok (.ret v) => Q v s' | .ok _ => False | .error e => E e s') s') E s) :
    wpAny (model prog w) A (call (.builtin id) args kw) Q E s := by
  refine wpAny_call (codeAny_call_builtin hp hb ?_)
  simp only [checkBuiltinCall, hk]
  cases hsig : Manifest.signature? id with
  | none => exact wpAny_pure hc
  | some sig =>
    have ha' : Bind.checkArgs id sig ⟨args, kw⟩ = pure () := by simpa only [argsOk, hsig] using ha
    simp only [ha']
    exact wpAny_pure hc
theorem bp_max : Builtin.Builtins.bindParams "max" ["key", "default"] 0 ⟨[], [("default", .none)]⟩ = pure [none, some .none] := by kernel_rfl
theorem bp_min : Builtin.Builtins.bindParams "min" ["key", "default"] 0 ⟨[], [("default", .none)]⟩ = pure [none, some .none] := by kernel_rfl
section
variable {prog : Program} {w : World} {A : Around} {R : Result → Shared → Prop} {I : Addr} {fp wr : List Addr} {n : Nat} {P : Nat → Value → Prop} {St : Nat → Heap → Prop}
theorem codeAny_max_loopD (W : Walks prog w A.in1 I fp wr n P St) (bt : Nat → Nat → Bool) (hcmp : CmpOf prog w A.in1 .Gt P bt) (S : Addr) (hSf : S ∉ fp) :
    ∀ (k j : Nat) (s : Shared) (vb : Value) (c : Nat), n - (j + 1) = k → j + 1 ≤ n → St (j + 1) s.heap → P (argBest bt j) vb →
    s.heap.get? S = some { cls := .type "list", dict := none, data := .seq #[vb, vb] c, slots := #[] } →
    (∀ v h' tk, P (argBest bt (n - 1)) v → (∀ b o, b ∉ wr → b ≠ S → s.heap.get? b = some o → h'.get? b = some o) → R (.ok (.ret v)) { s with heap := h', toks := tk }) →
    codeAny (model prog w) A (.builtin "max.loop" ⟨[.ref I, .none, .ref S], [("default", .none)]⟩) R s := by
  have hSw : S ∉ wr := fun h => hSf (W.sub _ h)
  have hname : (toString "max" ++ toString ".loop" : String) = "max.loop" := by decide
  intro k
  induction k with
  | zero =>
    intro j s vb c hk hj hst hPb hS hR
    have hin : j + 1 = n := by omega
    refine codeAny_builtin F.entry_max_loop ?_
    rw [Around.under_plainId F.plain_max_loop _]
    show wpAny _ A.in1 (seqItems? (.ref S) >>= _) _ _ s
    refine wpAny_bind (wpAny_seqItems hS rfl ?_)
    show wpAny _ A.in1 (tryCatch (pyNext (.ref I)) _ >>= _) _ _ s
    refine wpAny_bind (wpAny_tryCatch (W.done s _ _ (hin ▸ hst) fun h' tk hk' => ?_))
    have hS' := hk' S _ hSw hS
    show wpAny _ A.in1 (updateSeq S (fun _ => #[]) >>= _) _ _ _
    refine wpAny_bind ?_
    refine wpAny_updateSeq hS' rfl (wpAny_bind (wpAny_letGo (wpAny_pure ?_)))
    refine hR vb _ tk (by rw [← hin]; exact hPb) fun b o hbw hbS e => (Heap.get?_update_other _ _ (Ne.symm hbS)).trans (hk' b o hbw e)
  | succ k ih =>
    intro j s vb c hk hj hst hPb hS hR
    have hlt : j + 1 < n := by omega
    refine codeAny_builtin F.entry_max_loop ?_
    rw [Around.under_plainId F.plain_max_loop _]
    show wpAny _ A.in1 (seqItems? (.ref S) >>= _) _ _ s
    refine wpAny_bind (wpAny_seqItems hS rfl ?_)
    show wpAny _ A.in1 (tryCatch (pyNext (.ref I)) _ >>= _) _ _ s
    refine wpAny_bind (wpAny_tryCatch (W.item (j + 1) s _ _ hlt hst fun v h' tk hP hst' hk' => ?_))
    have hS' := hk' S _ hSw hS
    show wpAny _ A.in1 (tryCatch (holding [v, v] (richCompare .Gt v vb >>= _)) _ >>= _) _ _ _
    refine wpAny_bind (wpAny_tryCatch (wpAny_holding (wpAny_bind (hcmp (j + 1) (argBest bt j) v vb _ _ _ hP hPb ?_))))
    refine wpAny_bind (wpAny_holding (wpAny_truthy_bool ?_))
    refine wpAny_bind (wpAny_letGo (wpAny_pure ?_))
    cases hb : bt (j + 1) (argBest bt j) with
    | true =>
      simp only [if_true]
      refine wpAny_bind ?_
      refine wpAny_updateSeq hS' rfl (wpAny_bind (wpAny_letGo ?_))
      rw [hname]
      refine wpAny_pure ⟨plainId_quiet F.plain_max_loop _, ih (j + 1) _ v _ (by omega) hlt (W.frame _ _ _ hst' fun b hbf o e => ?_) (by simp only [argBest, hb, if_true]; exact hP) (Heap.get?_update_self _ hS' rfl)
        fun v' h'' tk'' hP' hk'' => ?_⟩
      · exact (Heap.get?_update_other _ _ (fun h : S = b => hSf (by rw [h]; exact hbf))).trans e
      · exact hR v' h'' tk'' hP' fun b o hbw hbS e => hk'' b o hbw hbS ((Heap.get?_update_other _ _ (Ne.symm hbS)).trans (hk' b o hbw e))
    | false =>
      simp only [Bool.false_eq_true, if_false]
      refine wpAny_bind (wpAny_letGo ?_)
      rw [hname]
      refine wpAny_pure ⟨plainId_quiet F.plain_max_loop _, ih (j + 1) _ vb c (by omega) hlt hst' (by simp only [argBest, hb, Bool.false_eq_true, if_false]; exact hPb) hS' fun v' h'' tk'' hP' hk'' => ?_⟩
      exact hR v' h'' tk'' hP' fun b o hbw hbS e => hk'' b o hbw hbS (hk' b o hbw e)

theorem codeAny_max_loopD_first (W : Walks prog w A.in1 I fp wr n P St) (bt : Nat → Nat → Bool) (hcmp : CmpOf prog w A.in1 .Gt P bt) (S : Addr) (hSf : S ∉ fp) (hn : 0 < n) {s : Shared} {c : Nat} (hst : St 0 s.heap)
    (hS : s.heap.get? S = some { cls := .type "list", dict := none, data := .seq #[] c, slots := #[] })
    (hR : ∀ v h' tk, P (argBest bt (n - 1)) v → (∀ b o, b ∉ wr → b ≠ S → s.heap.get? b = some o → h'.get? b = some o) → R (.ok (.ret v)) { s with heap := h', toks := tk }) :
    codeAny (model prog w) A (.builtin "max.loop" ⟨[.ref I, .none, .ref S], [("default", .none)]⟩) R s := by
  have hSw : S ∉ wr := fun h => hSf (W.sub _ h)
  have hname : (toString "max" ++ toString ".loop" : String) = "max.loop" := by decide
  refine codeAny_builtin F.entry_max_loop ?_
  rw [Around.under_plainId F.plain_max_loop _]
  show wpAny _ A.in1 (seqItems? (.ref S) >>= _) _ _ s
  refine wpAny_bind (wpAny_seqItems hS rfl ?_)
  show wpAny _ A.in1 (tryCatch (pyNext (.ref I)) _ >>= _) _ _ s
  refine wpAny_bind (wpAny_tryCatch (W.item 0 s _ _ hn hst fun v h' tk hP hst' hk' => ?_))
  have hS' := hk' S _ hSw hS
  show wpAny _ A.in1 (updateSeq S (fun _ => #[v, v]) >>= _) _ _ _
  refine wpAny_bind ?_
  refine wpAny_updateSeq hS' rfl ?_
  rw [hname]
  refine wpAny_pure ⟨plainId_quiet F.plain_max_loop _, codeAny_max_loopD W bt hcmp S hSf _ 0 _ v _ rfl hn (W.frame _ _ _ hst' fun b hbf o e => ?_) hP (Heap.get?_update_self _ hS' rfl) fun v' h'' tk'' hP' hk'' => ?_⟩
  · exact (Heap.get?_update_other _ _ (fun h : S = b => hSf (by rw [h]; exact hbf))).trans e
  · exact hR v' h'' tk'' hP' fun b o hbw hbS e => hk'' b o hbw hbS ((Heap.get?_update_other _ _ (Ne.symm hbS)).trans (hk' b o hbw e))
theorem codeAny_min_loopD (W : Walks prog w A.in1 I fp wr n P St) (bt : Nat → Nat → Bool) (hcmp : CmpOf prog w A.in1 .Lt P bt) (S : Addr) (hSf : S ∉ fp) :
    ∀ (k j : Nat) (s : Shared) (vb : Value) (c : Nat), n - (j + 1) = k → j + 1 ≤ n → St (j + 1) s.heap → P (argBest bt j) vb →
    s.heap.get? S = some { cls := .type "list", dict := none, data := .seq #[vb, vb] c, slots := #[] } →
    (∀ v h' tk, P (argBest bt (n - 1)) v → (∀ b o, b ∉ wr → b ≠ S → s.heap.get? b = some o → h'.get? b = some o) → R (.ok (.ret v)) { s with heap := h', toks := tk }) →
    codeAny (model prog w) A (.builtin "min.loop" ⟨[.ref I, .none, .ref S], [("default", .none)]⟩) R s := by
  have hSw : S ∉ wr := fun h => hSf (W.sub _ h)
  have hname : (toString "min" ++ toString ".loop" : String) = "min.loop" := by decide
  intro k
  induction k with
  | zero =>
    intro j s vb c hk hj hst hPb hS hR
    have hin : j + 1 = n := by omega
    refine codeAny_builtin F.entry_min_loop ?_
    rw [Around.under_plainId F.plain_min_loop _]
    show wpAny _ A.in1 (seqItems? (.ref S) >>= _) _ _ s
    refine wpAny_bind (wpAny_seqItems hS rfl ?_)
    show wpAny _ A.in1 (tryCatch (pyNext (.ref I)) _ >>= _) _ _ s
    refine wpAny_bind (wpAny_tryCatch (W.done s _ _ (hin ▸ hst) fun h' tk hk' => ?_))
    have hS' := hk' S _ hSw hS
    show wpAny _ A.in1 (updateSeq S (fun _ => #[]) >>= _) _ _ _
    refine wpAny_bind ?_
    refine wpAny_updateSeq hS' rfl (wpAny_bind (wpAny_letGo (wpAny_pure ?_)))
    refine hR vb _ tk (by rw [← hin]; exact hPb) fun b o hbw hbS e => (Heap.get?_update_other _ _ (Ne.symm hbS)).trans (hk' b o hbw e)
  | succ k ih =>
    intro j s vb c hk hj hst hPb hS hR
    have hlt : j + 1 < n := by omega
    refine codeAny_builtin F.entry_min_loop ?_
    rw [Around.under_plainId F.plain_min_loop _]
    show wpAny _ A.in1 (seqItems? (.ref S) >>= _) _ _ s
    refine wpAny_bind (wpAny_seqItems hS rfl ?_)
    show wpAny _ A.in1 (tryCatch (pyNext (.ref I)) _ >>= _) _ _ s
    refine wpAny_bind (wpAny_tryCatch (W.item (j + 1) s _ _ hlt hst fun v h' tk hP hst' hk' => ?_))
    have hS' := hk' S _ hSw hS
    show wpAny _ A.in1 (tryCatch (holding [v, v] (richCompare .Lt v vb >>= _)) _ >>= _) _ _ _
    refine wpAny_bind (wpAny_tryCatch (wpAny_holding (wpAny_bind (hcmp (j + 1) (argBest bt j) v vb _ _ _ hP hPb ?_))))
    refine wpAny_bind (wpAny_holding (wpAny_truthy_bool ?_))
    refine wpAny_bind (wpAny_letGo (wpAny_pure ?_))
    cases hb : bt (j + 1) (argBest bt j) with
    | true =>
      simp only [if_true]
      refine wpAny_bind ?_
      refine wpAny_updateSeq hS' rfl (wpAny_bind (wpAny_letGo ?_))
      rw [hname]
      refine wpAny_pure ⟨plainId_quiet F.plain_min_loop _, ih (j + 1) _ v _ (by omega) hlt (W.frame _ _ _ hst' fun b hbf o e => ?_) (by simp only [argBest, hb, if_true]; exact hP) (Heap.get?_update_self _ hS' rfl)
        fun v' h'' tk'' hP' hk'' => ?_⟩
      · exact (Heap.get?_update_other _ _ (fun h : S = b => hSf (by rw [h]; exact hbf))).trans e
      · exact hR v' h'' tk'' hP' fun b o hbw hbS e => hk'' b o hbw hbS ((Heap.get?_update_other _ _ (Ne.symm hbS)).trans (hk' b o hbw e))
    | false =>
      simp only [Bool.false_eq_true, if_false]
      refine wpAny_bind (wpAny_letGo ?_)
      rw [hname]
      refine wpAny_pure ⟨plainId_quiet F.plain_min_loop _, ih (j + 1) _ vb c (by omega) hlt hst' (by simp only [argBest, hb, Bool.false_eq_true, if_false]; exact hPb) hS' fun v' h'' tk'' hP' hk'' => ?_⟩
      exact hR v' h'' tk'' hP' fun b o hbw hbS e => hk'' b o hbw hbS (hk' b o hbw e)

theorem codeAny_min_loopD_first (W : Walks prog w A.in1 I fp wr n P St) (bt : Nat → Nat → Bool) (hcmp : CmpOf prog w A.in1 .Lt P bt) (S : Addr) (hSf : S ∉ fp) (hn : 0 < n) {s : Shared} {c : Nat} (hst : St 0 s.heap)
    (hS : s.heap.get? S = some { cls := .type "list", dict := none, data := .seq #[] c, slots := #[] })
    (hR : ∀ v h' tk, P (argBest bt (n - 1)) v → (∀ b o, b ∉ wr → b ≠ S → s.heap.get? b = some o → h'.get? b = some o) → R (.ok (.ret v)) { s with heap := h', toks := tk }) :
    codeAny (model prog w) A (.builtin "min.loop" ⟨[.ref I, .none, .ref S], [("default", .none)]⟩) R s := by
  have hSw : S ∉ wr := fun h => hSf (W.sub _ h)
  have hname : (toString "min" ++ toString ".loop" : String) = "min.loop" := by decide
  refine codeAny_builtin F.entry_min_loop ?_
  rw [Around.under_plainId F.plain_min_loop _]
  show wpAny _ A.in1 (seqItems? (.ref S) >>= _) _ _ s
  refine wpAny_bind (wpAny_seqItems hS rfl ?_)
  show wpAny _ A.in1 (tryCatch (pyNext (.ref I)) _ >>= _) _ _ s
  refine wpAny_bind (wpAny_tryCatch (W.item 0 s _ _ hn hst fun v h' tk hP hst' hk' => ?_))
  have hS' := hk' S _ hSw hS
  show wpAny _ A.in1 (updateSeq S (fun _ => #[v, v]) >>= _) _ _ _
  refine wpAny_bind ?_
  refine wpAny_updateSeq hS' rfl ?_
  rw [hname]
  refine wpAny_pure ⟨plainId_quiet F.plain_min_loop _, codeAny_min_loopD W bt hcmp S hSf _ 0 _ v _ rfl hn (W.frame _ _ _ hst' fun b hbf o e => ?_) hP (Heap.get?_update_self _ hS' rfl) fun v' h'' tk'' hP' hk'' => ?_⟩
  · exact (Heap.get?_update_other _ _ (fun h : S = b => hSf (by rw [h]; exact hbf))).trans e
  · exact hR v' h'' tk'' hP' fun b o hbw hbS e => hk'' b o hbw hbS ((Heap.get?_update_other _ _ (Ne.symm hbS)).trans (hk' b o hbw e))

end
section
variable {prog : Program} {w : World} {A : Around} {E : Value → Shared → Prop} {s : Shared}
theorem codeAny_max_emptyD {P : Nat → Value → Prop} {St : Nat → Heap → Prop} {I : Addr} {fp wr : List Addr} {R : Result → Shared → Prop} (W : Walks prog w A.in1 I fp wr 0 P St) (S : Addr) (hSf : S ∉ fp) {s : Shared} {c : Nat} (hst : St 0 s.heap)
    (hS : s.heap.get? S = some { cls := .type "list", dict := none, data := .seq #[] c, slots := #[] })
    (hR : ∀ h' tk, (∀ b o, b ∉ wr → b ≠ S → s.heap.get? b = some o → h'.get? b = some o) → R (.ok (.ret .none)) { s with heap := h', toks := tk }) :
    codeAny (model prog w) A (.builtin "max.loop" ⟨[.ref I, .none, .ref S], [("default", .none)]⟩) R s := by
  refine codeAny_builtin F.entry_max_loop ?_
  rw [Around.under_plainId F.plain_max_loop _]
  show wpAny _ A.in1 (seqItems? (.ref S) >>= _) _ _ s
  refine wpAny_bind (wpAny_seqItems hS rfl ?_)
  show wpAny _ A.in1 (tryCatch (pyNext (.ref I)) _ >>= _) _ _ s
  refine wpAny_bind (wpAny_tryCatch (W.done s _ _ hst fun h' tk hk' => ?_))
  refine wpAny_bind (wpAny_rule ?_)
  exact wpAny_pure (hR h' tk fun b o hw _ e => hk' b o hw e)
theorem codeAny_min_emptyD {P : Nat → Value → Prop} {St : Nat → Heap → Prop} {I : Addr} {fp wr : List Addr} {R : Result → Shared → Prop} (W : Walks prog w A.in1 I fp wr 0 P St) (S : Addr) (hSf : S ∉ fp) {s : Shared} {c : Nat} (hst : St 0 s.heap)
    (hS : s.heap.get? S = some { cls := .type "list", dict := none, data := .seq #[] c, slots := #[] })
    (hR : ∀ h' tk, (∀ b o, b ∉ wr → b ≠ S → s.heap.get? b = some o → h'.get? b = some o) → R (.ok (.ret .none)) { s with heap := h', toks := tk }) :
    codeAny (model prog w) A (.builtin "min.loop" ⟨[.ref I, .none, .ref S], [("default", .none)]⟩) R s := by
  refine codeAny_builtin F.entry_min_loop ?_
  rw [Around.under_plainId F.plain_min_loop _]
  show wpAny _ A.in1 (seqItems? (.ref S) >>= _) _ _ s
  refine wpAny_bind (wpAny_seqItems hS rfl ?_)
  show wpAny _ A.in1 (tryCatch (pyNext (.ref I)) _ >>= _) _ _ s
  refine wpAny_bind (wpAny_tryCatch (W.done s _ _ hst fun h' tk hk' => ?_))
  refine wpAny_bind (wpAny_rule ?_)
  exact wpAny_pure (hR h' tk fun b o hw _ e => hk' b o hw e)
theorem call_max_walkD {x : Value} {Q : Value → Shared → Prop}
    (h : wpAny (model prog w) A.in1 (pyIter x) (fun it s₂ => ∃ I fp wr n P St bt, it = .ref I ∧ Walks prog w A.in1 I fp wr n P St ∧ St 0 s₂.heap ∧ (∀ b ∈ fp, b < s₂.heap.objs.size) ∧ 0 < n ∧ CmpOf prog w A.in1 .Gt P bt ∧
      ∀ v h' tk, P (argBest bt (n - 1)) v → (∀ b o, b ∉ wr → s₂.heap.get? b = some o → h'.get? b = some o) → Q v { s₂ with heap := h', toks := tk }) E s) :
    wpAny (model prog w) A (call (.builtin "max") [x] [("default", .none)]) Q E s := by
  have hname : (toString "max" ++ toString ".loop" : String) = "max.loop" := by decide
  refine call_function_tree_kw F.kind_max F.plain_max F.entry_max (args_maxD _) ?_
  show wpAny _ A.in1 (Builtin.Builtins.bindParams "max" ["key", "default"] 0 ⟨[], [("default", .none)]⟩ >>= _) _ _ s
  refine wpAny_bind (wpAny_of_eq bp_max ?_)
  refine wpAny_bind (wpAny_pure ?_)
  refine wpAny_bind (wpAny_mono h (fun it s₂ h₂ => ?_) fun _ _ e => e)
  obtain ⟨I, fp, wr, n, P, St, bt, rfl, W, hst, hfp, hn, hcmp, hQ⟩ := h₂
  refine wpAny_bind (wpAny_newObj_type ?_)
  have hSf : s₂.heap.objs.size ∉ fp := fun hm => Nat.lt_irrefl _ (hfp _ hm)
  rw [hname]
  refine wpAny_pure ⟨plainId_quiet F.plain_max_loop _, codeAny_max_loopD_first W bt hcmp s₂.heap.objs.size hSf hn (W.frame _ _ _ hst fun b _ o e => Heap.get?_push_of_some _ e) (Heap.get?_push_size _ rfl) fun v h' tk hP hk => ?_⟩
  exact hQ v h' tk hP fun b o hbw e => hk b o hbw (Nat.ne_of_lt (Heap.lt_size e)) (Heap.get?_push_of_some _ e)
theorem call_min_walkD {x : Value} {Q : Value → Shared → Prop}
    (h : wpAny (model prog w) A.in1 (pyIter x) (fun it s₂ => ∃ I fp wr n P St bt, it = .ref I ∧ Walks prog w A.in1 I fp wr n P St ∧ St 0 s₂.heap ∧ (∀ b ∈ fp, b < s₂.heap.objs.size) ∧ 0 < n ∧ CmpOf prog w A.in1 .Lt P bt ∧
      ∀ v h' tk, P (argBest bt (n - 1)) v → (∀ b o, b ∉ wr → s₂.heap.get? b = some o → h'.get? b = some o) → Q v { s₂ with heap := h', toks := tk }) E s) :
    wpAny (model prog w) A (call (.builtin "min") [x] [("default", .none)]) Q E s := by
  have hname : (toString "min" ++ toString ".loop" : String) = "min.loop" := by decide
  refine call_function_tree_kw F.kind_min F.plain_min F.entry_min (args_minD _) ?_
  show wpAny _ A.in1 (Builtin.Builtins.bindParams "min" ["key", "default"] 0 ⟨[], [("default", .none)]⟩ >>= _) _ _ s
  refine wpAny_bind (wpAny_of_eq bp_min ?_)
  refine wpAny_bind (wpAny_pure ?_)
  refine wpAny_bind (wpAny_mono h (fun it s₂ h₂ => ?_) fun _ _ e => e)
  obtain ⟨I, fp, wr, n, P, St, bt, rfl, W, hst, hfp, hn, hcmp, hQ⟩ := h₂
  refine wpAny_bind (wpAny_newObj_type ?_)
  have hSf : s₂.heap.objs.size ∉ fp := fun hm => Nat.lt_irrefl _ (hfp _ hm)
  rw [hname]
  refine wpAny_pure ⟨plainId_quiet F.plain_min_loop _, codeAny_min_loopD_first W bt hcmp s₂.heap.objs.size hSf hn (W.frame _ _ _ hst fun b _ o e => Heap.get?_push_of_some _ e) (Heap.get?_push_size _ rfl) fun v h' tk hP hk => ?_⟩
  exact hQ v h' tk hP fun b o hbw e => hk b o hbw (Nat.ne_of_lt (Heap.lt_size e)) (Heap.get?_push_of_some _ e)
theorem call_max_none {x : Value} {Q : Value → Shared → Prop}
    (h : wpAny (model prog w) A.in1 (pyIter x) (fun it s₂ => ∃ I fp wr P St, it = .ref I ∧ Walks prog w A.in1 I fp wr 0 P St ∧ St 0 s₂.heap ∧ (∀ b ∈ fp, b < s₂.heap.objs.size) ∧
      ∀ h' tk, (∀ b o, b ∉ wr → s₂.heap.get? b = some o → h'.get? b = some o) → Q .none { s₂ with heap := h', toks := tk }) E s) :
    wpAny (model prog w) A (call (.builtin "max") [x] [("default", .none)]) Q E s := by
  have hname : (toString "max" ++ toString ".loop" : String) = "max.loop" := by decide
  refine call_function_tree_kw F.kind_max F.plain_max F.entry_max (args_maxD _) ?_
  show wpAny _ A.in1 (Builtin.Builtins.bindParams "max" ["key", "default"] 0 ⟨[], [("default", .none)]⟩ >>= _) _ _ s
  refine wpAny_bind (wpAny_of_eq bp_max ?_)
  refine wpAny_bind (wpAny_pure ?_)
  refine wpAny_bind (wpAny_mono h (fun it s₂ h₂ => ?_) fun _ _ e => e)
  obtain ⟨I, fp, wr, P, St, rfl, W, hst, hfp, hQ⟩ := h₂
  refine wpAny_bind (wpAny_newObj_type ?_)
  have hSf : s₂.heap.objs.size ∉ fp := fun hm => Nat.lt_irrefl _ (hfp _ hm)
  rw [hname]
  refine wpAny_pure ⟨plainId_quiet F.plain_max_loop _, codeAny_max_emptyD W s₂.heap.objs.size hSf (W.frame _ _ _ hst fun b _ o e => Heap.get?_push_of_some _ e) (Heap.get?_push_size _ rfl) fun h' tk hk => ?_⟩
  exact hQ h' tk fun b o hbw e => hk b o hbw (Nat.ne_of_lt (Heap.lt_size e)) (Heap.get?_push_of_some _ e)
theorem call_min_none {x : Value} {Q : Value → Shared → Prop}
    (h : wpAny (model prog w) A.in1 (pyIter x) (fun it s₂ => ∃ I fp wr P St, it = .ref I ∧ Walks prog w A.in1 I fp wr 0 P St ∧ St 0 s₂.heap ∧ (∀ b ∈ fp, b < s₂.heap.objs.size) ∧
      ∀ h' tk, (∀ b o, b ∉ wr → s₂.heap.get? b = some o → h'.get? b = some o) → Q .none { s₂ with heap := h', toks := tk }) E s) :
    wpAny (model prog w) A (call (.builtin "min") [x] [("default", .none)]) Q E s := by
  have hname : (toString "min" ++ toString ".loop" : String) = "min.loop" := by decide
  refine call_function_tree_kw F.kind_min F.plain_min F.entry_min (args_minD _) ?_
  show wpAny _ A.in1 (Builtin.Builtins.bindParams "min" ["key", "default"] 0 ⟨[], [("default", .none)]⟩ >>= _) _ _ s
  refine wpAny_bind (wpAny_of_eq bp_min ?_)
  refine wpAny_bind (wpAny_pure ?_)
  refine wpAny_bind (wpAny_mono h (fun it s₂ h₂ => ?_) fun _ _ e => e)
  obtain ⟨I, fp, wr, P, St, rfl, W, hst, hfp, hQ⟩ := h₂
  refine wpAny_bind (wpAny_newObj_type ?_)
  have hSf : s₂.heap.objs.size ∉ fp := fun hm => Nat.lt_irrefl _ (hfp _ hm)
  rw [hname]
  refine wpAny_pure ⟨plainId_quiet F.plain_min_loop _, codeAny_min_emptyD W s₂.heap.objs.size hSf (W.frame _ _ _ hst fun b _ o e => Heap.get?_push_of_some _ e) (Heap.get?_push_size _ rfl) fun h' tk hk => ?_⟩
  exact hQ h' tk fun b o hbw e => hk b o hbw (Nat.ne_of_lt (Heap.lt_size e)) (Heap.get?_push_of_some _ e)

theorem max_someD {l : Addr} {its : List Value} {ns : List Int} {Q : Value → Shared → Prop} (hh : A.handled = none) (hl : s.heap.IsList l its.toArray) (hi : IntsAre its ns) (hne : 0 < ns.length)
    (h : ∀ h' tk M t', (∀ b o, s.heap.get? b = some o → h'.get? b = some o) → M ∈ ns → (∀ a, a ∈ ns → a ≤ M) → Q (.int M t') { s with heap := h', toks := tk }) : wpAny (model prog w) A (call (.builtin "max") [.ref l] [("default", .none)]) Q E s := by
  obtain ⟨xs, e⟩ := hi.allInts.items
  have hn : numsOf (intItems xs).toList = ns := by rw [← e]; exact hi.numsOf
  rw [nums_intItems] at hn
  subst hn
  rw [e] at hl
  have hsz : 0 < xs.size := by simpa using hne
  refine call_max_walkD (iter_intList hl fun s₂ e st hfp hlI => ?_)
  subst e
  refine ⟨_, _, _, _, _, _, _, rfl, Walks.list (A := A.in1) hh _ l hlI (intItems xs), st, hfp, by simpa [intItems] using hsz, CmpOf.ints_gt (numAt xs) (fun _ _ => intItems_at), fun v h' tk hP hk => ?_⟩
  have hv : (intItems xs)[argBest (fun i j => decide (numAt xs i > numAt xs j)) (xs.size - 1)]? = some v := by simpa [intItems] using hP
  obtain ⟨t, rfl⟩ := intItems_at hv
  obtain ⟨h1, h2⟩ := argBest_gt (numAt xs) (xs.size - 1)
  refine h h' tk _ t (old_kept hk) ?_ fun a ha => ?_
  · rw [numAt_eq]; exact PySem.getD_mem (by rw [List.length_map, Array.length_toList]; omega)
  · obtain ⟨j, hj, rfl⟩ := mem_getD ha
    rw [List.length_map, Array.length_toList] at hj
    rw [← numAt_eq]; exact h2 j (by omega)
theorem min_someD {l : Addr} {its : List Value} {ns : List Int} {Q : Value → Shared → Prop} (hh : A.handled = none) (hl : s.heap.IsList l its.toArray) (hi : IntsAre its ns) (hne : 0 < ns.length)
    (h : ∀ h' tk M t', (∀ b o, s.heap.get? b = some o → h'.get? b = some o) → M ∈ ns → (∀ a, a ∈ ns → M ≤ a) → Q (.int M t') { s with heap := h', toks := tk }) : wpAny (model prog w) A (call (.builtin "min") [.ref l] [("default", .none)]) Q E s := by
  obtain ⟨xs, e⟩ := hi.allInts.items
  have hn : numsOf (intItems xs).toList = ns := by rw [← e]; exact hi.numsOf
  rw [nums_intItems] at hn
  subst hn
  rw [e] at hl
  have hsz : 0 < xs.size := by simpa using hne
  refine call_min_walkD (iter_intList hl fun s₂ e st hfp hlI => ?_)
  subst e
  refine ⟨_, _, _, _, _, _, _, rfl, Walks.list (A := A.in1) hh _ l hlI (intItems xs), st, hfp, by simpa [intItems] using hsz, CmpOf.ints_lt (numAt xs) (fun _ _ => intItems_at), fun v h' tk hP hk => ?_⟩
  have hv : (intItems xs)[argBest (fun i j => decide (numAt xs i < numAt xs j)) (xs.size - 1)]? = some v := by simpa [intItems] using hP
  obtain ⟨t, rfl⟩ := intItems_at hv
  obtain ⟨h1, h2⟩ := argBest_lt (numAt xs) (xs.size - 1)
  refine h h' tk _ t (old_kept hk) ?_ fun a ha => ?_
  · rw [numAt_eq]; exact PySem.getD_mem (by rw [List.length_map, Array.length_toList]; omega)
  · obtain ⟨j, hj, rfl⟩ := mem_getD ha
    rw [List.length_map, Array.length_toList] at hj
    rw [← numAt_eq]; exact h2 j (by omega)
theorem max_noneD {l : Addr} {Q : Value → Shared → Prop} (hh : A.handled = none) (hl : s.heap.IsList l #[])
    (h : ∀ h' tk, (∀ b o, s.heap.get? b = some o → h'.get? b = some o) → Q .none { s with heap := h', toks := tk }) : wpAny (model prog w) A (call (.builtin "max") [.ref l] [("default", .none)]) Q E s := by
  have hl' : s.heap.IsList l (intItems #[]) := by rw [show intItems #[] = #[] by simp [intItems]]; exact hl
  refine call_max_none (iter_intList hl' fun s₂ e st hfp hlI => ?_)
  subst e
  have W := Walks.list (prog := prog) (w := w) (A := A.in1) hh s.heap.objs.size l hlI (intItems #[])
  rw [show (intItems #[]).size = 0 by simp [intItems]] at W
  exact ⟨_, _, _, _, _, rfl, W, st, hfp, fun h' tk hk => h h' tk (old_kept hk)⟩
theorem min_noneD {l : Addr} {Q : Value → Shared → Prop} (hh : A.handled = none) (hl : s.heap.IsList l #[])
    (h : ∀ h' tk, (∀ b o, s.heap.get? b = some o → h'.get? b = some o) → Q .none { s with heap := h', toks := tk }) : wpAny (model prog w) A (call (.builtin "min") [.ref l] [("default", .none)]) Q E s := by
  have hl' : s.heap.IsList l (intItems #[]) := by rw [show intItems #[] = #[] by simp [intItems]]; exact hl
  refine call_min_none (iter_intList hl' fun s₂ e st hfp hlI => ?_)
  subst e
  have W := Walks.list (prog := prog) (w := w) (A := A.in1) hh s.heap.objs.size l hlI (intItems #[])
  rw [show (intItems #[]).size = 0 by simp [intItems]] at W
  exact ⟨_, _, _, _, _, rfl, W, st, hfp, fun h' tk hk => h h' tk (old_kept hk)⟩
end
section
variable {X : Cx}
def rMinD (K : PySem.W.Frag) : List V → List V → Hp → VK → Prop := fun vs zs H Q => ∃ (a : Addr) (ns : List Int), vs = [V.ref a] ∧ zs = [V.non] ∧ SqL K H a (ns.map V.int) ∧ (ns = [] → Q .non H) ∧ ∀ m, m ∈ ns → (∀ y, y ∈ ns → m ≤ y) → Q (.int m) H
def rMaxDf (K : PySem.W.Frag) : List V → List V → Hp → VK → Prop := fun vs zs H Q => ∃ (a : Addr) (ns : List Int), vs = [V.ref a] ∧ zs = [V.non] ∧ SqL K H a (ns.map V.int) ∧ (ns = [] → Q .non H) ∧ ∀ m, m ∈ ns → (∀ y, y ∈ ns → y ≤ m) → Q (.int m) H
theorem cr_minDf (hc : X.calm = true) : CallRK X (.builtin "min") ["default"] (rMinD X.K) := by
  intro pins s σ H xs zs us ws Q I r rz h
  obtain ⟨a, ns, rfl, rfl, hs, q0, q⟩ := h
  obtain ⟨its, rv, hl, _⟩ := I.list hs
  rw [Vals.ref1 r]
  obtain ⟨u, rfl, ru⟩ := rz.one
  cases ru
  cases ns with
  | nil =>
    have e : its = [] := by cases rv; rfl
    subst e
    exact min_noneD (I.ok.hd hc) hl.isList fun h' tk hk => ⟨.non, H, I.kept hk, rfl, q0 rfl⟩
  | cons n ns => exact min_someD (I.ok.hd hc) hl.isList rv.ints (by simp) fun h' tk m t' hk h1 h2 => ⟨.int _, H, I.kept hk, ⟨_, rfl⟩, q m h1 h2⟩
theorem cr_maxDf (hc : X.calm = true) : CallRK X (.builtin "max") ["default"] (rMaxDf X.K) := by
  intro pins s σ H xs zs us ws Q I r rz h
  obtain ⟨a, ns, rfl, rfl, hs, q0, q⟩ := h
  obtain ⟨its, rv, hl, _⟩ := I.list hs
  rw [Vals.ref1 r]
  obtain ⟨u, rfl, ru⟩ := rz.one
  cases ru
  cases ns with
  | nil =>
    have e : its = [] := by cases rv; rfl
    subst e
    exact max_noneD (I.ok.hd hc) hl.isList fun h' tk hk => ⟨.non, H, I.kept hk, rfl, q0 rfl⟩
  | cons n ns => exact max_someD (I.ok.hd hc) hl.isList rv.ints (by simp) fun h' tk m t' hk h1 h2 => ⟨.int _, H, I.kept hk, ⟨_, rfl⟩, q m h1 h2⟩
def tChain3 (r r' r'' : R2) (ta tb tc td : TE) : TE := fun σ H Q => ta σ H fun x H1 => tb σ H1 fun y H2 => r x y H2 fun z H3 => ∃ k, z = .bl k ∧
  (if k = true then tc σ H3 fun w' H4 => r' y w' H4 fun z' H5 => ∃ k', z' = .bl k' ∧ (if k' = true then td σ H5 fun u' H6 => r'' w' u' H6 Q else Q (.bl false) H5) else Q (.bl false) H3)
theorem pe_chain3 {a b c d : Expr} {pos : Pos} {ta tb tc td : TE} {op op' op'' : CmpOp} {r r' r'' : R2} (ho : OpR X (compareOp op) r) (ho' : OpR X (compareOp op') r') (ho'' : OpR X (compareOp op'') r'') (ha : PE X a ta) (hb : PE X b tb) (hc : PE X c tc) (hd : PE X d td)
    (hm : lastMarks [op, op', op''] [b, c, d] = false := by with_unfolding_all rfl) : PE X (.Compare a [op, op', op''] [b, c, d] pos) (tChain3 r r' r'' ta tb tc td) := by
  refine ⟨fun pins s σ H Q I h => ?_⟩
  refine Compare_chain (thn (ha.run pins s σ H _ I h) fun v s1 ⟨x, H1, I1, r1, q1⟩ => chain_link (thn (hb.run pins s1 σ H1 _ I1 q1) fun u s2 ⟨y, H2, I2, r2, q2⟩ =>
    thn (ho pins s2 σ H2 x y v u _ I2 r1 r2 q2) fun d s3 ⟨z, H3, I3, r3, k, e, q3⟩ => ?_)) hm
  subst e
  cases r3
  refine wpAny_truthy_bool ?_
  cases k with
  | false => exact ite_ff ⟨.bl false, H3, I3, rfl, q3⟩
  | true =>
    refine ite_tt (chain_link (thn (hc.run pins s3 σ H3 _ I3 q3) fun w' s4 ⟨z', H4, I4, r4, q4⟩ => thn (ho' pins s4 σ H4 y z' u w' _ I4 r2 r4 q4) fun d' s5 ⟨z2, H5, I5, r5, k2, e2, q5⟩ => ?_))
    subst e2
    cases r5
    refine wpAny_truthy_bool ?_
    cases k2 with
    | false => exact ite_ff ⟨.bl false, H5, I5, rfl, q5⟩
    | true => exact ite_tt (chain_last (thn (hd.run pins s5 σ H5 _ I5 q5) fun w'' s6 ⟨z3, H6, I6, r6, q6⟩ => ho'' pins s6 σ H6 z' z3 w' w'' Q I6 r4 r6 q6))
theorem pt_chain3 {a b c d : Expr} {pos : Pos} {ta tb tc td : TE} {op op' op'' : CmpOp} {r r' r'' : R2} (ho : OpR X (compareOp op) r) (ho' : OpR X (compareOp op') r') (ho'' : OpR X (compareOp op'') r'') (ha : PE X a ta) (hb : PE X b tb) (hc : PE X c tc) (hd : PE X d td)
    (hm : lastMarks [op, op', op''] [b, c, d] = false := by with_unfolding_all rfl) : PT X (.Compare a [op, op', op''] [b, c, d] pos) (tTest (tChain3 r r' r'' ta tb tc td)) := by
  refine ⟨fun pins s σ H Q I h => ?_⟩
  refine isTrue_chain (thn (ha.run pins s σ H _ I h) fun v s1 ⟨x, H1, I1, r1, q1⟩ => test_link (thn (hb.run pins s1 σ H1 _ I1 q1) fun u s2 ⟨y, H2, I2, r2, q2⟩ =>
    thn (ho pins s2 σ H2 x y v u _ I2 r1 r2 q2) fun d s3 ⟨z, H3, I3, r3, k, e, q3⟩ => ?_)) hm
  subst e
  cases r3
  refine wpAny_truthy_bool ?_
  cases k with
  | false =>
    obtain ⟨k', e', q'⟩ := q3
    cases e'
    exact ite_ff ⟨H3, I3, q'⟩
  | true =>
    refine ite_tt (test_link (thn (hc.run pins s3 σ H3 _ I3 q3) fun w' s4 ⟨z', H4, I4, r4, q4⟩ => thn (ho' pins s4 σ H4 y z' u w' _ I4 r2 r4 q4) fun d' s5 ⟨z2, H5, I5, r5, k2, e2, q5⟩ => ?_))
    subst e2
    cases r5
    refine wpAny_truthy_bool ?_
    cases k2 with
    | false =>
      obtain ⟨k', e', q'⟩ := q5
      cases e'
      exact ite_ff ⟨H5, I5, q'⟩
    | true =>
      refine ite_tt (test_last (thn (hd.run pins s5 σ H5 _ I5 q5) fun w'' s6 ⟨z3, H6, I6, r6, q6⟩ => thn (ho'' pins s6 σ H6 z' z3 w' w'' _ I6 r4 r6 q6) fun d'' s7 ⟨z4, H7, I7, r7, k3, e3, q7⟩ => ?_))
      subst e3
      cases r7
      exact wpAny_truthy_bool ⟨H7, I7, q7⟩
end
end Zn

/-! Zn, part T: enumerate over a tuple. -/
namespace PySem
open Sem (wp)
open AutoSeq1 (wpAny_loadPart')
theorem zn_enum_newT (l : Addr) (items : Array Value) (n : Nat) (dct : Option Addr) (sl : Array (Option Value)) :
    Meets (Builtin.«enumerate.__new__» ⟨[.type "enumerate", .ref l], []⟩) (fun _ R s => s.heap.get? l = some { cls := .type "tuple", dict := dct, data := .seq items n, slots := sl } ∧
      R (.ok (.ret (.ref (s.heap.push { cls := .type "tuple_iterator", data := .fields #[.ref l, .int 0 0] }).objs.size)))
        { s with heap := (s.heap.push { cls := .type "tuple_iterator", data := .fields #[.ref l, .int 0 0] }).push { cls := .type "enumerate", data := .fields #[.none, .bool false, .ref s.heap.objs.size, rawInt 0, .none, .none] } }) :=
  .of_wp fun prog w A R s h => by
    obtain ⟨hp, g, d, tk, os⟩ := s; obtain ⟨hl, h⟩ := h
    have hsub := sub_enumerate
    have hL : Heap.IsTuple (Shared.heap ⟨hp, g, d, tk, os⟩) l items := ⟨_, hl, rfl, n, rfl⟩
    wp_walk using wpAny_loadPart' hl
    refine wpAny_stack_any fun st => wpAny_pure ?_
    split
    · rename_i c _ _ _ _ _
      cases (c == Value.type "enumerate")
      · wp_walk using wpAny_loadPart' hl, wpAny_pyIter_tuple hL
        exact ⟨_, rfl, h⟩
      · wp_walk using wpAny_loadPart' hl, wpAny_pyIter_tuple hL
        exact ⟨_, rfl, h⟩
    · wp_walk using wpAny_loadPart' hl, wpAny_pyIter_tuple hL
      exact ⟨_, rfl, h⟩
theorem zn_call_enumT {prog : Program} {w : World} {A : Around} {E : Value → Shared → Prop} {s : Shared} {l : Addr} {items : Array Value} {Q : Value → Shared → Prop} (hL : s.heap.IsTuple l items)
    (h : ∀ h', IsEnum h' (s.heap.objs.size + 1) s.heap.objs.size 0 .none → h'.IsTupleIter s.heap.objs.size l 0 → h'.objs.size = s.heap.objs.size + 2 →
      (∀ b o, s.heap.get? b = some o → h'.get? b = some o) → Q (.ref (s.heap.objs.size + 1)) { s with heap := h' }) :
    wpAny (model prog w) A (call (.type "enumerate") [.ref l]) Q E s := by
  obtain ⟨⟨c, dct, dt, sl⟩, hl, hc, n, hd⟩ := hL
  replace hc : c = .type "tuple" := hc
  replace hd : dt = .seq items n := hd
  subst hc hd
  refine callType_new F.called_enumerate (by decide) (F.typeCall_enumerate_1 _) (F.newCall_enumerate_1 _) (fun obj => F.args_object_init_2 obj _) F.entry_enumerate_new
    (zn_enum_newT l items n dct sl) ⟨hl, ?_⟩
  have hz : (s.heap.push { cls := .type "tuple_iterator", data := .fields #[.ref l, .int 0 0] }).objs.size = s.heap.objs.size + 1 := Heap.size_push ..
  show _ ∧ _
  rw [hz]
  have he : IsEnum ((s.heap.push { cls := .type "tuple_iterator", data := .fields #[.ref l, .int 0 0] }).push
      { cls := .type "enumerate", data := .fields #[.none, .bool false, .ref s.heap.objs.size, rawInt 0, .none, .none] }) (s.heap.objs.size + 1) s.heap.objs.size 0 .none := by
    have := Heap.get?_push_size (s.heap.push { cls := .type "tuple_iterator", data := .fields #[.ref l, .int 0 0] })
      (o := { cls := .type "enumerate", data := .fields #[.none, .bool false, .ref s.heap.objs.size, rawInt 0, .none, .none] }) rfl
    rw [hz] at this; exact this
  refine ⟨⟨_, he, rfl⟩, h _ he ⟨_, Heap.get?_push_of_some _ (Heap.get?_push_size _ rfl), rfl, rfl⟩ (by rw [Heap.size_push, hz]) fun b o x => Heap.get?_push_of_some _ (Heap.get?_push_of_some _ x)⟩
end PySem
namespace Zn
open PySem PySem.Spec PyProof.Rows L2
def Itet (K : PySem.W.Frag) (a : Addr) (N : Nat) : It :=
  ⟨fun i H => ∃ (xs : List V) (x : V), SqT K H a xs ∧ xs.length = N ∧ xs[i]? = some x, fun i H v H' => ∃ T x, v = .ref T ∧ H T = none ∧ H' = upd H T (.tup [.int (i : Nat), x]) ∧ ∀ xs, SqT K H a xs → xs[i]? = some x, fun i H => ∃ xs : List V, SqT K H a xs ∧ xs.length = N ∧ N ≤ i⟩
theorem turn_enumT {P : Program} {w : World} {K : PySem.W.Frag} {elts : List Expr} {kk : Nat} {tpos : Pos} (a e it : Addr) (N : Nat) (ha1 : a ≠ it) (ha2 : e ≠ a) :
    Turn P w K (.Tuple elts kk tpos) (Itet K a N) [e, it] e (fun i h => (∃ old, IsEnum h e it ((i : Nat) : Int) old) ∧ h.IsTupleIter it a i ∧ e ≠ it ∧ i ≤ N) where
  mem := by simp
  obj := fun i h st b hb => by
    obtain ⟨⟨old, he⟩, ⟨o, ho, hc, hd⟩, _⟩ := st
    have e' : b = e ∨ b = it := by simpa using hb
    rcases e' with z | z
    · rw [z]; exact ⟨_, he, fun v q => nomatch q⟩
    · rw [z]; exact ⟨o, ho, fun v q => by rw [hd] at q; cases q⟩
  keep := fun i h h' st k => let ⟨⟨old, he⟩, hi, hne, hN⟩ := st; ⟨⟨old, k e (by simp) _ he⟩, hi.at fun o q => k it (by simp) o q, hne, hN⟩
  item := by
    intro X hP hw hK hc i pins s σ H E I hf st hg
    subst hP hw hK
    obtain ⟨⟨old, he⟩, hit, hne, hN⟩ := st
    obtain ⟨xs, x, hq, hl, hx⟩ := hg
    obtain ⟨its, rv, p, hz⟩ := I.tuple hq
    obtain ⟨u, hu, ru⟩ := rv.get hx
    have hel : e < s.heap.objs.size := Heap.lt_size he
    have hil : it < s.heap.objs.size := by obtain ⟨_, q, _⟩ := hit; exact Heap.lt_size q
    have hlt : i < its.toArray.size := by rw [List.size_toArray]; exact (List.getElem?_eq_some_iff.mp hu).1
    have hiN : i < N := by rw [← hl]; exact (List.getElem?_eq_some_iff.mp hx).1
    refine wpAny_pyNext_enum_itemD (Draws.tuple (show X.A.in1.handled = none from I.ok.hd hc) it a ha1 its.toArray) he ⟨hit, p⟩ hlt hne (by simp [hne, ha2]) fun y h' tk hy ho hst' hT hsz hk => ?_
    have ey : y = u := by
      have : its[i]? = some y := by simpa using hy
      rw [hu] at this
      exact (Option.some.inj this).symm
    subst ey
    refine ⟨_, rfl, wpAny_letOwnedTupleGo_enum (s := { s with heap := h', toks := tk + 1 }) ho fun h'' he' sb => ?_⟩
    have hT2 : h''.get? s.heap.objs.size = some { cls := .type "tuple", data := .seq #[.int i tk, y] } := (sb.2 _ (Nat.ne_of_gt hel)).trans hT
    have new : ObjOk X.prog X.w (upd H s.heap.objs.size (.tup [.int (i : Nat), x])) h'' s.heap.objs.size (.tup [.int (i : Nat), x]) :=
      ⟨by show 2 ≤ sizeLine; decide, [.int i tk, y], .cons ⟨_, rfl⟩ (.cons ru .nil), ⟨_, hT2, rfl, _, rfl⟩⟩
    have I1 : Inv X pins σ (upd H s.heap.objs.size (.tup [.int (i : Nat), x])) { s with heap := h'', toks := tk + 1 } :=
      I.turnedNew (ch := [e, it]) (fun b ob hb q => (sb.2 b (fun z => hb (by simp [z]))).trans (hk b ob (fun z => hb (by simp [z])) (fun z => hb (by simp [z])) q)) hf (Nat.le_refl _) new
    refine ⟨.ref s.heap.objs.size, _, I1, rfl, ⟨_, x, rfl, I.hok.fresh (Nat.le_refl _), rfl, fun ys hy => by rw [I.tuple_inj hy hq]; exact hx⟩, ⟨⟨y, ?_⟩, hst'.1.at fun o q => (sb.2 it (Ne.symm hne)).trans q, hne, hiN⟩, fun b hb => ?_⟩
    · have e1 : ((i + 1 : Nat) : Int) = (i : Int) + 1 := by omega
      rw [e1]; exact he'
    · have hb' : b < s.heap.objs.size := by
        have e' : b = e ∨ b = it := by simpa using hb
        rcases e' with z | z
        · rw [z]; exact hel
        · rw [z]; exact hil
      rw [upd_ne (Nat.ne_of_lt hb')]
      exact (hf b hb).1
  done := by
    intro X hP hw hK hc i pins s σ H E I hf st hg
    subst hP hw hK
    obtain ⟨⟨old, he⟩, hit, hne, hN⟩ := st
    obtain ⟨xs, hq, hl, hx⟩ := hg
    obtain ⟨its, rv, p, hz⟩ := I.tuple hq
    obtain ⟨f0, f1, f2, f3, f4, f5⟩ := hf it (by simp)
    have hsz : i = its.toArray.size := by
      have := rv.length
      rw [List.size_toArray]
      omega
    exact wpAny_pyNext_enum_endD (Draws.tuple (show X.A.in1.handled = none from I.ok.hd hc) it a ha1 its.toArray) he ⟨by rw [← hsz]; exact hit, p⟩ fun h' eb => ⟨rfl, I.turned (t' := s.toks) (fun b o hb q => eb b o hb q) f0 f1 f3 f4 f5⟩
  self := fun A i s Q E st h => let ⟨⟨_, he⟩, _⟩ := st; wpAny_pyIter_enum he h
def iEnumA (K : PySem.W.Frag) (ta : TA) : TI := fun σ H R => ta σ H fun vs H1 => ∃ a, vs = [.ref a] ∧ ((∃ xs, SqL K H1 a xs ∧ R (Ite K a) H1) ∨ ∃ xs, SqT K H1 a xs ∧ R (Itet K a xs.length) H1)
theorem pi_enumA {X : Cx} {e : Expr} {ta : TA} {p pos tpos : Pos} {elts : List Expr} {kk : Nat} (hg : Gl X "enumerate") (hm : X.mg "enumerate" = none) (ha : PA X [e] ta) (hs : starEach [e] X.env = [(false, eval e X.env)] := by rfl) :
    PI X (.Tuple elts kk tpos) (.Call (.Name "enumerate" p) [e] [] pos) (iEnumA X.K ta) := by
  refine ⟨fun pins s σ H R I h => ?_⟩
  refine Call_ (ld_blt I hg hm boot_enumerate (PyProof.Rows.callWith_type1 (thn (ha.run pos pins s σ H _ I h) fun us s1 ⟨vs, H1, I1, r1, q1⟩ => ?_) hs rfl))
  obtain ⟨a, ex, q1⟩ := q1
  subst ex
  cases r1 with
  | cons r rr =>
    cases rr
    cases r
    rcases q1 with ⟨xs, hq, q⟩ | ⟨xs, hq, q⟩
    · obtain ⟨its, rv, p', hz⟩ := I1.list hq
      refine call_enumerate_list p'.isList fun h' he hit hsz hk => wpAny_pyIter_enum he ?_
      have I2 : Inv X pins σ H1 { s1 with heap := h' } := I1.kept (t' := s1.toks) hk
      refine ⟨s1.heap.objs.size + 1, [s1.heap.objs.size + 1, s1.heap.objs.size], _, _, H1, rfl, I2, turn_enum a (s1.heap.objs.size + 1) s1.heap.objs.size, ⟨⟨.none, he⟩, hit, Nat.succ_ne_self _⟩, fun b hb => ?_, q⟩
      have e' : b = s1.heap.objs.size + 1 ∨ b = s1.heap.objs.size := by simpa using hb
      have hle : s1.heap.objs.size ≤ b := by
        rcases e' with z | z
        · rw [z]; exact Nat.le_add_right _ _
        · rw [z]; exact Nat.le_refl _
      exact I1.fpOk hle (I1.hok.fresh hle)
    · obtain ⟨its, rv, p', hz⟩ := I1.tuple hq
      refine zn_call_enumT p' fun h' he hit hsz hk => wpAny_pyIter_enum he ?_
      have I2 : Inv X pins σ H1 { s1 with heap := h' } := I1.kept (t' := s1.toks) hk
      have hal : a < s1.heap.objs.size := by obtain ⟨_, q, _⟩ := p'; exact Heap.lt_size q
      refine ⟨s1.heap.objs.size + 1, [s1.heap.objs.size + 1, s1.heap.objs.size], _, _, H1, rfl, I2, turn_enumT a (s1.heap.objs.size + 1) s1.heap.objs.size xs.length (Nat.ne_of_lt hal) (Nat.ne_of_gt (Nat.lt_succ_of_lt hal)), ⟨⟨.none, he⟩, hit, Nat.succ_ne_self _, Nat.zero_le _⟩, fun b hb => ?_, q⟩
      have e' : b = s1.heap.objs.size + 1 ∨ b = s1.heap.objs.size := by simpa using hb
      have hle : s1.heap.objs.size ≤ b := by
        rcases e' with z | z
        · rw [z]; exact Nat.le_add_right _ _
        · rw [z]; exact Nat.le_refl _
      exact I1.fpOk hle (I1.hok.fresh hle)
end Zn

set_option maxHeartbeats 4000000
/-! Zn, part K: a caught refusal that is kept as a value; refusals made with a number. -/
namespace Zn
open PySem PySem.Spec PyProof.Rows L2
section
variable {X : Cx} {pins : List (Addr × Obj)} {σ : L2.St} {H : Hp} {s : Shared}
theorem Inv.track {a : Addr} {u : HO} {oe : Obj} (J : Inv X pins σ H s) (ha : s.heap.get? a = some oe) (hn : H a = none) (h0 : X.s_0.heap.get? a = none) (hL : a ≠ X.env.locals) (hc : ∀ y c, X.env.cells.lookup y = some c → c ≠ a)
    (hp : ∀ p ∈ X.pn ++ pins, p.1 ≠ a) (new : ObjOk X.prog X.w (upd H a u) s.heap a u) : Inv X pins σ (upd H a u) s := by
  have other : ∀ {b : Addr}, H b ≠ none → b ≠ a := fun {b} nb e => nb (e ▸ hn)
  have base0 : ∀ {b : Addr} {ob : Obj}, X.s_0.heap.get? b = some ob → b ≠ a := fun {b ob} q e => by
    rw [e, h0] at q
    cases q
  refine ⟨J.ok, J.os, J.bare, ⟨J.base.keep, J.base.slot, fun b ob q1 q2 q3 => ?_, J.base.there, fun b xs q => ?_, fun b ob v q => ?_, fun b ps q => ?_⟩, J.loc, J.cell, ?_, fun y c q => ?_, fun p hm => ?_, fun b v q => ?_, J.len⟩
  · rw [upd_ne (base0 q1)]
    exact J.base.free b ob q1 q2 q3
  · have z := J.base.tups b xs q
    rw [upd_ne (other (by rw [z]; exact fun e => by cases e))]
    exact z
  · have z := J.base.frzs b ob v q
    rw [upd_ne (other (by rw [z]; exact fun e => by cases e))]
    exact z
  · obtain ⟨more, z⟩ := J.base.tbls b ps q
    exact ⟨more, by rw [upd_ne (other (by rw [z]; exact fun e => by cases e))]; exact z⟩
  · rw [upd_ne (Ne.symm hL)]
    exact J.free
  · rw [upd_ne (hc y c q)]
    exact J.freeC y c q
  · obtain ⟨z1, z2, z3, z4, z5⟩ := J.pin p hm
    exact ⟨z1, by rw [upd_ne (hp p hm)]; exact z2, z3, z4, z5⟩
  · by_cases e : b = a
    · subst e
      rw [upd_same] at q
      cases q
      exact new
    · rw [upd_ne e] at q
      refine (J.hok b v q).stay (fun c w _ z => z) (fun c z => ?_) fun c xs z => ?_
      · rw [upd_ne (other (by rw [z]; exact fun e => by cases e))]; exact z
      · rw [upd_ne (other (by rw [z]; exact fun e => by cases e))]; exact z
end
def wKeep (K : PySem.W.Frag) (c : Value) (i j : Nat) (Wo : WX) (D : Ends) : WX := fun cls d σ H =>
  ∃ b, PySem.W.exmOne K cls c = some b ∧ (b = true → ∀ a, H a = none → ∃ C, cls = .ref C ∧ D.nx (((σ.set i (some (.ref a))).set j (some (.ref a))).set i none) (upd H a (exV a C d))) ∧ (b = false → Wo cls d σ H)
section
variable {X : Cx} {x n m : Str} {c : Value} {i j : Nat} {body : List Stmt} {np p1 p2 p3 pos pos' : Pos} {tb : WX → TS} {Wo : WX}
theorem ps_try_keep (hex : X.ex = []) (hs : X.stack = X.env :: X.outer) (hf : X.env.frame = some X.env.locals) (hN : X.N.Nodup) (hi : X.N[i]? = some n) (hj : X.N[j]? = some m) (hij : i ≠ j) (hln : X.env.kindOf n = some .local) (hlm : Loc X.env.scope m) (hfm : X.fn m = true ∨ X.env.kindOf m = some .local)
    (hnn : (n == ("__debug__" : Str)) = false ∧ (n == ("__classdict__" : Str)) = false) (hc : Names X x c) (tk : Takes X Wo)
    (hb : ∀ (W : WX) (pn : List (Addr × Obj)) (xe : Value → Shared → Prop), Takes (X.tr pn xe) W → PassesOwn (model X.prog X.w) X.A X.env xe → PSs (X.tr pn xe) body (tb W)) :
    PS X (.Try body [.ExceptHandler (some (.Name x np)) (some n) [.Assign [.Name m p1] (.Name n p2) p3] pos'] [] [] pos) (fun D σ H => tb (wKeep X.K c i j Wo D) D σ H) := by
  refine ⟨fun pins s σ H D I0 hw => ?_⟩
  have okX := I0.ok
  have frX : X.A.frames = some (X.env :: X.outer) := by rw [okX.frames, hs]
  refine wpAny_Try_except (wpAny_mono ((hb (wKeep X.K c i j Wo D) (X.pn ++ pins) (fun ev q1 => wpAny (model X.prog X.w) X.A (noteFrame ev X.env) (fun _ q2 => wpAny (model X.prog X.w) X.A (setFlight ev none) (fun _ q3 =>
    wpAny (model X.prog X.w) X.A (handleBy ev X.env [.ExceptHandler (some (.Name x np)) (some n) [.Assign [.Name m p1] (.Name n p2) p3] pos']) (SP X pins D) X.xe q3) X.xe q2) X.xe q1) (fun ev z1 fly => ?_) PassesOwn.looking).run [] s σ H D (I0.toTry _) hw) (fun fl z1 hsp => ?_) fun ev z1 he => he)
  · obtain ⟨a, B, zI, pinsB, σB, HB, cls, d, rfl, JB, nob, up, sky, na, oss, bare, b, hb1, hyes, hno⟩ := fly
    have J0 : Inv X pins σB HB zI := JB.ofTry okX
    have skyX : Sky B (X.env :: X.outer) a (Zc cls d) X.env.locals z1.heap := by rw [← hs]; exact sky
    refine Sky.land Zc.steady frX hf skyX fun hp3 fly3 up3 => ?_
    have J3 : Inv X pins σB HB { z1 with heap := hp3 } := J0.landed nob fly3.1 (up.trans up3) oss bare
    obtain ⟨o3, v3, get3, zc3, dat3⟩ := fly3.there
    obtain ⟨w1, noB, w3, wr⟩ := id fly3
    have outF : ∀ {h : Heap} {o : Obj} {vs : Array Value}, h.FunFrames B (X.env :: X.outer) → h.get? a = some o → o.data = .fields vs → a ∉ frs (X.env :: X.outer) := fun {h o vs} ff ge dd hm => by
      obtain ⟨_, o', e', hnf⟩ := ff.mem hm
      rw [ge] at e'
      cases e'
      exact hnf _ dd
    have outX := outF fly3.2.2.1 get3 dat3
    have neL : a ≠ X.env.locals := fun z => outX (List.mem_filterMap.mpr ⟨X.env, List.mem_cons_self, by rw [hf, z]⟩)
    have neF : a ∉ X.fs := fun hm => by
      obtain ⟨ev, he, q⟩ := List.mem_filterMap.mp hm
      exact outX (List.mem_filterMap.mpr ⟨ev, List.mem_cons_of_mem _ he, q⟩)
    have notI : zI.heap.get? a = none := by
      cases q : zI.heap.get? a with
      | none => rfl
      | some o =>
        have := nob a o q (by rw [hs]; exact outX)
        rw [noB] at this
        cases this
    have not0 : X.s_0.heap.get? a = none := by
      cases q : X.s_0.heap.get? a with
      | none => rfl
      | some o =>
        obtain ⟨o', q'⟩ := J0.base.there a o q (by rw [hex]; exact fun z => nomatch z)
        rw [notI] at q'
        cases q'
    have notC : ∀ y k, X.env.cells.lookup y = some k → k ≠ a := fun y k q e => by
      obtain ⟨v, o, z, _⟩ := J0.cell y k q
      rw [e, notI] at z
      cases z
    have notP : ∀ p ∈ X.pn ++ pins, p.1 ≠ a := fun p hm e => by
      have := (J0.pin p hm).1
      rw [e, notI] at this
      cases this
    have T3 := Inv.suite J3 get3 dat3 na neL neF
    refine wpAny_handleBy_cons (codeAny_handlers_test ?_) (by intro q; cases q)
    have lookT : PySem.W.Looks (model X.prog X.w) hp3 (typeOf (.ref a)) cls := fun A Q E t k q => wpAny_typeOf_ref (k _ _ get3) (by rw [zc3.1]; exact q)
    have lookM := PySem.W.exm_one (M := model X.prog X.w) (J3.kIn) lookT hb1
    have nameC : ∀ {Q : Value → Shared → Prop} {E : Value → Shared → Prop}, Q c { z1 with heap := hp3 } → wpAny (model X.prog X.w) (X.A.mark (some (.ref a))) (eval (.Name x np) X.env) Q E { z1 with heap := hp3 } := fun {Q E} q => by
      obtain ⟨hg, hdbg, hm | ⟨hm, hv, hnn⟩⟩ := hc
      · exact ld_glob (X := X.suite a ((a, o3) :: (X.pn ++ pins))) T3 hg hm q hdbg
      · exact ld_blt (X := X.suite a ((a, o3) :: (X.pn ++ pins))) T3 hg hm hv q hnn hdbg
    refine nameC (lookM.here ?_)
    cases b with
    | true =>
      refine codeAny_handlers_suite_as (HandSPX.lands_againZ fly3 fun hp4 fly4 up4 => ?_)
      have J4 : Inv X pins σB HB { z1 with heap := hp4 } := J0.landed nob fly4.1 ((up.trans up3).trans up4) oss bare
      obtain ⟨o4, v4, get4, zc4, dat4⟩ := fly4.there
      have T4 := Inv.suite J4 get4 dat4 na neL neF
      refine store_ok (X := X.suite a ((a, o4) :: (X.pn ++ pins))) (v := .ref a) T4 hN hi (.inl hln) rfl (fun z5 T5 => ?_) (.inr hln)
      obtain ⟨C, rfl, fin⟩ := hyes rfl a na
      have hlen : σB.length = X.N.length := J4.len
      have hil : i < σB.length := by rw [hlen]; exact (List.getElem?_eq_some_iff.mp hi).1
      have one : PSs (X.suite a ((a, o4) :: (X.pn ++ pins))) [.Assign [.Name m p1] (.Name n p2) p3] (tAsg (tVar i) (gName j)) :=
        PSs.imp (pss_one (ps_set (X := X.suite a ((a, o4) :: (X.pn ++ pins))) hN hj hlm (pe_var hi (.inl hln) hnn.1 hnn.2) (by rfl) hfm)) fun D σ H z => z
      refine wpAny_mono (one.run [] z5 _ HB { nx := fun σ' H' => σ' = (σB.set i (some (.ref a))).set j (some (.ref a)) ∧ H' = HB, rt := fun _ _ => False, bk := fun _ _ => False, ct := fun _ _ => False } T5 ⟨.ref a, List.getElem?_set_self hil, rfl, rfl⟩) (fun fl z6 hsp => ?_) (fun _ _ z => False.elim z)
      cases fl with
      | next =>
        obtain ⟨σ6, H6, T6, rfl, rfl⟩ := hsp
        have get6 := (T6.pin (a, o4) (List.mem_append_left _ List.mem_cons_self)).1
        have J6 : Inv X pins _ H6 z6 := Inv.unsuite T6 okX
        have J7 := Inv.track (u := exV a C d) J6 get6 na not0 neL notC notP ⟨⟨o4, v4, get6, zc4, dat4⟩, ⟨o4, get6⟩, fun h1 h2 ⟨oo, vv, g1, g2, g3⟩ st => ⟨oo, vv, st _ g1, g2, g3⟩⟩
        exact gone_ok J7 hN hi hln fun z7 J8 => ⟨_, _, J8, fin⟩
      | brk =>
        obtain ⟨_, _, _, z⟩ := hsp
        exact z.elim
      | cont =>
        obtain ⟨_, _, _, z⟩ := hsp
        exact z.elim
      | ret u =>
        obtain ⟨_, _, _, _, _, z⟩ := hsp
        exact z.elim
    | false =>
      refine wpAny_handleBy_nil ?_
      obtain ⟨k1, k2, k3, oe, vs, T, oT, ts', he, hz, hd, h1, hr⟩ := id fly3
      unfold PySem.passOn
      refine wpAny_bind (wpAny_field he hd h1 ?_)
      rw [if_neg (show ¬ ((Value.ref T == Value.none) = true) from by simp)]
      have again : wpAny (model X.prog X.w) X.A (setFlight (.ref a) X.env.frame) (fun _ q4 => wpAny (model X.prog X.w) X.A (throw (.ref a) : Sem Flow) (SP X pins D) X.xe q4) X.xe { z1 with heap := hp3 } := by
        rw [hf]
        refine HandSPX.setFlight_upZ fly3 fun hp4 hh4 up4 => wpAny_throw (tk _ _ ?_)
        exact ⟨a, B, zI, pins, σB, HB, cls, d, rfl, J0, nob, (up.trans up3).trans up4, .inr (.inr (by rw [hs]; exact hh4)), na, oss, bare, hno rfl⟩
      first
        | exact wpAny_bind (wpAny_pure (wpAny_bind again))
        | exact wpAny_bind again
  · cases fl with
    | next =>
      obtain ⟨σ', H', J', q⟩ := hsp
      exact wpAny_execs_nil ⟨σ', H', J'.ofTry okX, q⟩
    | brk =>
      obtain ⟨σ', H', J', q⟩ := hsp
      exact ⟨σ', H', J'.ofTry okX, q⟩
    | cont =>
      obtain ⟨σ', H', J', q⟩ := hsp
      exact ⟨σ', H', J'.ofTry okX, q⟩
    | ret u =>
      obtain ⟨v, σ', H', J', r, q⟩ := hsp
      exact ⟨v, σ', H', J'.ofTry okX, r, q⟩
end

/-! ### isinstance of a kept refusal, its number -/
theorem exV_inst {X : Cx} {pins : List (Addr × Obj)} {σ : L2.St} {H : Hp} {s : Shared} {a C : Addr} {dd : Option Addr} (I : Inv X pins σ H s) (ha : H a = some (exV a C dd)) (hd : dd = none ∨ ∃ d fs, dd = some d ∧ H d = some (.xd fs)) :
    ∃ (oe : Obj) (od : Option Obj), PySem.W.InstAt s.heap a oe C od := by
  obtain ⟨⟨oe, vs, ge, ⟨zc, zd⟩, dat⟩, _, _⟩ := I.hok a _ ha
  have nc : PySem.W.notCls oe = true := by unfold PySem.W.notCls; rw [dat] <;> rfl
  rcases hd with rfl | ⟨d, fs, rfl, hx⟩
  · exact ⟨oe, none, ge, zc, nc, by rw [zd]; trivial⟩
  · obtain ⟨mA, hns, _⟩ := (show ObjOk X.prog X.w H s.heap d (.xd fs) from I.hok d _ hx)
    obtain ⟨od, ho, _⟩ := lookIn_ns hns
    exact ⟨oe, some od, ge, zc, nc, by rw [zd]; exact ho⟩
def rIsV (K : PySem.W.Frag) : List V → Hp → VK → Prop := fun xs H Q => ∃ (a C : Addr) (dd : Option Addr) (c : V) (cv : Value) (b : Bool), xs = [.ref a, c] ∧ H a = some (exV a C dd) ∧ (dd = none ∨ ∃ d fs, dd = some d ∧ H d = some (.xd fs)) ∧ ExcC K C ∧ (∀ u, RelV c u → u = cv) ∧ PySem.W.kitOne K (.ref C) cv = some b ∧ Q (.bl b) H
theorem exC_cls {K : PySem.W.Frag} {C : Addr} (E : ExcC K C) : (PySem.W.clsIn K C).isSome = true := by
  obtain ⟨cd, hc, _⟩ := PySem.W.any_some E.hd
  rw [hc]; rfl
theorem call_isV {X : Cx} : CallR X (.builtin "isinstance") (rIsV X.K) := by
  intro pins s σ H xs us Q I r h
  obtain ⟨a, C, dd, c, cv, b, rfl, ha, hd, E, hcv, hk, q⟩ := h
  cases r with
  | cons rx rr =>
    cases rr with
    | cons rt rr =>
      cases rr
      cases rx
      have ec := hcv _ rt
      subst ec
      obtain ⟨oe, od, J⟩ := exV_inst I ha hd
      exact PySem.W.kia_one (PySem.W.kitx_exc (exC_cls E) E.hg E.hk E.hs E.ha E.hn E.ht E.hm) I.kIn J hk (fun z => nomatch z) fun tk => ⟨.bl b, H, I.kept (t' := tk) fun _ _ z => z, rfl, q⟩
def rIsVT (K : PySem.W.Frag) : List V → Hp → VK → Prop := fun xs H Q => ∃ (a C : Addr) (dd : Option Addr) (tp : Addr) (cs : List V) (us : List Value) (b : Bool), xs = [.ref a, .ref tp] ∧ H a = some (exV a C dd) ∧ (dd = none ∨ ∃ d fs, dd = some d ∧ H d = some (.xd fs)) ∧ ExcC K C ∧ H tp = some (.tup cs) ∧ Paired ClsV cs us ∧ PySem.W.kitAny K (.ref C) us = some b ∧ Q (.bl b) H
theorem call_isVT {X : Cx} : CallR X (.builtin "isinstance") (rIsVT X.K) := by
  intro pins s σ H xs us Q I r h
  obtain ⟨a, C, dd, tp, cs, ws, b, rfl, ha, hd, E, hT, k, hk, q⟩ := h
  cases r with
  | cons rx rr =>
    cases rr with
    | cons rt rr =>
      cases rr
      cases rx
      cases rt
      obtain ⟨_, its, rv, o, h1, h2, n, h3⟩ := (show ObjOk X.prog X.w H s.heap tp (.tup cs) from I.hok tp _ hT)
      have e3 := ClsV.all k rv
      subst e3
      obtain ⟨oc, od', dt, sl⟩ := o
      simp only at h2 h3
      subst h2 h3
      obtain ⟨oe, od, J⟩ := exV_inst I ha hd
      exact PySem.W.kia_tup (PySem.W.kitx_exc (exC_cls E) E.hg E.hk E.hs E.ha E.hn E.ht E.hm) I.kIn J h1 hk (fun z => nomatch z) fun tk => ⟨.bl b, H, I.kept (t' := tk) fun _ _ z => z, rfl, q⟩
def tFldV (K : PySem.W.Frag) (f : Str) (te : TE) : TE := fun σ H Q => te σ H fun x H1 => ∃ (a C d : Addr) (fs : List (Str × V)) (v : V), x = .ref a ∧ H1 a = some (exV a C (some d)) ∧ H1 d = some (.xd fs) ∧ ExcC K C ∧ PySem.W.findIn K (.ref C) f = some none ∧ fs.lookup f = some v ∧ Q v H1
theorem pe_fldV {X : Cx} {e : Expr} {te : TE} {pos : Pos} {n : Str} (he : PE X e te) (hb : attributeBase e n X.env (eval e X.env) = eval e X.env) : PE X (.Attribute e n pos) (tFldV X.K n te) := by
  refine ⟨fun pins s σ H Q I h => attr_of hb (thn (he.run pins s σ H _ I h) fun u s1 hh => ?_)⟩
  obtain ⟨x, H1, I1, rx, a, C, d, fs, v, rfl, ha, hd, E, hno, l, q⟩ := hh
  obtain rfl : u = Value.ref a := rx
  obtain ⟨⟨oe, vs, ge, ⟨zc, zd⟩, dat⟩, _, _⟩ := I1.hok a _ ha
  obtain ⟨mA, hns, hr⟩ := (show ObjOk X.prog X.w H1 s1.heap d (.xd fs) from I1.hok d _ hd)
  obtain ⟨od, ho, hl⟩ := lookIn_ns hns
  obtain ⟨w, hw, rw'⟩ := RelO.some_of (v := v) (o := mA n) (by rw [← l]; exact hr n)
  have J : PySem.W.InstAt s1.heap a oe C (some od) := ⟨ge, zc, by unfold PySem.W.notCls; rw [dat] <;> rfl, by rw [zd]; exact ho⟩
  exact HandSPX.exc_get I1.kIn J E.hg E.hk E.hs (PySem.W.findObj_own E.hd hno rfl (by rw [hl, hw])) (handed_of rw') ⟨v, H1, I1.tok _, rw', q⟩
end Zn

/-! Zn, part N: refusals that are made with a number: C(number), C's __init__ walked. -/
namespace Zn
open PySem PySem.Spec PyProof.Rows L2
def initB (sc : Scope) : List Stmt → Bool
  | [.Expr (.Call (.Attribute (.Name l _) d ap) [.Name s _, .Constant (.str _) _ _] [] p) _, .Assign [.Attribute (.Name s2 _) nm _] (.Name v _) _] =>
    decide (l = ("LeastError" : Str)) && decide (d = ("__init__" : Str)) && decide (s = ("self" : Str)) && decide (s2 = ("self" : Str)) && decide (nm = ("number" : Str)) && decide (v = ("number" : Str)) && (ap.endLine == p.line) && (decide (sc.names.lookup ("LeastError" : Str) = some .globalImplicit) && decide (sc.names.lookup ("self" : Str) = some .local) && decide (sc.names.lookup ("number" : Str) = some .local))
  | _ => false
structure OexN (K : PySem.W.Frag) (G : Str → Option Value) (C : Addr) : Prop where
  oc : OexC K C
  nn : PySem.W.findIn K (.ref C) "number" = some none
  ini : ∃ (fI : Addr) (fd : FuncData) (st : Stmt) (qual : Str), PySem.W.findIn K (.ref C) "__init__" = some (some (.ref fI)) ∧ PySem.W.typeIn K (.ref fI) = some (.type "function") ∧ Fun K "__init__" qual st fI fd ∧
    (∀ us : List Value, us.length = 2 → bindArgs fd ⟨us, []⟩ = pure ((["self", "number"] : List Str).zip us)) ∧ FnScope ["self", "number"] ["self", "number"] (defScope st) ∧ initB (defScope st) (defBody st) = true
  le : ∃ (L : Addr) (mc : Value), G "LeastError" = some (.ref L) ∧ PySem.W.specialIn K (.ref L) "__getattribute__" = some (some (.builtin "type.__getattribute__")) ∧ PySem.W.typeIn K (.ref L) = some mc ∧ PySem.W.readsIn K L mc = true ∧
    PySem.W.findCls K (.ref L) mc "__init__" = some (.val (.builtin "ValueError.__init__"))
section
variable {X : Cx} {o e : Expr} {es : List Expr} {to te : TE} {ta : TA} {f : Str} {p p' p1 p2 pos : Pos}
theorem pe_owninit {x : Str} {L : Addr} {mc : Value} (hg : Gl X x) (hm : X.mg x = some (.ref L)) (vg : PySem.W.specialIn X.K (.ref L) "__getattribute__" = some (some (.builtin "type.__getattribute__"))) (ht : PySem.W.typeIn X.K (.ref L) = some mc)
    (hr : PySem.W.readsIn X.K L mc = true) (vV : PySem.W.findCls X.K (.ref L) mc "__init__" = some (.val (.builtin "ValueError.__init__"))) (ha : PA X (e :: es) ta) (hdb : (x == ("__debug__" : Str)) = false) (hline : (p2.endLine == pos.line) = true)
    (hfew : ((backTo pos (starEach (e :: es) X.env)).all (fun x => !x.1) && (backToKw pos (keywordEach [] X.env)).all (fun x => x.1.isSome)
      && decide ((e :: es).length + ([] : List Keyword).length + (if ([] : List Keyword).isEmpty then 0 else 1) < 30)) = true)
    (hbase : attributeBase (.Name x p1) "__init__" X.env (eval (.Name x p1) X.env) = eval (.Name x p1) X.env)
    (he : starEach (e :: es) X.env = (false, eval e X.env) :: starEach es X.env) (hpl : (backTo pos (starEach es X.env)).any (·.1) = false) :
    PE X (.Call (.Attribute (.Name x p1) "__init__" p2) (e :: es) [] pos) (tVeI X.K ta) := by
  refine ⟨fun pins s σ H Q I h => ?_⟩
  rw [arm_eval_Call, hbase]
  refine wpAny_bind (ld_glob I hg hm ?_ hdb)
  refine wpAny_bind (wpAny_standAt ?_)
  obtain ⟨m, fr⟩ := I.fr
  have hform : methodCallForm ((e :: es).length + ([] : List Keyword).length) (backTo pos (starEach (e :: es) X.env)) (backToKw pos (keywordEach [] X.env)) = true := hfew
  have hpos : methodCallPos true (.Name x p1) X.env p2 pos = pure pos := by unfold methodCallPos; simp [hline]
  unfold methodCall
  rw [hform]
  refine wpAny_bind (wpAny_holding ?_)
  refine PySem.W.method_of_cls fr I.ok.mod.kin vg ?_
  refine PySem.W.cls_val fr I.ok.mod.kin ht hr vV (by decide +kernel) ?_
  refine wpAny_bind (wpAny_of_eq hpos ?_)
  show wpAny _ _ (callWith pos (Value.builtin "ValueError.__init__") [] (backTo pos (starEach (e :: es) X.env)) []) _ _ _
  refine PyProof.Rows.callWith_method1 (thn (ha.run pos pins _ σ H _ (I.tok _) h) fun us s1 ⟨vs, H1, I1, r1, a, C, ws, ev, hl, T, ea, q⟩ => ?_) he hpl
  subst ev
  cases r1 with
  | @cons _ u0 _ ur ra rw' =>
    obtain rfl : u0 = Value.ref a := ra
    have hlen : ur.length ≤ sizeLine := by
      rw [← Paired.length rw', sizeLine_eq]
      omega
    exact oinit_ok T I1 ea hlen fun s' J => ⟨.non, H1, J, rfl, q⟩
end
def spI (K : PySem.W.Frag) : Sp := fun vs H Q _ => ∃ (a C : Addr) (i : Int), vs = [.ref a, .int i] ∧ OexC K C ∧ PySem.W.findIn K (.ref C) "number" = some none ∧ H a = some (exo a C none) ∧
  ∀ dx, H dx = none → dx ≠ a → Q .non (upd (upd H dx (exd dx [("number", .int i)])) a (exo a C (some dx)))
theorem init_ok {P : Program} {w : World} {K : PySem.W.Frag} {mg : Str → Option Value} {base : Heap} {st : Stmt} {qual : Str} {fI : Addr} {fd : FuncData} (F : Fun K "__init__" qual st fI fd) (S : FnScope ["self", "number"] ["self", "number"] (defScope st)) (hB : initB (defScope st) (defBody st) = true)
    {L : Addr} {mc : Value} (hm : mg "LeastError" = some (.ref L)) (vg : PySem.W.specialIn K (.ref L) "__getattribute__" = some (some (.builtin "type.__getattribute__"))) (ht : PySem.W.typeIn K (.ref L) = some mc)
    (hr : PySem.W.readsIn K L mc = true) (vV : PySem.W.findCls K (.ref L) mc "__init__" = some (.val (.builtin "ValueError.__init__"))) : FnOk P w K mg base (L2.CX P w) 1 fI fd ["self", "number"] (spI K) := by
  refine F.okX S (fun vs H Q E ⟨a, C, i, h, _⟩ => by rw [h]; rfl) fun cdv A outer s H vs Q E hroom hsp => ?_
  generalize hbd : defBody st = bd at hB ⊢
  unfold initB at hB
  split at hB
  · rename_i l p1 d ap s1 p2 m k p3 p p4 s2 p5 nm p6 v p7 p8
    simp only [Bool.and_eq_true, decide_eq_true_eq] at hB
    obtain ⟨⟨⟨⟨⟨⟨⟨rfl, rfl⟩, rfl⟩, rfl⟩, rfl⟩, rfl⟩, hln⟩, ⟨h1, h2⟩, h3⟩ := hB
    have pv := fun pp => pe_var (X := cxOf (L2.CX P w) P w K mg base ["self", "number"] qual (defScope st) fI cdv A outer s H E) (x := "self") (i := 0) (pos := pp) rfl (.inl h2) (by decide) (by decide)
    have pn := fun pp => pe_var (X := cxOf (L2.CX P w) P w K mg base ["self", "number"] qual (defScope st) fI cdv A outer s H E) (x := "number") (i := 1) (pos := pp) rfl (.inl h3) (by decide) (by decide)
    have pA : PA (cxOf (L2.CX P w) P w K mg base ["self", "number"] qual (defScope st) fI cdv A outer s H E) [Expr.Name "self" p2, Expr.Constant (.str m) k p3] (tCons (tVar 0) (tCons (tC (.str m)) tNil)) := pa_cons (pv p2) (pa_cons pe_str pa_nil (star_pl rfl)) (star_pl rfl)
    refine ⟨_, pss_cons (ps_expr (pe_owninit h1 hm vg ht hr vV pA (by decide) hln rfl rfl rfl rfl) (sw_pl rfl rfl)) (pss_cons (ps_ost (pv p5) (pn p7)) pss_nil), ?_⟩
    obtain ⟨a, C, i, rfl, T, hn, ha, q⟩ := hsp
    exact ⟨.ref a, rfl, a, C, [.str m], rfl, by simp, T, ha, .int i, rfl, .ref a, rfl, a, C, rfl, T, hn, .inl ⟨ha, fun dx hd hne => q dx hd hne⟩⟩
  · cases hB
end Zn

/-! Zn, part J: instances of our classes: their __init__, walked; their methods called. -/
namespace Zn
open PySem PySem.Spec PyProof.Rows L2
/-! ### Makes.__init__ -/
def initM (sc : Scope) : List Stmt → Bool
  | [.Assign [.Attribute (.Name s1 _) f1 _] (.Name b1 _) _, .Assign [.Attribute (.Name s2 _) f2 _] (.List [.Constant .none _ _] _) _, .Assign [.Attribute (.Name s3 _) f3 _] (.List [.List [] _] _) _] =>
    decide (s1 = ("self" : Str)) && decide (s2 = ("self" : Str)) && decide (s3 = ("self" : Str)) && decide (b1 = ("bounds" : Str)) && decide (f1 = ("own_bounds" : Str)) && decide (f2 = ("kept_trees" : Str)) && decide (f3 = ("ahead_of" : Str)) &&
    decide (sc.names.lookup ("self" : Str) = some .local) && decide (sc.names.lookup ("bounds" : Str) = some .local)
  | _ => false
def initD (sc : Scope) : List Stmt → Bool
  | [.Assign [.Attribute (.Name s1 _) f1 _] (.Call (.Name m _) [.Name b1 _] [] _) _, .Assign [.Attribute (.Name s2 _) f2 _] (.Name b2 _) _] =>
    decide (s1 = ("self" : Str)) && decide (s2 = ("self" : Str)) && decide (m = ("Makes" : Str)) && decide (b1 = ("bounds" : Str)) && decide (b2 = ("bounds" : Str)) && decide (f1 = ("desk_makes" : Str)) && decide (f2 = ("desk_bounds" : Str)) &&
    decide (sc.names.lookup ("self" : Str) = some .local) && decide (sc.names.lookup ("bounds" : Str) = some .local) && decide (sc.names.lookup ("Makes" : Str) = some .globalImplicit)
  | _ => false
def mkH0 (H : Hp) (a C dx : Addr) (x : V) (p q r : Addr) : Hp :=
  upd (upd (upd (upd H p (.lst [.non])) q (.lst [])) r (.lst [.ref q])) a (.ins C dx [("own_bounds", x), ("kept_trees", .ref p), ("ahead_of", .ref r)])
def mkH1 (H : Hp) (a C dx : Addr) (x : V) (b C0 db p q r : Addr) : Hp :=
  upd (mkH0 (upd H db (.own b)) b C0 db x p q r) a (.ins C dx [("desk_makes", .ref b), ("desk_bounds", x)])
def spMI (K : PySem.W.Frag) : Nat → Sp
  | 0 => fun vs H Q _ => ∃ (a C dx : Addr) (x : V), vs = [.ref a, x] ∧ InsK K C 0 ∧ H a = some (.ins C dx []) ∧
      ∀ p q r, H p = none → H q = none → H r = none → q ≠ p → r ≠ p → r ≠ q → Q .non (mkH0 H a C dx x p q r)
  | _ => fun vs H Q _ => ∃ (a C dx : Addr) (x : V), vs = [.ref a, x] ∧ InsK K C 1 ∧ H a = some (.ins C dx []) ∧
      ∀ b C0 db p q r, InsK K C0 0 → H b = none → H db = none → H p = none → H q = none → H r = none → db ≠ b → p ≠ b → p ≠ db → q ≠ b → q ≠ db → r ≠ b → r ≠ db → q ≠ p → r ≠ p → r ≠ q → Q .non (mkH1 H a C dx x b C0 db p q r)
theorem upd_non {H : Hp} {a b : Addr} {o : HO} (h : upd H a o b = none) : b ≠ a ∧ H b = none := by
  by_cases e : b = a
  · subst e; rw [upd_same] at h; cases h
  · rw [upd_ne e] at h; exact ⟨e, h⟩
def tMethS (C : Addr) (m : Str) (sp : Sp) (E : L2.St → XK) (ta : TE) (t : TA) : TE := fun σ H Q => ta σ H fun x H1 => ∃ a dx fs, x = .ref a ∧ H1 a = some (.ins C dx fs) ∧ fs.lookup m = none ∧ t σ H1 fun vs H2 => sp (x :: vs) H2 Q (E σ)
section
variable {X : Cx} {CX : CXT} {k : Nat} {f C : Addr} {fd : FuncData} {ps : List Str} {sp : Sp} {E : L2.St → XK} {m : Str} {apos pos : Pos} {o : Expr} {es : List Expr} {t : TA} {ta : TE}
theorem backTo_all {pos : Pos} {env : PySem.Env} : ∀ {es : List Expr}, (∀ e ∈ es, pl e = true) → (backTo pos (starEach es env)).all (fun x => !x.1) = true
  | [], _ => rfl
  | e :: es, h => by
    have he : starEach (e :: es) env = (false, eval e env) :: starEach es env := by
      have := h e List.mem_cons_self
      cases e <;> first | rfl | cases this
    rw [he]
    show (!false && (backTo pos (starEach es env)).all (fun x => !x.1)) = true
    rw [backTo_all fun e he => h e (List.mem_cons_of_mem _ he)]
    rfl
theorem pe_methS (he : PE X o ta) (c : Cls X.K C) (hm : Meth X.K C m f) (F : FnOk X.prog X.w X.K X.mg X.base CX k f fd ps sp) (hr : Room k X.A) (hb : Binds X.K fd ps []) (hx : ∀ σ, PassesAt CX X σ (E σ)) (ha : PA X es t)
    (hbase : attributeBase o m X.env (eval o X.env) = eval o X.env) (hline : (apos.endLine == pos.line) = true) (hpl : ∀ e ∈ es, pl e = true) (hn : es.length < 20) (h0 : es = [] → ∀ σ H Q, t σ H Q → Q [] H) :
    PE X (.Call (.Attribute o m apos) es [] pos) (tMethS C m sp E ta t) := by
  refine ⟨fun pins s σ H Q I h => ?_⟩
  rw [arm_eval_Call, hbase]
  refine wpAny_bind (thn (he.run pins s σ H _ I h) fun u s1 ⟨x, H1, I1, rx, a, dx, fs, ex, ea, l, q⟩ => ?_)
  subst ex
  obtain rfl : u = Value.ref a := rx
  refine wpAny_bind (wpAny_standAt ?_)
  have hform : methodCallForm (es.length + ([] : List Keyword).length) (backTo pos (starEach es X.env)) (backToKw pos (keywordEach [] X.env)) = true := by
    show ((backTo pos (starEach es X.env)).all (fun x => !x.1) && true && decide (es.length + 0 + 0 < 30)) = true
    rw [backTo_all hpl, Bool.true_and, Bool.true_and, decide_eq_true_eq]
    omega
  have hpos : methodCallPos true o X.env apos pos = pure pos := by unfold methodCallPos; simp [hline]
  unfold methodCall
  rw [hform]
  refine wpAny_bind (wpAny_holding ?_)
  refine getmeth_ok (I1.tok _) ea c hm l ?_
  refine wpAny_bind (wpAny_of_eq hpos ?_)
  cases es with
  | nil =>
    exact PySem.W.callWith_K0 (first := [.ref a]) (I1.tok _).kIn hm.kp (run_fnS (us := [.ref a]) (vs := [.ref a]) F hr hb (hx σ) (I1.tok _) (.cons rfl .nil) (h0 rfl _ _ _ q))
  | cons e es =>
    have hs : starEach (e :: es) X.env = (false, eval e X.env) :: starEach es X.env := by
      have := hpl e List.mem_cons_self
      cases e <;> first | rfl | cases this
    have hb2 : ∀ {es : List Expr}, (∀ e ∈ es, pl e = true) → (backTo pos (starEach es X.env)).any (·.1) = false := by
      intro es h
      have := backTo_all (pos := pos) (env := X.env) h
      rw [List.all_eq_true] at this
      rw [List.any_eq_false]
      intro z hz e
      have := this z hz
      rw [e] at this
      cases this
    refine PySem.W.callWith_K (first := [.ref a]) (h₀ := X.base) I1.ok.mod.kin hm.kp (thn (ha.run pos pins _ σ H1 _ (I1.tok _) q) fun us s2 ⟨vs, H2, I2, r, q2⟩ => ⟨I2.kIn, ?_⟩) hs (hb2 fun e he => hpl e (List.mem_cons_of_mem _ he))
    exact run_fnS (us := .ref a :: us) (vs := .ref a :: vs) F hr hb (hx σ) I2 (.cons rfl r) q2
end
end Zn

/-! Zn, part 6: what is walked; calls' ends; comprehensions. -/
namespace Zn
open PySem PySem.Spec PyProof.Rows L2
section
variable {K : PySem.W.Frag} {cA : Nat → Option Addr} {s s' s1 : Sit} {σ : L2.St} {W : WX} {env : Env}

/-! ### what is walked -/
def iSeq (K : PySem.W.Frag) (tl : TE) : TI := fun σ H R => tl σ H fun x H1 => (∃ a, x = .ref a ∧ (((∃ xs, SqL K H1 a xs) ∧ R (Itl K a) H1) ∨ ((∃ xs, SqT K H1 a xs) ∧ R (Itt K a) H1))) ∨ ∃ z, x = .str z ∧ R (Its z) H1
theorem pi_seq {X : Cx} {tg l : Expr} {tl : TE} (hl : PE X l tl) : PI X tg l (iSeq X.K tl) := by
  refine ⟨fun ps s0 st Hh Rr J0 hh => thn (hl.run ps s0 st Hh _ J0 hh) fun w t ⟨y, G, J1, ry, hq⟩ => ?_⟩
  rcases hq with ⟨ad, ey, qq⟩ | ⟨z, ey, qq⟩
  rotate_left
  · subst ey
    obtain ⟨tk, rfl⟩ := ry
    cases ha : z.cps.all (· < 128)
    · exact wpAny_pyIter_wide ha (pi_one (tk := t.toks) J1 _ (turn_str _ z tk "str_iterator" (.inr rfl)) ⟨_, Heap.get?_push_size _ rfl, rfl, rfl⟩ qq)
    · exact wpAny_pyIter_ascii ha (pi_one (tk := t.toks) J1 _ (turn_str _ z tk "str_ascii_iterator" (.inl rfl)) ⟨_, Heap.get?_push_size _ rfl, rfl, rfl⟩ qq)
  subst ey
  cases ry
  have grow : ∀ {ob : Obj}, Inv X ps st G { t with heap := t.heap.push ob } := fun {ob} => J1.kept (t' := t.toks) fun b o e => Heap.get?_push_of_some _ e
  have fresh : ∀ b ∈ [t.heap.objs.size], FpOk X ps G b := fun b hb => by
    rw [List.mem_singleton.mp hb]
    exact J1.fpOk (Nat.le_refl _) (J1.hok.fresh (Nat.le_refl _))
  rcases qq with ⟨⟨zs, hz⟩, qq⟩ | ⟨⟨zs, hz⟩, qq⟩
  · obtain ⟨its, _, pl, _⟩ := J1.list hz
    exact wpAny_pyIter_list pl.isList ⟨_, [t.heap.objs.size], _, _, G, rfl, grow, turn_list ad _, ⟨_, Heap.get?_push_size _ rfl, rfl, rfl⟩, fresh, qq⟩
  · obtain ⟨its, _, pl, _⟩ := J1.tuple hz
    exact wpAny_pyIter_tuple (show t.heap.IsTuple ad its.toArray from pl) ⟨_, [t.heap.objs.size], _, _, G, rfl, grow, turn_tuple ad _, ⟨_, Heap.get?_push_size _ rfl, rfl, rfl⟩, fresh, qq⟩

def WkOk' (K : PySem.W.Frag) (J : It) (s0 : Sit) (xs : List D) (l : Nat) : Prop :=
  ∀ (i : Nat) (s : Sit) (ys : List D), s0.Le s → s.Ok K → lstOf s.st (.ref l) = some ys → xs.length = ys.length → (i < xs.length → J.go i s.H) ∧ (xs.length ≤ i → J.stop i s.H) ∧
      (∀ (x : V) (H' : Hp) (d e : D), xs[i]? = some d → ys[i]? = some e → J.yld i s.H x H' → ∃ s' : Sit, s'.H = H' ∧ s'.st = s.st ∧ s'.Ok K ∧ s.Le s' ∧ Rep K s' (.tup [d, e]) x)
def WkOk (K : PySem.W.Frag) (J : It) (s0 : Sit) : Wk → Prop
  | .fix xs => (∀ (i : Nat) (s : Sit), s0.Le s → s.Ok K → i < xs.length → J.go i s.H) ∧ (∀ (i : Nat) (s : Sit), s0.Le s → s.Ok K → xs.length ≤ i → J.stop i s.H) ∧
      (∀ (i : Nat) (s : Sit) (x : V) (H' : Hp) (d : D), s0.Le s → s.Ok K → xs[i]? = some d → J.yld i s.H x H' → ∃ s' : Sit, s'.H = H' ∧ s'.st = s.st ∧ s'.Ok K ∧ s.Le s' ∧ Rep K s' d x)
  | .live l => ∀ (i : Nat) (s : Sit) (xs : List D), s0.Le s → s.Ok K → lstOf s.st (.ref l) = some xs → (i < xs.length → J.go i s.H) ∧ (xs.length ≤ i → J.stop i s.H) ∧
      (∀ (x : V) (H' : Hp) (d : D), xs[i]? = some d → J.yld i s.H x H' → H' = s.H ∧ Rep K s d x)
  | .zp xs l => WkOk' K J s0 xs l
def tI (K : PySem.W.Frag) (cA : Nat → Option Addr) (F : CallF) (W : WX) (src : T) : TI := fun σ H R => ∃ s env, s.H = H ∧ s.Ok K ∧ RE K s env σ ∧ Post K cA s σ W (evw F src env s.st) fun w s1 => ∀ J, WkOk K J s1 w → R J s1.H

theorem wk_tup (ok : s.Ok K) {a : Addr} {vs : List V} {xs : List D} (h : SqT K s.H a vs) (r : RDs K s.H s.M xs vs) : WkOk K (Itt K a) s (.fix xs) := by
  refine ⟨fun i s1 l1 o1 hi => ?_, fun i s1 l1 o1 hi => ?_, fun i s1 x H' d l1 o1 hd y => ?_⟩
  · obtain ⟨v, hv, _⟩ := r.get (List.getElem?_eq_getElem hi)
    exact ⟨vs, v, l1.sqT ok h, hv⟩
  · exact ⟨vs, l1.sqT ok h, by rw [← r.length]; exact hi⟩
  · obtain ⟨e, y⟩ := y
    obtain ⟨v, hv, rv⟩ := r.get hd
    have ex : x = v := Option.some.inj ((y vs (l1.sqT ok h)).symm.trans hv)
    subst ex
    exact ⟨s1, e.symm, rfl, o1, Sit.Le.refl _, .dat (rv.le ok l1)⟩
theorem wk_lst (ok : s.Ok K) {a : Addr} {vs : List V} {xs : List D} (h : ∀ s1, s.Le s1 → SqL K s1.H a vs) (r : RDs K s.H s.M xs vs) : WkOk K (Itl K a) s (.fix xs) := by
  refine ⟨fun i s1 l1 o1 hi => ?_, fun i s1 l1 o1 hi => ?_, fun i s1 x H' d l1 o1 hd y => ?_⟩
  · obtain ⟨v, hv, _⟩ := r.get (List.getElem?_eq_getElem hi)
    exact ⟨vs, v, h s1 l1, hv⟩
  · exact ⟨vs, h s1 l1, by rw [← r.length]; exact hi⟩
  · obtain ⟨e, y⟩ := y
    obtain ⟨v, hv, rv⟩ := r.get hd
    have ex : x = v := Option.some.inj ((y vs (h s1 l1)).symm.trans hv)
    subst ex
    exact ⟨s1, e.symm, rfl, o1, Sit.Le.refl _, .dat (rv.le ok l1)⟩
theorem wk_str (z : Str) : WkOk K (Its z) s (.fix (z.cps.toList.map fun c => .str ⟨#[c]⟩)) := by
  have hl : (z.cps.toList.map fun c => D.str ⟨#[c]⟩).length = z.cps.size := by simp
  refine ⟨fun i s1 l1 o1 hi => ?_, fun i s1 l1 o1 hi => ?_, fun i s1 x H' d l1 o1 hd y => ?_⟩
  · rw [hl] at hi; exact hi
  · rw [hl] at hi; exact hi
  · obtain ⟨e, c, hc, ex⟩ := y
    rw [List.getElem?_map, Array.getElem?_toList, hc] at hd
    cases hd
    rw [ex]
    exact ⟨s1, e.symm, rfl, o1, Sit.Le.refl _, .dat (.str _)⟩
theorem wk_of {d : D} {x : V} {R : It → Hp → Prop} (ok : s.Ok K) (rx : Rep K s d x) (h : Post K cA s σ W (wkOf d s.st) fun w s1 => ∀ J, WkOk K J s1 w → R J s1.H) :
    (∃ a, x = .ref a ∧ (((∃ xs, SqL K s.H a xs) ∧ R (Itl K a) s.H) ∨ ((∃ xs, SqT K s.H a xs) ∧ R (Itt K a) s.H))) ∨ ∃ z, x = .str z ∧ R (Its z) s.H := by
  unfold wkOf at h
  split at h
  · obtain ⟨a, vs, rfl, ha, ra⟩ := rep_tup rx
    exact .inl ⟨a, rfl, .inr ⟨⟨_, ha⟩, post_ok ok h _ (wk_tup ok ha ra)⟩⟩
  · rename_i xs
    cases rx with
    | dat rx => cases rx with
      | lst ha n ra => exact .inl ⟨_, rfl, .inl ⟨⟨_, SqL.of ha⟩, post_ok ok h _ (wk_lst ok (fun s1 l1 => SqL.of (l1.keep _ _ ha n).1) ra)⟩⟩
  · rename_i ns
    obtain ⟨a, rfl, ha⟩ := rep_scr rx
    refine .inl ⟨a, rfl, .inl ⟨⟨_, ha⟩, post_ok ok h _ (wk_lst ok (fun s1 l1 => ?_) RDs.of_ints)⟩⟩
    obtain ⟨b, eb, hb⟩ := rep_scr (rx.le ok l1)
    cases eb
    exact hb
  · rename_i z
    exact .inr ⟨z, rep_str rx, post_ok ok h _ (wk_str z)⟩
  · rename_i l
    cases rx with
    | ref ha =>
      rename_i a
      split at h
      · rename_i xs hx
        obtain ⟨b, vs, eb, hb, rb⟩ := lstOf_ok ok (.ref ha) hx
        cases eb
        refine .inl ⟨a, rfl, .inl ⟨⟨_, SqL.of hb⟩, post_ok ok h _ fun i s1 ys l1 o1 hy => ?_⟩⟩
        obtain ⟨c, ws, ec, hc, rc⟩ := lstOf_ok o1 (.ref (l1.pre _ _ ha)) hy
        cases ec
        refine ⟨fun hi => ?_, fun hi => ⟨ws, SqL.of hc, by rw [← rc.length]; exact hi⟩, fun x H' d hd y => ?_⟩
        · obtain ⟨v, hv, _⟩ := rc.get (List.getElem?_eq_getElem hi)
          exact ⟨ws, v, SqL.of hc, hv⟩
        · obtain ⟨e, y⟩ := y
          obtain ⟨v, hv, rv⟩ := rc.get hd
          have ex : x = v := Option.some.inj ((y ws (SqL.of hc)).symm.trans hv)
          subst ex
          exact ⟨e, .dat rv⟩
      · exact h.elim
    | dat rx => cases rx
  · exact h.elim
theorem rngD_get {lo : Int} {n i : Nat} {d : D} (h : (rngD lo n)[i]? = some d) : i < n ∧ d = .int (lo + i) := by
  unfold rngD at h
  rw [List.getElem?_map] at h
  by_cases hi : i < n
  · rw [List.getElem?_range hi] at h
    cases h
    exact ⟨hi, rfl⟩
  · rw [List.getElem?_eq_none (by simpa using hi)] at h
    cases h
theorem wk_rng (lo : Int) (n : Nat) : WkOk K (Itr lo n) s (.fix (rngD lo n)) := by
  have hl : (rngD lo n).length = n := by unfold rngD; simp
  refine ⟨fun i s1 l1 o1 hi => by rw [hl] at hi; exact hi, fun i s1 l1 o1 hi => by rw [hl] at hi; exact hi, fun i s1 x H' d l1 o1 hd y => ?_⟩
  obtain ⟨e, ex⟩ := y
  obtain ⟨_, ed⟩ := rngD_get hd
  rw [ed, ex]
  exact ⟨s1, e.symm, rfl, o1, Sit.Le.refl _, .int _⟩
theorem rngC_get {lo : Int} {n i : Nat} {d : D} (h : ((List.range n).map fun (k : Nat) => D.int (lo - k))[i]? = some d) : i < n ∧ d = .int (lo - i) := by
  rw [List.getElem?_map] at h
  by_cases hi : i < n
  · rw [List.getElem?_range hi] at h
    cases h
    exact ⟨hi, rfl⟩
  · rw [List.getElem?_eq_none (by simpa using hi)] at h
    cases h
theorem wk_rngC (lo : Int) (n : Nat) : WkOk K (Itc lo (-1) n) s (.fix ((List.range n).map fun (k : Nat) => .int (lo - k))) := by
  have hl : ((List.range n).map fun (k : Nat) => D.int (lo - k)).length = n := by simp
  refine ⟨fun i s1 l1 o1 hi => by rw [hl] at hi; exact hi, fun i s1 l1 o1 hi => by rw [hl] at hi; exact hi, fun i s1 x H' d l1 o1 hd y => ?_⟩
  obtain ⟨e, ex⟩ := y
  obtain ⟨_, ed⟩ := rngC_get hd
  have e2 : lo + (i : Int) * -1 = lo - i := by omega
  rw [ed, ex, e2]
  exact ⟨s1, e.symm, rfl, o1, Sit.Le.refl _, .int _⟩
theorem rngS_get {lo c : Int} {n i : Nat} {d : D} (h : ((List.range n).map fun (k : Nat) => D.int (lo + k * c))[i]? = some d) : i < n ∧ d = .int (lo + i * c) := by
  rw [List.getElem?_map] at h
  by_cases hi : i < n
  · rw [List.getElem?_range hi] at h
    cases h
    exact ⟨hi, rfl⟩
  · rw [List.getElem?_eq_none (by simpa using hi)] at h
    cases h
theorem wk_rngS (lo c : Int) (n : Nat) : WkOk K (Itc lo c n) s (.fix ((List.range n).map fun (k : Nat) => .int (lo + k * c))) := by
  have hl : ((List.range n).map fun (k : Nat) => D.int (lo + k * c)).length = n := by simp
  refine ⟨fun i s1 l1 o1 hi => by rw [hl] at hi; exact hi, fun i s1 l1 o1 hi => by rw [hl] at hi; exact hi, fun i s1 x H' d l1 o1 hd y => ?_⟩
  obtain ⟨e, ex⟩ := y
  obtain ⟨_, ed⟩ := rngS_get hd
  rw [ed, ex]
  exact ⟨s1, e.symm, rfl, o1, Sit.Le.refl _, .int _⟩
theorem wk_rev (ok : s.Ok K) {a : Addr} {vs : List V} {xs : List D} (h : ∀ s1, s.Le s1 → SqL K s1.H a vs) (r : RDs K s.H s.M xs vs) : WkOk K (Itv K a vs.length) s (.fix xs.reverse) := by
  have hl := r.length
  refine ⟨fun i s1 l1 o1 hi => ?_, fun i s1 l1 o1 hi => ?_, fun i s1 x H' d l1 o1 hd y => ?_⟩
  · rw [List.length_reverse] at hi
    obtain ⟨v, hv, _⟩ := r.get (List.getElem?_eq_getElem (show xs.length - 1 - i < xs.length by omega))
    exact ⟨by rw [← hl]; exact hi, vs, v, h s1 l1, by rw [← hl]; exact hv⟩
  · rw [List.length_reverse] at hi
    show vs.length ≤ i
    rw [← hl]
    exact hi
  · obtain ⟨e, y⟩ := y
    have hi : i < xs.reverse.length := (List.getElem?_eq_some_iff.mp hd).1
    rw [List.getElem?_reverse (by simpa using hi)] at hd
    obtain ⟨v, hv, rv⟩ := r.get hd
    rw [hl] at hv
    have ex : x = v := Option.some.inj ((y vs (h s1 l1)).symm.trans hv)
    subst ex
    exact ⟨s1, e.symm, rfl, o1, Sit.Le.refl _, .dat (rv.le ok l1)⟩

/-! ### a call's end -/
theorem take_over (ok : s.Ok K) {n l : Nat} {a : Addr} {xs : List D} {vs : List V} (hn : n ≤ l) (ha : s.r[l]? = some a) (hc : s.st[l]? = some (some (.lst xs))) (h : s.H a = some (.lst vs)) (r : RDs K s.H s.M xs vs) :
    Sit.Ok K ⟨s.r.take n ++ [a], s.st.take n ++ [some (.lst xs)], s.H⟩ ∧ (∀ b, Sit.M ⟨s.r.take n ++ [a], s.st.take n ++ [some (.lst xs)], s.H⟩ b → s.M b) := by
  have hlen : (s.r.take n).length = (s.st.take n).length := by rw [List.length_take, List.length_take, ok.len]
  have hM : ∀ b, Sit.M ⟨s.r.take n ++ [a], s.st.take n ++ [some (.lst xs)], s.H⟩ b → s.M b := by
    rintro b ⟨m, c, h1, hm, h2⟩
    have h1 : (s.st.take n ++ [some (.lst xs)])[m]? = some (some c) := h1
    have h2 : (s.r.take n ++ [a])[m]? = some b := h2
    rcases getE_append h1 with h1 | ⟨e1, _⟩
    · rcases getE_append h2 with h2 | ⟨e2, _⟩
      · exact ⟨m, c, (getE_take h1).1, hm, (getE_take h2).1⟩
      · have := (List.getElem?_eq_some_iff.mp h1).1
        omega
    · rcases getE_append h2 with h2 | ⟨e2, q⟩
      · have := (List.getElem?_eq_some_iff.mp h2).1
        omega
      · subst q
        exact ⟨l, _, hc, rfl, ha⟩
  refine ⟨⟨?_, ?_, fun b hb => ?_, fun m c b h1 h2 => ?_⟩, hM⟩
  · show (s.r.take n ++ [a]).length = (s.st.take n ++ [_]).length
    rw [List.length_append, List.length_append, hlen]
    rfl
  · show (s.r.take n ++ [a]).Nodup
    rw [List.nodup_append]
    refine ⟨(List.take_sublist n s.r).nodup ok.nd, by simp, fun b hb c hc' e => ?_⟩
    have ec : c = a := by simpa using hc'
    obtain ⟨j, hj⟩ := List.getElem?_of_mem hb
    obtain ⟨hj, hjn⟩ := getE_take hj
    have := nodup_at ok.nd hj (by rw [e, ec]; exact ha)
    omega
  · have hb : b ∈ s.r.take n ++ [a] := hb
    rcases List.mem_append.mp hb with hb | hb
    · exact ok.there b (List.mem_of_mem_take hb)
    · have : b = a := by simpa using hb
      subst this
      exact ok.there b (List.mem_of_getElem? ha)
  · have h1 : (s.st.take n ++ [some (.lst xs)])[m]? = some (some c) := h1
    have h2 : (s.r.take n ++ [a])[m]? = some b := h2
    rcases getE_append h1 with h1 | ⟨e1, q1⟩
    · rcases getE_append h2 with h2 | ⟨e2, _⟩
      · exact (ok.cell m c b (getE_take h1).1 (getE_take h2).1).tr (fun _ h => h) fun r' => (RD_weaken hM).2 r'
      · have := (List.getElem?_eq_some_iff.mp h1).1
        omega
    · rcases getE_append h2 with h2 | ⟨e2, q⟩
      · have := (List.getElem?_eq_some_iff.mp h2).1
        omega
      · have ec : c = .lst xs := Option.some.inj q1
        subst ec q
        exact ⟨vs, h, (RD_weaken hM).2 r⟩
theorem cut_post {m : Bool} {d : D} {v : V} {Q : VK} (ok : s.Ok K) (ok' : s'.Ok K) (le : s.Le s') (r : Rep K s' d v) (h : Post K cA s σ W (callEnd m s.st.length d s'.st) (PQ K Q)) : Q v s'.H := by
  have plain : ∀ {d : D}, Rep K (s'.cut s.st.length) d v → Post K cA s σ W (.ok d (s'.st.take s.st.length)) (PQ K Q) → Q v s'.H := fun rr hh =>
    hh (s'.cut s.st.length) rfl (Sit.cut_ok ok' _) (Sit.cut_le ok ok' le) v rr
  unfold callEnd at h
  split at h
  · rename_i l
    split at h
    · rename_i hl
      cases r with
      | ref ha =>
        refine plain (.ref ?_) h
        show (s'.r.take s.st.length)[l]? = _
        rw [List.getElem?_take_of_lt hl]
        exact ha
      | dat r => cases r
    · rename_i hl
      split at h
      · rename_i xs hc
        cases r with
        | ref ha =>
          rename_i a
          obtain ⟨vs, h1, r1⟩ := ok'.cell l _ a hc ha
          cases m with
          | false =>
            refine plain (d := .lst xs) (.dat (.lst h1 ?_ (Sit.cut_rds r1))) h
            rintro ⟨j, c, _, _, h3⟩
            obtain ⟨h3, hj⟩ := getE_take h3
            have := nodup_at ok'.nd h3 ha
            omega
          | true =>
            obtain ⟨o2, hM⟩ := take_over (n := s.st.length) ok' (by omega) ha hc h1 r1
            have l2 := Sit.cut_le ok ok' le
            refine h ⟨s'.r.take s.st.length ++ [a], s'.st.take s.st.length ++ [some (.lst xs)], s'.H⟩ rfl o2 ⟨fun j b hj => ?_, fun b o hb n => ⟨(le.keep b o hb n).1, fun mm => (le.keep b o hb n).2 (hM b mm)⟩, fun b hb => le.stay b hb⟩ (.ref a) (.ref ?_)
            · exact getE_left (l2.pre j b hj)
            · show (s'.r.take s.st.length ++ [a])[(s'.st.take s.st.length).length]? = some a
              have e : (s'.r.take s.st.length).length = (s'.st.take s.st.length).length := by rw [List.length_take, List.length_take, ok'.len]
              rw [← e]
              simp
        | dat r => cases r
      · rename_i xs hc
        split at h
        · exact h.elim
        · cases r with
          | ref ha =>
            rename_i a
            obtain ⟨vs, h1, r1⟩ := ok'.cell l _ a hc ha
            refine plain (d := .lst xs) (.dat (.lst h1 ?_ (Sit.cut_rds r1))) h
            rintro ⟨j, c, _, _, h3⟩
            obtain ⟨h3, hj⟩ := getE_take h3
            have := nodup_at ok'.nd h3 ha
            omega
          | dat r => cases r
      · exact h.elim
  · exact h.elim
  · exact h.elim
  · rename_i hn hn2 hn3
    cases r with
    | ref ha => exact absurd rfl (hn _)
    | ins => exact absurd rfl (hn2 _ _)
    | lr => exact absurd rfl (hn3 _)
    | dat r => exact plain (.dat (Sit.cut_rd r)) h

/-! ### the names of a loop -/
theorem wipe_eq {σ σ' : L2.St} {vs : List Nat} (hl : σ'.length = σ.length) (h : ∀ j, j ∉ vs → σ'[j]? = (L2.wipe σ vs)[j]?) : L2.wipe σ' vs = L2.wipe σ vs := by
  have inn : ∀ (τ : L2.St) (vs : List Nat) (j : Nat), j ∈ vs → (L2.wipe τ vs)[j]? = if j < τ.length then some none else none := by
    intro τ vs
    induction vs with
    | nil => intro j hj; cases hj
    | cons v r ih =>
      intro j hj
      unfold L2.wipe
      by_cases e : v = j
      · subst e
        rw [List.getElem?_set_self']
        by_cases hv : v < τ.length
        · rw [if_pos hv, List.getElem?_eq_getElem (by rw [wipe_length]; exact hv)]
          rfl
        · rw [if_neg hv, List.getElem?_eq_none (by rw [wipe_length]; omega)]
          rfl
      · rw [List.getElem?_set_ne e]
        exact ih j ((List.mem_cons.mp hj).resolve_left fun z => e z.symm)
  apply List.ext_getElem?
  intro j
  by_cases hj : j ∈ vs
  · rw [inn _ _ _ hj, inn _ _ _ hj, hl]
  · rw [wipe_out hj]
    exact h j hj
def gN (K : PySem.W.Frag) (tg : T) : TG := fun v σ H Q => ∃ (s : Sit) (env : Env) (d : D) (env' : Env), s.H = H ∧ s.Ok K ∧ RE K s env σ ∧ Rep K s d v ∧ asgN tg d env = some env' ∧
  ∀ σ' : L2.St, RE K s env' σ' → σ'.length = σ.length → (∀ j, j ∉ slots tg → σ'[j]? = σ[j]?) → Q σ' H
theorem pg_name_blk {X : Cx} {s0 : Shared} {H0 : Hp} {scope : Scope} {C : Addr} {cl : List (Str × Addr)} {fp : List Addr} {i : Nat} {x : Str} {p : Pos} (nd : X.N.Nodup) (hi : X.N[i]? = some x) (hw : wrB scope x = true) :
    PG (X.blk s0 H0 scope (compEnvC scope cl C X.env) fp) (.Name x p) (gName i) := by
  have hsc : (compEnvC scope cl C X.env).scope = relS scope X.env.scope := rfl
  rcases wrB_ok hw with q | q
  · have e : (compEnvC scope cl C X.env).scope.names.lookup x = some .local := by
      rw [hsc]
      exact lookup_relS_keep (by intro z; cases z) q
    exact pg_name nd hi (.inl e) (.inr e)
  · have e : (compEnvC scope cl C X.env).scope.names.lookup x = some .cell := by
      rw [hsc]
      exact lookup_relS_keep (by intro z; cases z) q
    refine pg_name nd hi (.inr e) (.inl ?_)
    show (scope.names.lookup x == some .cell) = true
    rw [q]
    rfl
def gNs (K : PySem.W.Frag) (ts : T) : TGs := fun vs σ H Q => ∃ (s : Sit) (env : Env) (ds : List D) (env' : Env), s.H = H ∧ s.Ok K ∧ RE K s env σ ∧ Reps K s ds vs ∧ asgN.asgNs ts ds env = some env' ∧
  ∀ σ' : L2.St, RE K s env' σ' → σ'.length = σ.length → (∀ j, j ∉ slots ts → σ'[j]? = σ[j]?) → Q σ' H
theorem pgs_blk {X : Cx} {s0 : Shared} {H0 : Hp} {scope : Scope} {C : Addr} {cl : List (Str × Addr)} {fp : List Addr} (nd : X.N.Nodup) : ∀ (ts : T) (es : List Expr), chkN.chkNs X.N scope ts es = true →
    PGs (X.blk s0 H0 scope (compEnvC scope cl C X.env) fp) es (gNs X.K ts) ∧ (assignEach es (X.blk s0 H0 scope (compEnvC scope cl C X.env) fp).env).findIdx? (·.1) = none ∧ (assignEach es (X.blk s0 H0 scope (compEnvC scope cl C X.env) fp).env).length = es.length := by
  intro ts
  induction ts with
  | nil =>
    intro es h
    cases es with
    | nil =>
      refine ⟨PGs.imp pgs_nil fun vs σ H Q hw => ?_, rfl, rfl⟩
      obtain ⟨s, env, ds, env', rfl, ok, re, rp, ha, q⟩ := hw
      cases ds with
      | nil =>
        cases rp
        have e : env = env' := Option.some.inj ha
        subst e
        exact ⟨rfl, q σ re rfl fun _ _ => rfl⟩
      | cons d ds => cases ha
    | cons e es => cases h
  | cons t ts iht ih =>
    intro es h
    cases t with
    | tnm i =>
      cases es with
      | nil => cases h
      | cons e es =>
        cases e with
        | Name x p =>
          have h : (decide (X.N[i]? = some x) && wrB scope x && chkN.chkNs X.N scope ts es) = true := h
          rw [Bool.and_eq_true, Bool.and_eq_true, decide_eq_true_eq] at h
          obtain ⟨⟨h1, h2⟩, h3⟩ := h
          obtain ⟨p1, p2, p3⟩ := ih es h3
          refine ⟨PGs.imp (pgs_cons (pg_name_blk nd h1 h2) p1) fun vs σ H Q hw => ?_, ?_, ?_⟩
          · obtain ⟨s, env, ds, env', rfl, ok, re, rp, ha, q⟩ := hw
            cases ds with
            | nil => cases ha
            | cons d ds =>
              cases rp with
              | cons r1 r2 =>
                rename_i v vs
                have ha : (if i < env.length then asgN.asgNs ts ds (env.set i (some d)) else none) = some env' := ha
                split at ha
                · rename_i hi
                  refine ⟨v, vs, rfl, s, env.set i (some d), ds, env', rfl, ok, re.set r1, r2, ha, fun σ' r' l' k' => q σ' r' (by rw [l', List.length_set]) fun j hj => ?_⟩
                  have hj : j ∉ [i] ++ slots ts := hj
                  rw [List.mem_append] at hj
                  rw [k' j (fun z => hj (.inr z)), List.getElem?_set_ne (fun z => hj (.inl (by simp [z])))]
                · cases ha
          · show ((false, _) :: assignEach es _).findIdx? _ = none
            rw [List.findIdx?_cons]
            simp only [Bool.false_eq_true, if_false]
            rw [p2]
            rfl
          · show ((false, _) :: assignEach es _).length = _
            rw [List.length_cons, p3, List.length_cons]
        | _ => cases h
    | _ => cases es <;> cases h
  | _ => intro es h; cases es <;> cases h
theorem no_tf {P : Prop} {b : Bool} (h : b = true) (e : b = false) : P := by rw [e] at h; cases h
def isNT : T → Bool
  | .tnm _ | .ttp _ => true
  | _ => false
theorem dead_N {N : List Str} {sc : Scope} {t : T} {e : Expr} (h : chkN N sc t e = true) : isNT t = true := by
  unfold chkN at h
  split at h <;> first | rfl | cases h
theorem pg_blk {X : Cx} {s0 : Shared} {H0 : Hp} {scope : Scope} {C : Addr} {cl : List (Str × Addr)} {fp : List Addr} (nd : X.N.Nodup) (hc : X.calm = true) {tg : T} {e : Expr} (h : chkN X.N scope tg e = true) :
    PG (X.blk s0 H0 scope (compEnvC scope cl C X.env) fp) e (gN X.K tg) := by
  cases tg with
  | tnm i =>
    cases e with
    | Name x p =>
      have h : (decide (X.N[i]? = some x) && wrB scope x) = true := h
      rw [Bool.and_eq_true, decide_eq_true_eq] at h
      refine PG.imp (pg_name_blk nd h.1 h.2) fun v σ H Q hw => ?_
      obtain ⟨s, env, d, env', rfl, ok, re, rp, ha, q⟩ := hw
      have ha : (if i < env.length then some (env.set i (some d)) else none) = some env' := ha
      split at ha
      · have e : env.set i (some d) = env' := Option.some.inj ha
        subst e
        refine q _ (re.set rp) (by rw [List.length_set]) fun j hj => ?_
        rw [List.getElem?_set_ne]
        exact fun z => hj (by simp [slots, z])
      · cases ha
    | _ => cases h
  | ttp ts =>
    cases e with
    | Tuple es k p =>
      obtain ⟨p1, p2, p3⟩ := pgs_blk (s0 := s0) (H0 := H0) (C := C) (cl := cl) (fp := fp) nd ts es h
      refine PG.imp (pg_tup (k := k) (pos := p) (n := es.length) hc p1 p3 p2) fun v σ H Q hw => ?_
      obtain ⟨s, env, d, env', rfl, ok, re, rp, ha, q⟩ := hw
      cases d with
      | tup xs =>
        obtain ⟨a, vs, rfl, hq, rv⟩ := rep_tup rp
        have lens : ∀ (ts : T) (es : List Expr) (xs : List D) (env : Env), chkN.chkNs X.N scope ts es = true → asgN.asgNs ts xs env = some env' → xs.length = es.length := by
          intro ts
          induction ts with
          | nil =>
            intro es xs env h1 h2
            cases es with
            | nil => cases xs with
              | nil => rfl
              | cons _ _ => cases h2
            | cons _ _ => cases h1
          | cons t ts _ ih =>
            intro es xs env h1 h2
            cases t with
            | tnm i =>
              cases es with
              | nil => cases h1
              | cons e es =>
                cases xs with
                | nil => cases h2
                | cons x xs =>
                  cases e with
                  | Name y _ =>
                    have h1 : (decide (X.N[i]? = some y) && wrB scope y && chkN.chkNs X.N scope ts es) = true := h1
                    rw [Bool.and_eq_true] at h1
                    have h2 : (if i < env.length then asgN.asgNs ts xs (env.set i (some x)) else none) = some env' := h2
                    split at h2
                    · rw [List.length_cons, List.length_cons, ih es xs _ h1.2 h2]
                    · cases h2
                  | _ => cases h1
            | _ => cases es <;> cases h1
          | _ => intro es xs env h1; cases es <;> cases h1
        refine ⟨a, vs, rfl, hq, by rw [← rv.length]; exact lens ts es xs env h ha, s, env, xs, env', rfl, ok, re, rv.reps, ha, q⟩
      | _ => cases ha
    | _ => cases h
  | _ => exact no_tf (dead_N h) rfl
end
end Zn

set_option maxHeartbeats 2000000
/-! Zn, part X: a list comprehension out of which an exception goes. -/
namespace Zn
open PySem PySem.Spec PyProof.Rows L2

theorem note_same {e : Value} {c env : PySem.Env} (h : c.frame = env.frame) : noteFrame e c = noteFrame e env := by
  unfold noteFrame PySem.frameOf
  rw [h]
theorem flight_same {e : Value} {c env : PySem.Env} (h : c.frame = env.frame) : (PySem.passOn "comprehension.variables-let-go" e c : Sem Value) = PySem.passOn "comprehension.variables-let-go" e env := by
  unfold PySem.passOn
  rw [h]
section
variable {M : Model} {A : Around} {E : Value → Shared → Prop} {env : PySem.Env} {outer : List PySem.Env} {B : Heap} {Z : Obj → Prop} {L C a : Addr} {s : Shared}
theorem sky_note {Q : Unit → Shared → Prop} (hZ : HandSPX.Steady Z) (hfr : A.frames = some (env :: outer)) (hf : env.frame = some L) (hC : C ≠ L) (x : Sky B (env :: outer) a Z C s.heap)
    (hQ : ∀ h', HandSPX.HeldZ B (env :: outer) a Z L h' → s.heap.UpToSlots h' → Q () { s with heap := h' }) : wpAny M A (noteFrame (.ref a) env) Q E s := by
  rcases x with ⟨hB, hn, hl, oe, vs, he, hz, hd, h1⟩ | fl | hh
  · exact HandSPX.look_newZ hZ hfr hl hf he hB hn hd h1 hz hQ
  · exact HandSPX.looks_onZ hZ hfr hf fl hQ
  · obtain ⟨hkb, hen, hl, oe, vs, T, oT, ts, he, hz, hd, h1, hnT, hTe, hT, hdT, h3⟩ := hh
    unfold noteFrame
    simp only [hf]
    refine wpAny_bind (wpAny_field he hd h1 ?_)
    rw [if_pos (show (Value.ref T != Value.none) = true from by simp)]
    refine wpAny_bind (wpAny_field hT hdT h3 ?_)
    rw [if_neg (show ¬ ((rawInt C == rawInt L) = true) from fun z => hC (by
      simp [rawInt] at z
      exact Int.ofNat_inj.mp z))]
    refine wpAny_bind (wpAny_setField hT hdT (Array.getElem?_eq_some_iff.mp h3).1 ?_)
    have other : ∀ b, b ≠ T → (s.heap.update T (Obj.mapFields (·.setIfInBounds 3 Value.none))).get? b = s.heap.get? b := fun b hb => Heap.get?_update_other _ _ (Ne.symm hb)
    have noRec : ∀ b o, s.heap.get? b = some o → (∀ vs, o.data ≠ .fields vs) → b ≠ T := fun b o hb hnf q => by
      rw [q, hT] at hb; injection hb with hb; subst hb; exact hnf ts hdT
    refine HandSPX.wpAny_entryZ hZ hfr (hl.of_keeps fun b o hb hnf => ⟨o, (other b (noRec b o hb hnf)).trans hb, rfl⟩) hf ((other a (Ne.symm hTe)).trans he)
      (fun b o hbo => (other b fun q => by rw [q, hnT] at hbo; cases hbo).trans (hkb b o hbo)) hen hd (Array.getElem?_eq_some_iff.mp h1).1 hz fun h' hN => ?_
    obtain ⟨x1, x2, x3, x4⟩ := hN
    exact hQ h' ⟨x1, hen, x2, x3⟩ fun b o hb hnf => x4 b o ((other b (noRec b o hb hnf)).trans hb) hnf
end

def XEF (X : Cx) (W : WX) (u : Value) (s' : Shared) : Prop :=
  ∃ (a : Addr) (B : Heap) (sI : Shared) (pins : List (Addr × Obj)) (σ : L2.St) (H : Hp) (cls : Value) (d : Option Addr) (L : Addr),
    u = .ref a ∧ X.env.frame = some L ∧ Inv X pins σ H sI ∧ (∀ b o, sI.heap.get? b = some o → b ∉ frs X.stack → B.get? b = some o) ∧ sI.heap.UpToSlots s'.heap ∧
      HandSPX.HeldZ B X.stack a (Zc cls d) L s'.heap ∧ H a = none ∧ s'.os = sI.os ∧ AllBare s'.gens ∧ W cls d σ H
def TakesF (X : Cx) (W : WX) : Prop := ∀ u s', XEF X W u s' → X.xe u s'
theorem TakesF.of {X : Cx} {W : WX} (hf : X.env.frame = some X.env.locals) (tk : Takes X W) : TakesF X W := fun u s' ⟨a, B, sI, pins, σ, H, cls, d, L, e, hL, I, nb, up, hh, na, os, ag, w⟩ => by
  rw [hf] at hL
  cases hL
  exact tk u s' ⟨a, B, sI, pins, σ, H, cls, d, e, I, nb, up, .inr (.inr hh), na, os, ag, w⟩
section
variable {X : Cx} {pins pins' : List (Addr × Obj)} {σ σ' : L2.St} {H3 H' : Hp} {s3 sI s4 : Shared} {W : WX} {scope : Scope} {ce : PySem.Env} {fp : List Addr} {xe : Value → Shared → Prop} {B : Heap} {a L : Addr} {cls : Value} {d : Option Addr}
theorem xef_block (I3 : Inv X pins σ H3 s3) (f3 : ∀ b ∈ fp, FpOk X pins H3 b ∧ b < s3.heap.objs.size) (hC : ce.locals = s3.heap.objs.size)
    (I : Inv ((X.blk s3 H3 scope ce fp).wish xe) pins' σ' H' sI) (nb : ∀ b o, sI.heap.get? b = some o → b ∉ frs X.stack → B.get? b = some o) (hL : X.env.frame = some L)
    (hh : HandSPX.HeldZ (PySem.W.hideAll B [ce.locals]) X.stack a (Zc cls d) L s4.heap) (up : ∀ b o, sI.heap.get? b = some o → b ≠ ce.locals → (∀ vs, o.data ≠ .fields vs) → ∃ sl, s4.heap.get? b = some { o with slots := sl })
    (na : H' a = none) (os : s4.os = sI.os) (ag : AllBare s4.gens) (w : W cls d σ H') : XEF X W (.ref a) s4 := by
  obtain ⟨B', hB'⟩ : ∃ B', B' = PySem.W.hideAll B [ce.locals] := ⟨_, rfl⟩
  rw [← hB'] at hh
  obtain ⟨G, g1, g2⟩ := restrict s4.heap fun b => (B'.get? b).isSome || decide (b ∈ frs X.stack)
  have st : B'.StaysIn s4.heap := hh.1
  have gB : ∀ b o, B'.get? b = some o → G.get? b = some o := fun b o e => by
    rw [g1 b (by simp [e])]
    exact st b o e
  have gF : ∀ b, b ∈ frs X.stack → G.get? b = s4.heap.get? b := fun b hb => g1 b (by simp [hb])
  have og : ∀ b o, G.get? b = some o → s4.heap.get? b = some o ∧ ((B'.get? b).isSome = true ∨ b ∈ frs X.stack) := fun b o e => by
    cases q : ((B'.get? b).isSome || decide (b ∈ frs X.stack)) with
    | false => rw [g2 b q] at e; cases e
    | true =>
      rw [g1 b q] at e
      exact ⟨e, by simpa [Bool.or_eq_true] using q⟩
  have nC : ∀ b o, s3.heap.get? b = some o → b ≠ ce.locals := fun b o e z => by
    have := Heap.lt_size e
    rw [z, hC] at this
    exact Nat.lt_irrefl _ this
  have inB : ∀ b o, sI.heap.get? b = some o → b ∉ frs X.stack → b ≠ ce.locals → B'.get? b = some o := fun b o e h1 h2 => by
    rw [hB']
    exact PySem.W.hideAll_get [ce.locals] (nb b o e h1) (by simpa using h2)
  have nf : ∀ b ∈ frs X.stack, ∀ o, s3.heap.get? b = some o → ∃ sl, G.get? b = some { o with slots := sl } := fun b hb o e => by
    obtain ⟨_, o', e', hd⟩ := I3.stack.mem hb
    rw [e] at e'; cases e'
    obtain ⟨sl, e1⟩ := I.base.slot b o e (I3.stkFree b hb) hb (fun hx => by
      rcases List.mem_cons.mp (I3.stkSub b hb) with z | z
      · exact (f3 b hx).1.2.1 z
      · exact (f3 b hx).1.2.2.1 z)
    obtain ⟨sl2, e2⟩ := up b _ e1 (nC b o e) hd
    exact ⟨sl2, by rw [gF b hb]; exact e2⟩
  have hokB : HOk X.prog X.w H' B' := fun b o q => (I.inGround nb b o q).stay (fun c u hc r => by
    rw [hB']
    refine PySem.W.hideAll_get [ce.locals] r fun hm => ?_
    have hcl : c = ce.locals := by simpa using hm
    have z : H' ce.locals = none := I.free
    rcases hc with hc | hc
    · rw [← hcl, hc, q] at z; cases z
    · rw [← hcl, hc] at z; cases z) (fun _ r => r) fun _ _ r => r
  refine ⟨a, B', { s3 with heap := G, gens := s4.gens, drawn := s4.drawn, toks := s4.toks }, pins, σ, H', cls, d, L, rfl, hL, ?_, fun b o e hb => ?_, Heap.UpToSlots.of_keeps fun b o e => (og b o e).1, hh, na, os.trans I.os, ag, w⟩
  · refine I3.call' (ch := fp) rfl ⟨fun b o e n hb hx => gB b o (inB b o (I.base.keep b o e n hb hx) hb (nC b o e)), fun b o e _ hb _ => nf b hb o e, fun b o e n hx => I.base.free b o e n hx, fun b o e hx => ?_, I.base.tups, I.base.frzs, I.base.tbls⟩ (hokB.kept gB) ag fun b hb => ⟨(f3 b hb).1.2.2.2.1, (f3 b hb).1.2.1, (f3 b hb).1.2.2.2.2.1, (f3 b hb).1.2.2.2.2.2⟩
    by_cases hb : b ∈ frs X.stack
    · obtain ⟨sl, q⟩ := nf b hb o e
      exact ⟨_, q⟩
    · obtain ⟨o', q⟩ := I.base.there b o e hx
      exact ⟨o', gB b o' (inB b o' q hb (nC b o e))⟩
  · obtain ⟨e', h⟩ := og b o e
    rcases h with h | h
    · obtain ⟨o', q⟩ := Option.isSome_iff_exists.mp h
      have z := st b o' q
      rw [e'] at z; cases z
      exact q
    · exact absurd h hb
end

def compPostE (M : Model) (A : Around) (E : Value → Shared → Prop) (use : Option (Value → Sem Unit)) (Q : Value → Shared → Prop) (acc : Value) (ce : PySem.Env) (r : Result) (s' : Shared) : Prop :=
  match r with
  | .ok _ => compPost M A E use Q acc ce.locals r s'
  | .error x => ∃ m, s'.heap.Ns ce.locals m ∧ ∀ h' m', h'.Ns ce.locals m' → Heap.SameBut ce.locals s'.heap h' → wpAny M A (PySem.passOn "comprehension.variables-let-go" x ce : Sem Value) (fun _ _ => False) E { s' with heap := h' }
section
variable {M : Model} {A : Around} {E : Value → Shared → Prop} {s : Shared} {env : PySem.Env}
theorem comprehension_exit {e : Expr} {scope : Scope} {pos : Pos} {newAcc first : Sem Value} {g : Comprehension} {gs : List Comprehension} {cl : List (Str × Addr)} {use : Option (Value → Sem Unit)} {Q : Value → Shared → Prop}
    (hcl : clausesOf e = g :: gs) (hs : ∀ x, foldedSetIterable g.iter env x = pure x) (hclos : closureFor scope env = pure cl)
    (hkind : scope.kind = .function) (hnames : ∀ x ∈ scope.names, x.2 = .local → scope.names.lookup x.1 = some .local)
    (h : wpAny M A first (fun x s₁ => wpAny M A (pyIter x) (fun it s₂ => wpAny M A newAcc (fun acc s₃ =>
      wpAny M A (newFunctionEnv scope env.globals cl [] env.qual none .none (some env)) (fun cenv s₄ =>
        codeAny M A (.compStart e 0 it acc { cenv with scope := relabel scope env }) (compPostE M A E use Q acc { cenv with scope := relabel scope env }) s₄) E s₃) E s₂) E s₁) E s) :
    wpAny M A (comprehension e scope env pos newAcc false first use) Q E s := by
  unfold comprehension
  rw [hclos, hcl]
  refine wpAny_bind (wpAny_mono h (fun x s₁ h₁ => wpAny_bind (wpAny_standAt (wpAny_bind (wpAny_of_eq (hs x) (wpAny_bind (wpAny_holding (wpAny_mono h₁ (fun it s₂ h₂ =>
    wpAny_standIf (wpAny_bind (wpAny_mono h₂ (fun acc s₃ h₃ => wpAny_bind (wpAny_pure (wpAny_bind (wpAny_mono h₃ (fun cenv s₄ h₄ => ?_) fun _ _ h' => h')))) fun _ _ h' => h')))
      fun _ _ h' => h'))))))) fun _ _ h' => h')
  dsimp only
  have hv : ∀ x ∈ (scope.names.filter fun x => (x.2 == .local || x.2 == .cell) && x.1 != (".0" : Str)).reverse, x.2 = .local →
      Env.kindOf { cenv with scope := relabel scope env } x.1 = some .local := fun x hx hl => lookup_relabel_local (hnames x (List.mem_filter.mp (List.mem_reverse.mp hx)).1 hl)
  have hv' : ∀ x ∈ (scope.names.filter fun x => (x.2 == .local || x.2 == .cell) && x.1 != (".0" : Str)).reverse.drop 1 ++ (scope.names.filter fun x => (x.2 == .local || x.2 == .cell) && x.1 != (".0" : Str)).reverse.take 1,
      x.2 = .local → Env.kindOf { cenv with scope := relabel scope env } x.1 = some .local := fun x hx hl => by
    rcases List.mem_append.mp hx with h1 | h1
    · exact hv x (List.mem_of_mem_drop h1) hl
    · exact hv x (List.mem_of_mem_take h1) hl
  refine wpAny_holding (wpAny_bind (wpAny_attempt (wpAny_holding (wpAny_run (codeAny_mono h₄ fun r s' hr => ?_)))))
  cases r with
  | ok f =>
    cases use with
    | none =>
      obtain ⟨m, hn, hr⟩ := hr
      exact wpAny_bind (wpAny_holding (wpAny_comp_letGo (cenv := { cenv with scope := relabel scope env }) hkind _ s' m hv hn fun h' m' _ hs' => wpAny_pure (hr h' hs')))
    | some u =>
      have hr : wpAny M A (u acc) (fun _ s'' => ∃ m, s''.heap.Ns cenv.locals m ∧ ∀ h', Heap.SameBut cenv.locals s''.heap h' → Q .none { s'' with heap := h' }) E s' := hr
      refine wpAny_bind (wpAny_rule (wpAny_bind (wpAny_holding (wpAny_mono hr (fun _ s'' hr' => ?_) fun _ _ h' => h'))))
      obtain ⟨m, hn, hr'⟩ := hr'
      exact wpAny_bind (wpAny_comp_letGo (cenv := { cenv with scope := relabel scope env }) hkind _ s'' m hv' hn fun h' m' _ hs' => wpAny_pure (hr' h' hs'))
  | error x =>
    obtain ⟨m, hn, hr⟩ := hr
    exact wpAny_bind (wpAny_holding (wpAny_comp_letGo (cenv := { cenv with scope := relabel scope env }) hkind _ s' m hv hn fun h' m' hn' hs' => wpAny_mono (hr h' m' hn' hs') (fun _ _ f => f.elim) fun _ _ y => y))
end

section
variable {X : Cx} {pins : List (Addr × Obj)} {σ : L2.St} {H3 : Hp} {s3 : Shared} {W : WX} {scope : Scope} {ce : PySem.Env} {fp : List Addr} {use : Option (Value → Sem Unit)} {Qf : Value → Shared → Prop} {acc : Value}
abbrev blkE (X : Cx) (s3 : Shared) (H3 : Hp) (scope : Scope) (ce : PySem.Env) (fp : List Addr) (use : Option (Value → Sem Unit)) (Qf : Value → Shared → Prop) (acc : Value) : Cx :=
  (X.blk s3 H3 scope ce fp).wish (notedBy (model X.prog X.w) X.A ce fun e s' => compPostE (model X.prog X.w) X.A X.xe use Qf acc ce (.error e) s')
theorem block_noted {fe : PySem.Env} {o : List PySem.Env} {L a : Addr} {B : Heap} {sI s2 : Shared} {pins' : List (Addr × Obj)} {σ' : L2.St} {H' : Hp} {cls : Value} {d : Option Addr} {xe : Value → Shared → Prop}
    (I3 : Inv X pins σ H3 s3) (f3 : ∀ b ∈ fp, FpOk X pins H3 b ∧ b < s3.heap.objs.size) (hC : ce.locals = s3.heap.objs.size) (hce : ce.frame = X.env.frame) (hs : X.stack = fe :: o) (hfe : fe.frame = some L) (hf : X.env.frame = some L) (tk : TakesF X W)
    (I : Inv ((X.blk s3 H3 scope ce fp).wish xe) pins' σ' H' sI) (nb : ∀ b o, sI.heap.get? b = some o → b ∉ frs X.stack → B.get? b = some o) (up : sI.heap.UpToSlots s2.heap) (hh : HandSPX.HeldZ B X.stack a (Zc cls d) L s2.heap)
    (na : H' a = none) (os : s2.os = sI.os) (ag : AllBare s2.gens) (w : W cls d σ H') : compPostE (model X.prog X.w) X.A X.xe use Qf acc ce (.error (.ref a)) s2 := by
  obtain ⟨m, hn, _⟩ := I.loc
  have hn : sI.heap.Ns ce.locals m := hn
  refine ⟨m, up.ns hn, fun h2 m2 hn2 sb => ?_⟩
  have hCs : ∀ b ∈ frs X.stack, b ≠ ce.locals := fun b hb z => by
    obtain ⟨_, o', e', _⟩ := I3.stack.mem hb
    have := Heap.lt_size e'
    rw [z, hC] at this
    exact Nat.lt_irrefl _ this
  have hBC : ∃ oc, B.get? ce.locals = some oc := by
    obtain ⟨_, _, oc, e, _⟩ := hn
    exact ⟨_, nb _ _ e fun hm => hCs _ hm rfl⟩
  obtain ⟨oc, hBC⟩ := hBC
  obtain ⟨hkb, hen, hl, oe, vs, T, oT, ts, he, hz, hd, h1, hnT, hTe, hT, hdT, h3⟩ := hh
  have naC : a ≠ ce.locals := fun z => by rw [z, hBC] at hen; cases hen
  have nTC : T ≠ ce.locals := fun z => by rw [z, hBC] at hnT; cases hnT
  have hid : ∀ b, B.get? b = none → (PySem.W.hideAll B [ce.locals]).get? b = none := fun b e => by
    cases q : (PySem.W.hideAll B [ce.locals]).get? b with
    | none => rfl
    | some o => have z := PySem.W.of_hideAll _ q; rw [e] at z; cases z
  have he2 : h2.get? a = some oe := (sb.2 a naC).trans he
  have hT2 : h2.get? T = some oT := (sb.2 T nTC).trans hT
  have hh2 : HandSPX.HeldZ (PySem.W.hideAll B [ce.locals]) X.stack a (Zc cls d) L h2 := by
    refine ⟨fun b o e => ?_, hid a hen, funFrames_none (Heap.FunFrames.sameBut sb hn2 hl) fun b hb => hid b (hl.mem hb).1, oe, vs, T, oT, ts, he2, hz, hd, h1, hid T hnT, hTe, hT2, hdT, h3⟩
    have e1 := PySem.W.of_hideAll _ e
    have nb : b ≠ ce.locals := fun z => by rw [PySem.W.hideAll_none [ce.locals] (by simp [z])] at e; cases e
    exact (sb.2 b nb).trans (hkb b o e1)
  rw [flight_same hce]
  unfold PySem.passOn
  refine wpAny_bind (wpAny_field he2 hd h1 ?_)
  rw [if_neg (show ¬ ((Value.ref T == Value.none) = true) from by simp)]
  simp only [hf]
  first
    | refine wpAny_bind (HandSPX.setFlight_onZ (s := { s2 with heap := h2 }) hh2 fun h3' hh3 up3 => ?_)
    | refine wpAny_bind (wpAny_pure (wpAny_bind (HandSPX.setFlight_onZ (s := { s2 with heap := h2 }) hh2 fun h3' hh3 up3 => ?_)))
  refine wpAny_throw (tk _ _ (xef_block I3 f3 hC I nb hf hh3 (fun b o e hb hnf => ?_) na os ag w))
  obtain ⟨sl, e1⟩ := up b o e hnf
  obtain ⟨sl2, e2⟩ := up3 b _ ((sb.2 b hb).trans e1) hnf
  exact ⟨sl2, e2⟩
theorem takes_block {fe : PySem.Env} {o : List PySem.Env} {L : Addr} {Wb : WX} (I3 : Inv X pins σ H3 s3) (f3 : ∀ b ∈ fp, FpOk X pins H3 b ∧ b < s3.heap.objs.size) (hC : ce.locals = s3.heap.objs.size) (hce : ce.frame = X.env.frame)
    (hs : X.stack = fe :: o) (hfe : fe.frame = some L) (hf : X.env.frame = some L) (tk : TakesF X W) (hW : ∀ cls d σ' H', Wb cls d σ' H' → W cls d σ H') :
    Takes (blkE X s3 H3 scope ce fp use Qf acc) Wb ∧ TakesF (blkE X s3 H3 scope ce fp use Qf acc) Wb := by
  have hLC : ce.locals ≠ L := fun z => by
    have hb : L ∈ frs X.stack := by rw [hs]; simp [frs, hfe]
    obtain ⟨_, o', e', _⟩ := I3.stack.mem hb
    have := Heap.lt_size e'
    rw [← z, hC] at this
    exact Nat.lt_irrefl _ this
  have hff : fe.frame = X.env.frame := hfe.trans hf.symm
  have ns : ∀ e, noteFrame e ce = noteFrame e fe := fun e => note_same (hce.trans hff.symm)
  constructor
  · rintro u s' ⟨a, B, sI, pins', σ', H', cls, d, rfl, I, nb, up, sky, na, os, ag, w⟩
    show wpAny _ _ (noteFrame (.ref a) ce) _ _ _
    rw [ns]
    have sky : Sky B X.stack a (Zc cls d) ce.locals s'.heap := sky
    rw [hs] at sky
    refine sky_note Zc.steady (by rw [I3.ok.frames, hs]) hfe hLC sky fun h' hh up' => ?_
    rw [← hs] at hh
    exact block_noted I3 f3 hC hce hs hfe hf tk I nb (up.trans up') hh na os ag (hW _ _ _ _ w)
  · rintro u s' ⟨a, B, sI, pins', σ', H', cls, d, L', rfl, hL', I, nb, up, hh, na, os, ag, w⟩
    have hL' : ce.frame = some L' := hL'
    rw [hce, hf] at hL'
    cases hL'
    show wpAny _ _ (noteFrame (.ref a) ce) _ _ _
    rw [ns]
    have hh : HandSPX.HeldZ B X.stack a (Zc cls d) L s'.heap := hh
    exact HandSPX.againZ hfe hh.2.2.2 (block_noted I3 f3 hC hce hs hfe hf tk I nb up hh na os ag (hW _ _ _ _ w))
end

/-! ### the rule -/
section
variable {X : Cx} {W : WX}
abbrev wOf (W : WX) (σ : L2.St) : WX := fun cls d _ H => W cls d σ H
def tLcE (wi : TI) (g : TG) (tt : WX → TT) (te : WX → TE) (W : WX) (vs : List Nat) : TE := fun σ H Q => tLc wi g (tt (wOf W σ)) (te (wOf W σ)) vs σ H Q
theorem lc_coreE {pins : List (Addr × Obj)} {s : Shared} {σ : L2.St} {H : Hp} {Q : VK} {elt tg iter : Expr} {ifs : List Expr} {scope : Scope} {own : List (Str × Nat)} {pos pos' : Pos} {wi : TI} {g : TG} {tt : WX → TT} {te : WX → TE} {use : Option (Value → Sem Unit)} {Qf : Value → Shared → Prop}
    {fe : PySem.Env} {o : List PySem.Env} {L : Addr} (hst : X.stack = fe :: o) (hfe : fe.frame = some L) (hfr : X.env.frame = some L) (tk : TakesF X W)
    (hc : X.calm = true) (hN : X.N.Nodup) (I : Inv X pins σ H s) (hi : PI X tg iter wi) (ok : BlkOk X.N X.env.scope scope own)
    (hg : ∀ (s : Shared) (H : Hp) (C : Addr) (cl : List (Str × Addr)) (fp : List Addr) (xe : Value → Shared → Prop), PG ((X.blk s H scope (compEnvC scope cl C X.env) fp).wish xe) tg g)
    (ht : ∀ (s : Shared) (H : Hp) (C : Addr) (cl : List (Str × Addr)) (fp : List Addr) (xe : Value → Shared → Prop) (W' : WX), Takes ((X.blk s H scope (compEnvC scope cl C X.env) fp).wish xe) W' → TakesF ((X.blk s H scope (compEnvC scope cl C X.env) fp).wish xe) W' → PTs ((X.blk s H scope (compEnvC scope cl C X.env) fp).wish xe) ifs (tt W'))
    (he : ∀ (s : Shared) (H : Hp) (C : Addr) (cl : List (Str × Addr)) (fp : List Addr) (xe : Value → Shared → Prop) (W' : WX), Takes ((X.blk s H scope (compEnvC scope cl C X.env) fp).wish xe) W' → TakesF ((X.blk s H scope (compEnvC scope cl C X.env) fp).wish xe) W' → PE ((X.blk s H scope (compEnvC scope cl C X.env) fp).wish xe) elt (te W'))
    (hs : ∀ x, foldedSetIterable iter X.env x = pure x)
    (h : tLcE wi g tt te W (own.map (·.2)) σ H Q)
    (hRR : ∀ D C s' m H', Inv X pins σ H' s' → Q (.ref D) H' → s'.heap.Ns C m → FpOk X pins H' C → compPost (model X.prog X.w) X.A X.xe use Qf (.ref D) C (.ok .next) s') :
    wpAny (model X.prog X.w) X.A (comprehension (.ListComp elt [⟨tg, iter, ifs, 0⟩] scope pos) scope X.env pos' (newList []) false (eval iter X.env) use) Qf X.xe s := by
  have hfree : ∀ y ∈ scope.names, y.2 = .free → ∃ c, X.env.cells.lookup y.1 = some c := fun y hy e => by
    rcases ok.free y hy e with k | k
    · exact I.ok.has _ (.inl k)
    · exact I.ok.has _ (.inr k)
  refine comprehension_exit (use := use) rfl hs (closure_ok hfree) ok.kind (fun y hy e => by rw [ok.uniq y hy, e])
    (thn (hi.run pins s σ H _ I h) fun xv s1 hx => thn hx fun itv s2 h2 => ?_)
  obtain ⟨it, fp, tn, J, H2, e, I2, T, st2, f2, q⟩ := h2
  subst e
  refine wpAny_newObj_type (newEnv_comp ?_) (by show 0 ≤ sizeLine; decide)
  generalize hD : s2.heap.objs.size = D
  have hDn : H2 D = none := I2.hok.fresh (Nat.le_of_eq hD)
  obtain ⟨W₀, ⟨m0, w0⟩, turn⟩ := q D hDn
  generalize hs3 : ({ s2 with heap := s2.heap.push { cls := .type "list", data := .seq ([] : List Value).toArray } } : Shared) = s3
  have I3 : Inv X pins σ (upd H2 D (.lst [])) s3 := by
    rw [← hs3]
    refine I2.laid (t' := s2.toks) (fun b o e => Heap.get?_push_of_some _ e) (Nat.le_of_eq hD) ⟨Nat.zero_le _, [], 0, .nil, ?_⟩
    rw [← hD]
    exact Heap.get?_push_size _ rfl
  have h3 : s3.heap = s2.heap.push { cls := .type "list", data := .seq ([] : List Value).toArray } := by rw [← hs3]
  have sz : ∀ b ∈ fp, b < s2.heap.objs.size := fun b hb => by
    obtain ⟨o, e, _⟩ := T.obj _ _ st2 b hb
    exact Heap.lt_size e
  have f3 : ∀ b ∈ fp, FpOk X pins (upd H2 D (.lst [])) b ∧ b < s3.heap.objs.size := fun b hb => by
    have hlt := sz b hb
    refine ⟨⟨?_, (f2 b hb).2⟩, by rw [h3, Heap.size_push]; exact Nat.lt_succ_of_lt hlt⟩
    rw [upd_ne (by rw [← hD]; exact Nat.ne_of_lt hlt)]
    exact (f2 b hb).1
  have st3 : tn 0 s3.heap := T.keep _ _ _ st2 fun b _ o e => by rw [h3]; exact Heap.get?_push_of_some _ e
  have I4 := block_start I3 ok hN f3
  have pg := hg s3 (upd H2 D (.lst [])) s3.heap.objs.size (cellsFrom (s3.heap.objs.size + 1) scope.names (cloFrom X.env.cells scope.names [])) fp
  have pt := ht s3 (upd H2 D (.lst [])) s3.heap.objs.size (cellsFrom (s3.heap.objs.size + 1) scope.names (cloFrom X.env.cells scope.names [])) fp
  have pe := he s3 (upd H2 D (.lst [])) s3.heap.objs.size (cellsFrom (s3.heap.objs.size + 1) scope.names (cloFrom X.env.cells scope.names [])) fp
  show codeAny _ _ (.compStart (.ListComp elt [⟨tg, iter, ifs, 0⟩] scope pos) 0 (.ref it) (.ref D) (compEnvC scope (cellsFrom (s3.heap.objs.size + 1) scope.names (cloFrom X.env.cells scope.names [])) s3.heap.objs.size X.env)) (compPostE (model X.prog X.w) X.A X.xe use Qf (.ref D) (compEnvC scope (cellsFrom (s3.heap.objs.size + 1) scope.names (cloFrom X.env.cells scope.names [])) s3.heap.objs.size X.env)) { s3 with heap := pushCells (s3.heap.push { cls := .type "dict", data := .dict #[] }) scope.names }
  have nfp : ∀ b ∈ fp, (upd H2 D (.lst [])) b = none := fun b hb => (f3 b hb).1.1
  have cF : (compEnvC scope (cellsFrom (s3.heap.objs.size + 1) scope.names (cloFrom X.env.cells scope.names [])) s3.heap.objs.size X.env).frame = X.env.frame := rfl
  generalize hce : compEnvC scope (cellsFrom (s3.heap.objs.size + 1) scope.names (cloFrom X.env.cells scope.names [])) s3.heap.objs.size X.env = ce at I4 pg pt pe cF ⊢
  have cL : ce.locals = s3.heap.objs.size := by subst hce; rfl
  generalize hH3 : upd H2 D (.lst []) = H3 at I3 I4 pg pt pe w0 nfp f3
  generalize hs4 : ({ s3 with heap := pushCells (s3.heap.push { cls := .type "dict", data := .dict #[] }) scope.names } : Shared) = s4 at I4 ⊢
  have st4 : tn 0 s4.heap := T.keep _ _ _ st3 fun b _ o e => by rw [← hs4]; exact pushCells_keeps _ _ _ _ (Heap.get?_push_of_some _ e)
  obtain ⟨tk1, tk2⟩ := takes_block (use := use) (Qf := Qf) (acc := .ref D) (scope := scope) (Wb := wOf W σ) I3 f3 cL cF hst hfe hfr tk fun _ _ _ _ h => h
  have pg := pg (notedBy (model X.prog X.w) X.A ce fun e s' => compPostE (model X.prog X.w) X.A X.xe use Qf (.ref D) ce (.error e) s')
  have pt := pt _ _ tk1 tk2
  have pe := pe _ _ tk1 tk2
  have I4 : Inv (blkE X s3 H3 scope ce fp use Qf (.ref D)) [] (wipe σ (own.map (·.2))) H3 s4 := I4.wish _
  generalize hXB : blkE X s3 H3 scope ce fp use Qf (.ref D) = XB at pg pt pe I4 tk1 tk2
  have xB : XB.xe = (notedBy (model X.prog X.w) X.A ce fun e s' => compPostE (model X.prog X.w) X.A X.xe use Qf (.ref D) ce (.error e) s') := by rw [← hXB]
  have stat : ∀ {σ' : L2.St} {H' : Hp} {s' : Shared}, Inv XB [] σ' H' s' → (∀ b ∈ fp, H' b = none) → ∀ b ∈ fp, FpOk XB [] H' b := by
    subst hXB
    exact fun {σ' H' s'} I' hn b hb => ⟨hn b hb, (I'.ok.exf b hb).1, I'.ok.exfs b hb, .inl hb, fun x c e => (I'.ok.exf b hb).2 x c e, fun p hp => absurd (show p ∈ ([] : List (Addr × Obj)) ++ [] from hp) (by simp)⟩
  subst hXB
  have loop : codeAny (model X.prog X.w) X.A (.compLoop (.ListComp elt [⟨tg, iter, ifs, 0⟩] scope pos) 0 (.ref it) (.ref D) ce) (compPostE (model X.prog X.w) X.A X.xe use Qf (.ref D) ce) s4 := by
    refine compLoop_any (fun n s' => ∃ i H', Inv (blkE X s3 H3 scope ce fp use Qf (.ref D)) [] (wipe σ (own.map (·.2))) H' s' ∧ tn i s'.heap ∧ (∀ b ∈ fp, H' b = none) ∧ W₀ i n H') ?_ m0 ⟨0, H3, I4, st4, nfp, w0⟩
    rintro n s5 ⟨i, H5, I5, st5, n5, w5⟩
    rcases turn i n H5 w5 with ⟨stop, qq⟩ | ⟨go, Nx, hNx, step⟩
    · have td := T.done (blkE X s3 H3 scope ce fp use Qf (.ref D)) rfl rfl rfl hc i [] s5 _ H5 (fun _ _ => False) I5 (stat I5 n5) st5 stop
      refine thnF td fun r s6 ⟨hr, I6⟩ => ?_
      subst hr
      have I7 : Inv X pins σ H5 s6 := I3.call' (ch := fp) I6.os I6.base I6.hok I6.bare fun b hb => ⟨(f3 b hb).1.2.2.2.1, (f3 b hb).1.2.1, (f3 b hb).1.2.2.2.2.1, (f3 b hb).1.2.2.2.2.2⟩
      have nC : H5 s3.heap.objs.size = none := by
        have z : H5 ce.locals = none := I6.free
        rw [cL] at z
        exact z
      obtain ⟨m, hn, _⟩ := I6.loc
      have hn : s6.heap.Ns ce.locals m := hn
      rw [cL] at hn
      show compPost _ _ _ _ _ _ ce.locals _ _
      rw [cL]
      exact hRR D s3.heap.objs.size s6 m H5 I7 qq hn (I3.fpOk (Nat.le_refl _) nC)
    · have ti := T.item (blkE X s3 H3 scope ce fp use Qf (.ref D)) rfl rfl rfl hc i [] s5 _ H5 (fun _ _ => False) I5 (stat I5 n5) st5 go
      refine thnF ti fun r s6 ⟨u, hr, h6⟩ => ?_
      subst hr
      refine thnF h6 fun _ s7 ⟨x, H7, I7, r7, y7, st7, n7⟩ => ?_
      have I7' := I7.pinned (stat I7 n7) (T.obj _ _ st7)
      refine thn (pg.run _ s7 _ H7 x u _ I7' r7 (step x H7 y7)) fun _ s8 ⟨σ8, H8, I8, hw8, q8⟩ => ?_
      refine thn (pt.run _ s8 σ8 H8 _ I8 q8) fun b s9 ⟨H9, I9, q9⟩ => ?_
      have fin : ∀ {s' : Shared} {H' : Hp}, Inv (blkE X s3 H3 scope ce fp use Qf (.ref D)) ([] ++ pinsAt fp s7.heap) σ8 H' s' → Nx H' → ∃ m, m < n ∧ ∃ i H', Inv (blkE X s3 H3 scope ce fp use Qf (.ref D)) [] (wipe σ (own.map (·.2))) H' s' ∧ tn i s'.heap ∧ (∀ b ∈ fp, H' b = none) ∧ W₀ i m H' := fun {s' H'} I' nx => by
        obtain ⟨m', hm, w'⟩ := hNx H' nx
        have pin' : ∀ b ∈ fp, ∀ o, s7.heap.get? b = some o → s'.heap.get? b = some o ∧ H' b = none := fun b hb o e =>
          let z := I'.pin (b, o) (List.mem_append_right _ (List.mem_append_right _ (mem_pinsAt hb e)))
          ⟨z.1, z.2.1⟩
        have hl : (wipe σ (own.map (·.2))).length = σ8.length := by rw [← hw8, wipe_length]
        refine ⟨m', hm, i + 1, H', (I'.unpinned (pins := [])).weak hl (fun j v e => ?_), T.keep _ _ _ st7 fun b hb o e => (pin' b hb o e).1, fun b hb => ?_, w'⟩
        · rw [← hw8] at e
          exact (wipe_some e).1
        · obtain ⟨o, e, _⟩ := T.obj _ _ st7 b hb
          exact (pin' b hb o e).2
      cases b with
      | false =>
        simp only [Bool.false_eq_true, if_false] at q9 ⊢
        exact fin I9 q9
      | true =>
        simp only [if_true] at q9 ⊢
        refine thn (pe.run _ s9 σ8 H9 _ I9 q9) fun z s10 ⟨yv, H10, I10, r10, acc, hD10, hz10, nx⟩ => ?_
        exact app_ok (X := blkE X s3 H3 scope ce fp use Qf (.ref D)) I10 hD10 hz10 r10 fun s11 I11 => fin I11 nx
  exact codeAny_compStart_list loop (T.self X.A 0 _ _ _ st4 loop)
theorem pe_lcE {elt tg iter : Expr} {ifs : List Expr} {scope : Scope} {own : List (Str × Nat)} {pos : Pos} {wi : TI} {g : TG} {tt : WX → TT} {te : WX → TE} (hfr : ∃ fe o L, X.stack = fe :: o ∧ fe.frame = some L ∧ X.env.frame = some L) (tk : TakesF X W) (hc : X.calm = true) (hN : X.N.Nodup) (hi : PI X tg iter wi) (ok : BlkOk X.N X.env.scope scope own)
    (hg : ∀ (s : Shared) (H : Hp) (C : Addr) (cl : List (Str × Addr)) (fp : List Addr) (xe : Value → Shared → Prop), PG ((X.blk s H scope (compEnvC scope cl C X.env) fp).wish xe) tg g)
    (ht : ∀ (s : Shared) (H : Hp) (C : Addr) (cl : List (Str × Addr)) (fp : List Addr) (xe : Value → Shared → Prop) (W' : WX), Takes ((X.blk s H scope (compEnvC scope cl C X.env) fp).wish xe) W' → TakesF ((X.blk s H scope (compEnvC scope cl C X.env) fp).wish xe) W' → PTs ((X.blk s H scope (compEnvC scope cl C X.env) fp).wish xe) ifs (tt W'))
    (he : ∀ (s : Shared) (H : Hp) (C : Addr) (cl : List (Str × Addr)) (fp : List Addr) (xe : Value → Shared → Prop) (W' : WX), Takes ((X.blk s H scope (compEnvC scope cl C X.env) fp).wish xe) W' → TakesF ((X.blk s H scope (compEnvC scope cl C X.env) fp).wish xe) W' → PE ((X.blk s H scope (compEnvC scope cl C X.env) fp).wish xe) elt (te W'))
    (hs : ∀ x, foldedSetIterable iter X.env x = pure x := by intro _; rfl) :
    PE X (.ListComp elt [⟨tg, iter, ifs, 0⟩] scope pos) (tLcE wi g tt te W (own.map (·.2))) := by
  obtain ⟨fe, o, L, f1, f2, f3⟩ := hfr
  refine ⟨fun pins s σ H Q I h => ?_⟩
  rw [eval_ListComp]
  refine lc_coreE f1 f2 f3 tk hc hN I hi ok hg ht he hs h fun D C s' m H' I' q hn f => ⟨m, hn, fun h'' sb => ?_⟩
  obtain ⟨f0, f1, f2, f3, f4, f5⟩ := f
  exact ⟨.ref D, H', I'.turned (t' := s'.toks) (fun b o hb e => (sb.2 b hb).trans e) f0 f1 f3 f4 f5, rfl, q⟩
theorem ps_setLcE {i : Nat} {y : Str} {py : Pos} {elt tg iter : Expr} {ifs : List Expr} {scope : Scope} {own : List (Str × Nat)} {pos spos : Pos} {wi : TI} {g : TG} {tt : WX → TT} {te : WX → TE} (hfr : ∃ fe o L, X.stack = fe :: o ∧ fe.frame = some L ∧ X.env.frame = some L) (tk : TakesF X W) (hc : X.calm = true) (hN : X.N.Nodup) (hy : X.N[i]? = some y) (hyl : X.env.scope.names.lookup y = some .local)
    (hsw : swapsWith (.ListComp elt [⟨tg, iter, ifs, 0⟩] scope pos) (some (.Name y py)) spos.line X.env = pure true) (hi : PI X tg iter wi) (ok : BlkOk X.N X.env.scope scope own)
    (hg : ∀ (s : Shared) (H : Hp) (C : Addr) (cl : List (Str × Addr)) (fp : List Addr) (xe : Value → Shared → Prop), PG ((X.blk s H scope (compEnvC scope cl C X.env) fp).wish xe) tg g)
    (ht : ∀ (s : Shared) (H : Hp) (C : Addr) (cl : List (Str × Addr)) (fp : List Addr) (xe : Value → Shared → Prop) (W' : WX), Takes ((X.blk s H scope (compEnvC scope cl C X.env) fp).wish xe) W' → TakesF ((X.blk s H scope (compEnvC scope cl C X.env) fp).wish xe) W' → PTs ((X.blk s H scope (compEnvC scope cl C X.env) fp).wish xe) ifs (tt W'))
    (he : ∀ (s : Shared) (H : Hp) (C : Addr) (cl : List (Str × Addr)) (fp : List Addr) (xe : Value → Shared → Prop) (W' : WX), Takes ((X.blk s H scope (compEnvC scope cl C X.env) fp).wish xe) W' → TakesF ((X.blk s H scope (compEnvC scope cl C X.env) fp).wish xe) W' → PE ((X.blk s H scope (compEnvC scope cl C X.env) fp).wish xe) elt (te W'))
    (hs : ∀ x, foldedSetIterable iter X.env x = pure x := by intro _; rfl) :
    PS X (.Assign [.Name y py] (.ListComp elt [⟨tg, iter, ifs, 0⟩] scope pos) spos) (tAsg (tLcE wi g tt te W (own.map (·.2))) (gName i)) := by
  obtain ⟨fe, o, L, z1, z2, z3⟩ := hfr
  refine ⟨fun pins s σ H D I h => ?_⟩
  rw [exec_Assign_Name_used _ _ _ _ hsw]
  refine wpAny_bind (wpAny_standAt (wpAny_bind ?_))
  show wpAny _ X.A (do let _ ← comprehension (.ListComp elt [⟨tg, iter, ifs, 0⟩] scope pos) scope X.env (firstIterPos [⟨tg, iter, ifs, 0⟩] pos) (newList []) false (eval iter X.env) (some (assign (.Name y py) X.env))) _ _ s
  have h : tLcE wi g tt te W (own.map (·.2)) σ H (fun x H1 => gName i x σ H1 D.nx) := h
  refine wpAny_bind (thn (lc_coreE (Qf := fun _ s' => SP X pins D .next s') z1 z2 z3 tk hc hN I hi ok hg ht he hs h fun L C s' m H' I' q hn f => ?_) fun _ s' hq => wpAny_pure (wpAny_pure hq))
  show wpAny _ _ (assign (.Name y py) X.env (.ref L)) _ _ _
  refine wpAny_assign_Name (store_ok2 (v := V.ref L) I' hN hy (.inl hyl) rfl (fun s2 I2 ⟨a, sb, ha⟩ => ?_) (.inr hyl))
  obtain ⟨f0, f1, f2, f3, f4, f5⟩ := f
  have haC : C ≠ a := by
    rcases ha with z | z
    · rw [z]; exact f1
    · exact fun e => f4 y a z e.symm
  refine ⟨m, hn.sameBut sb haC, fun h3 sb3 => ?_⟩
  exact ⟨_, H', I2.turned (t' := s2.toks) (fun b o hb e => (sb3.2 b hb).trans e) f0 f1 f3 f4 f5, q⟩
end
theorem PG.nox {X : Cx} {e : Expr} {t : TG} (h : PG X.nox e t) : PG X e t := ⟨fun pins s σ H v u Q I r hw =>
  wpAny_mono (h.run pins s σ H v u Q (I.wish _) r hw) (fun _ _ ⟨σ', H', I', q⟩ => ⟨σ', H', I'.unwish, q⟩) fun _ _ z => False.elim z⟩
end Zn

/-! Zn, part 7: expressions. -/
namespace Zn
open PySem PySem.Spec PyProof.Rows L2

def spF (K : PySem.W.Frag) (cA : Nat → Option Addr) (F : CallF) (f : Nat) : Sp := fun vs H Q E => ∃ s ds, s.H = H ∧ s.Ok K ∧ Reps K s ds vs ∧ Post K cA s [] (fun cls dd _ H => E cls dd H) (F f ds s.st) (PQ K Q)
structure ExR (K : PySem.W.Frag) (G : Str → Option Value) (C : Addr) (r : Nat) : Prop where
  mg : G (cn r) = some (.ref C)
  xN : r = 1 → OexN K G C
  xP : r ≠ 1 → PySem.W.excIn K C [.type "ValueError", .type "Exception", .type "BaseException", .type "object"] "ValueError.__new__" = true
  kP : PySem.W.keepIn K (.ref C) = true
  bP : PySem.W.subIn K (.ref C) (.type "BaseException") = some true
  tP : PySem.W.typeIn K (.ref C) = some (.type "type")
  eC : ExcC K C
  kV : PySem.W.kitOne K (.ref C) (.type "ValueError") = some true
  at_ : ∀ c, c < 7 → ∃ C', PySem.W.nsIn K mainGlobals (cn c) = some (some (.ref C')) ∧ G (cn c) = some (.ref C') ∧ PySem.W.kitOne K (.ref C) (.ref C') = some (subC r c) ∧ PySem.W.exmOne K (.ref C) (.ref C') = some (subC r c)
theorem ExR.exK {K : PySem.W.Frag} {G : Str → Option Value} {C : Addr} {r : Nat} (E : ExR K G C r) : ExK K C r := ⟨E.eC, E.kV, fun c h => let ⟨C', a, _, b, _⟩ := E.at_ c h; ⟨C', a, b⟩⟩
structure Cg (Fs : List Fn) (cA : Nat → Option Addr) (n : Nat) (X : Cx) (W : WX) : Prop where
  calm : X.calm = true
  nd : X.N.Nodup
  room : Room (4 + n) X.A
  bl : ∀ x ∈ bltNames, X.mg x = none
  takes : Takes X W
  tkF : TakesF X W
  fr : ∃ fe o L, X.stack = fe :: o ∧ fe.frame = some L ∧ X.env.frame = some L
  gi : ∀ (f : Nat) (fn : Fn) (x : Str) (i : Int), Fs[f]? = some fn → fn.isI x i = true → ∃ t, X.mg x = some (.int i t)
  gs : ∀ (f : Nat) (fn : Fn) (x s : Str), Fs[f]? = some fn → fn.isS x s = true → ∃ t, X.mg x = some (.str s t)
  ex : ∀ (r : Nat) (C : Addr), cA r = some C → ExR X.K X.mg C r
  rz : ∀ r, rzB Fs r = true → ∃ C, cA r = some C
  al : ∀ (fn : Fn) (x m : Str), fn ∈ Fs → fn.isAl x m = true → X.mg x = X.mg m
  me : ∀ (f : Nat) (fn : Fn), Fs[f]? = some fn → fn.isC = false → fn.isM = true → ∃ C fa fd, InsK X.K C (clsM fn.name) ∧ Meth X.K C fn.name fa ∧ Binds X.K fd fn.ps [] ∧
    FnOk X.prog X.w X.K X.mg X.base (L2.CX X.prog X.w) (4 + n) fa fd fn.ps (spF X.K cA (cf Fs n) f)
  mkI : ∀ c : Nat, c < 2 → usesC Fs c = true → ∃ C f fd, InsK X.K C c ∧ Mk X.K C f ∧ X.mg (clN c) = some (.ref C) ∧ Binds X.K fd ["self", "bounds"] [] ∧
    FnOk X.prog X.w X.K X.mg X.base (L2.CX X.prog X.w) (1 + 2 * c) f fd ["self", "bounds"] (spMI X.K c)
  fn : ∀ (f : Nat) (fn : Fn), Fs[f]? = some fn → fn.isC = false → fn.isM = false → ∃ fa fd, X.mg fn.name = some (.ref fa) ∧ PySem.W.keepIn X.K (.ref fa) = true ∧ Binds X.K fd fn.ps [] ∧
    FnOk X.prog X.w X.K X.mg X.base (L2.CX X.prog X.w) (4 + n) fa fd fn.ps (spF X.K cA (cf Fs n) f)
abbrev W0 : WX := fun _ _ _ _ => False
section
variable {Fs : List Fn} {cA : Nat → Option Addr} {n : Nat} {X : Cx} {W : WX}
theorem Cg.hu2 (g : Cg Fs cA n X W) : X.A.units + 151 < cLine := by have := g.room.un; omega
theorem Cg.hu (g : Cg Fs cA n X W) : X.A.units + 65 < cLine := by have := g.room.un; omega
theorem Cg.blkE (g : Cg Fs cA n X W) (s : Shared) (H : Hp) (scope : Scope) (C : Addr) (cl : List (Str × Addr)) (fp : List Addr) (xe : Value → Shared → Prop) {W' : WX} (tk : Takes ((X.blk s H scope (compEnvC scope cl C X.env) fp).wish xe) W') (tkF : TakesF ((X.blk s H scope (compEnvC scope cl C X.env) fp).wish xe) W') :
    Cg Fs cA n ((X.blk s H scope (compEnvC scope cl C X.env) fp).wish xe) W' :=
  ⟨g.calm, g.nd, g.room, g.bl, tk, tkF, g.fr, g.gi, g.gs, g.ex, g.rz, g.al, g.me, g.mkI, g.fn⟩
theorem bl_of (g : Cg Fs cA n X W) {x : Str} (h : (bltNames.any fun y => decide (y = x)) = true) : X.mg x = none := by
  obtain ⟨y, h1, h2⟩ := List.any_eq_true.mp h
  rw [← of_decide_eq_true h2]
  exact g.bl y h1

def plT : Expr → Bool
  | .UnaryOp _ _ _ => false
  | .BoolOp _ _ _ => false
  | .IfExp _ _ _ _ => false
  | .Compare _ _ _ _ => false
  | _ => true
theorem isT_plain {e : Expr} {env : PySem.Env} (h : plT e = true) : ∀ whole, isTrue e env whole = (do let v ← whole; standAt e.pos; holding [v] (truthy v)) := by
  intro whole
  cases e <;> first | rfl | cases h
def isX : T → Bool
  | .nil => false
  | .cons _ _ => false
  | .no => false
  | .so _ => false
  | .sit _ => false
  | .srng _ _ => false
  | .senum _ => false
  | .srev _ => false
  | .szip _ _ => false
  | _ => true

structure Pe (Fs : List Fn) (cA : Nat → Option Addr) (tr : T) (n : Nat) (X : Cx) (W : WX) : Prop where
  e : ∀ ex, chkE X.N Fs X.env.scope tr ex = true → PE X ex (tE X.K cA (cf Fs n) W tr)
  t : ∀ ex, chkE X.N Fs X.env.scope tr ex = true → tst tr = true → PT X ex (tT X.K cA (cf Fs n) W tr)
  a : ∀ vs, chkEs X.N Fs X.env.scope tr vs = true → PA X vs (tA X.K cA (cf Fs n) W tr) ∧ ∀ v ∈ vs, pl v = true
  b : ∀ o pos v vs, chkEs X.N Fs X.env.scope tr (v :: vs) = true → PE X (.BoolOp o (v :: vs) pos) (tB' X.K cA (cf Fs n) W o tr)
  w : ∀ o pos v vs, chkEs X.N Fs X.env.scope tr (v :: vs) = true → tst tr = true → PW X (.BoolOp o (v :: vs) pos) (tBT X.K cA (cf Fs n) W o tr)
  o : ∀ v, chkO X.N Fs X.env.scope tr v = true → PO X v (tO X.K cA (cf Fs n) W tr)
  c : ∀ vs, chkC X.N Fs X.env.scope tr vs = true → PTs X vs (tC' X.K cA (cf Fs n) W tr)
  i : ∀ tg iter, chkW X.N Fs X.env.scope tr iter = true → tgOk tr tg = true → PI X tg iter (tI X.K cA (cf Fs n) W tr) ∧ pl iter = true

theorem dead_Es {N : List Str} {sc : Scope} {t : T} {vs : List Expr} (h : chkEs N Fs sc t vs = true) (z : isX t = true) : False := by
  cases t <;> first | (cases z; done) | (cases vs <;> cases h)
theorem dead_O {N : List Str} {sc : Scope} {t : T} {vs : Option Expr} (h : chkO N Fs sc t vs = true) (z : isX t = true) : False := by
  cases t <;> first | (cases z; done) | (cases vs <;> cases h)
theorem dead_C {N : List Str} {sc : Scope} {t : T} {vs : List Expr} (h : chkC N Fs sc t vs = true) (z : isX t = true) : False := by
  cases t <;> first | (cases z; done) | (cases vs <;> cases h)
theorem dead_W {N : List Str} {sc : Scope} {t : T} {vs : Expr} (h : chkW N Fs sc t vs = true) (z : isX t = true) : False := by
  unfold chkW at h
  split at h <;> first | (cases z; done) | (cases h; done)
theorem Pe.of {t : T} (z : isX t = true) (he : ∀ ex, chkE X.N Fs X.env.scope t ex = true → PE X ex (tE X.K cA (cf Fs n) W t))
    (ht : ∀ ex, chkE X.N Fs X.env.scope t ex = true → tst t = true → PT X ex (tT X.K cA (cf Fs n) W t)) : Pe Fs cA t n X W :=
  ⟨he, ht, fun _ h => (dead_Es h z).elim, fun _ _ _ _ h => (dead_Es h z).elim, fun _ _ _ _ h => (dead_Es h z).elim, fun _ h => (dead_O h z).elim, fun _ h => (dead_C h z).elim, fun _ _ h _ => (dead_W h z).elim⟩

theorem pt_of {t : T} {ex : Expr} (h : PE X ex (tE X.K cA (cf Fs n) W t)) (hp : plT ex = true) : PT X ex (tT X.K cA (cf Fs n) W t) :=
  PT.imp (pt_val h (isT_plain hp)) fun σ H Q ⟨s, env, e, ok, re, q⟩ => ⟨s, env, e, ok, re, q.mono fun d s1 o1 l1 ⟨b, eb, qb⟩ v hv => by
    subst eb
    cases rep_bl hv
    exact ⟨b, rfl, qb⟩⟩
theorem Pe.ofV {t : T} (z : isX t = true) (he : ∀ ex, chkE X.N Fs X.env.scope t ex = true → PE X ex (tE X.K cA (cf Fs n) W t) ∧ plT ex = true) : Pe Fs cA t n X W :=
  .of z (fun ex h => (he ex h).1) fun ex h _ => pt_of (he ex h).1 (he ex h).2

theorem p_var (i : Nat) : Pe Fs cA (.var i) n X W := .ofV rfl fun ex h => by
  cases ex with
  | Name x p =>
    have h : (decide (X.N[i]? = some x) && visB X.env.scope x && nmOk x) = true := h
    rw [Bool.and_eq_true, Bool.and_eq_true, decide_eq_true_eq] at h
    obtain ⟨⟨h1, h2⟩, h3⟩ := h
    refine ⟨PE.imp (pe_var h1 (visB_ok h2) (nmOk_ok h3).1 (nmOk_ok h3).2.1) fun σ H Q ⟨s, env, e, ok, re, q⟩ => ?_, rfl⟩
    subst e
    have q : Post X.K cA s σ W (match env[i]? with
      | some (some d) => .ok d s.st
      | _ => .err) (PQ X.K Q) := q
    split at q
    · rename_i d hd
      obtain ⟨v, h4, h5⟩ := re.at_ i d hd
      exact ⟨v, h4, post_val ok q h5⟩
    · exact q.elim
  | _ => cases h
theorem p_gi (g : Cg Fs cA n X W) (f : Nat) (i : Int) : Pe Fs cA (.gi f i) n X W := .ofV rfl fun ex h => by
  cases ex with
  | Name x p =>
    refine ⟨?_, rfl⟩
    have h : ((match Fs[f]? with
      | some fn => fn.isI x i
      | none => false) && glB X.env.scope x && nmOk x) = true := h
    rw [Bool.and_eq_true, Bool.and_eq_true] at h
    obtain ⟨⟨h1, h2⟩, h3⟩ := h
    split at h1
    · rename_i fn hf
      obtain ⟨t, hm⟩ := g.gi f fn x i hf h1
      refine PE.imp (pe_glob (v := .int i) (glB_ok h2) hm ⟨t, rfl⟩ (nmOk_ok h3).1) fun σ H Q ⟨s, env, e, ok, re, q⟩ => ?_
      subst e
      exact post_val ok q (.dat (.int _))
    · cases h1
  | _ => cases h
theorem p_gsv (g : Cg Fs cA n X W) (f : Nat) (s : Str) : Pe Fs cA (.gsv f s) n X W := .ofV rfl fun ex h => by
  cases ex with
  | Name x p =>
    refine ⟨?_, rfl⟩
    have h : ((match Fs[f]? with
      | some fn => fn.isS x s
      | none => false) && glB X.env.scope x && nmOk x) = true := h
    rw [Bool.and_eq_true, Bool.and_eq_true] at h
    obtain ⟨⟨h1, h2⟩, h3⟩ := h
    split at h1
    · rename_i fn hf
      obtain ⟨t, hm⟩ := g.gs f fn x s hf h1
      refine PE.imp (pe_glob (v := .str s) (glB_ok h2) hm ⟨t, rfl⟩ (nmOk_ok h3).1) fun σ H Q ⟨s0, env, e, ok, re, q⟩ => ?_
      subst e
      exact post_val ok q (.dat (.str _))
    · cases h1
  | _ => cases h
theorem p_con (d : D) : Pe Fs cA (.con d) n X W := .ofV rfl fun ex h => by
  cases ex with
  | Constant c k p =>
    refine ⟨?_, rfl⟩
    have h : conB d c = true := h
    have fin : ∀ {v : V}, (∀ s : Sit, Rep X.K s d v) → ∀ σ H Q, tE X.K cA (cf Fs n) W (.con d) σ H Q → tC v σ H Q := fun hv σ H Q ⟨s, env, e, ok, re, q⟩ => by
      subst e
      exact post_val ok q (hv s)
    cases d with
    | non => cases c with
      | none => exact PE.imp pe_non (fin fun _ => .non)
      | _ => cases h
    | bl b => cases c with
      | bool b' =>
        have e : b = b' := beq_iff_eq.mp h
        subst e
        exact PE.imp pe_bl (fin fun _ => .bl _)
      | _ => cases h
    | int i => cases c with
      | int j =>
        have e : i = j := of_decide_eq_true h
        subst e
        exact PE.imp pe_int (fin fun _ => .int _)
      | _ => cases h
    | str i => cases c with
      | str j =>
        have e : i = j := of_decide_eq_true h
        subst e
        exact PE.imp pe_str (fin fun _ => .str _)
      | _ => cases h
    | _ => cases c <;> cases h
  | _ => cases h
theorem p_bin (m : Bool) (op : Operator) {a b : T} (pa : Pe Fs cA a n X W) (pb : Pe Fs cA b n X W) : Pe Fs cA (.bin m op a b) n X W := .ofV rfl fun ex h => by
  cases ex with
  | BinOp l o r p =>
    have h : (decide (op = o) && chkE X.N Fs X.env.scope a l && chkE X.N Fs X.env.scope b r) = true := h
    rw [Bool.and_eq_true, Bool.and_eq_true, decide_eq_true_eq] at h
    obtain ⟨⟨h1, h2⟩, h3⟩ := h
    subst h1
    obtain ⟨rr, ho, hs⟩ := opk_bin (X := X) (cA := cA) (m := m) (op := op)
    refine ⟨PE.imp (pe_op ho (pa.e l h2) (pb.e r h3)) fun σ H Q ⟨s, env, e, ok, re, q⟩ => ?_, rfl⟩
    subst e
    exact tE_then ok re q fun s1 d x o1 l1 re1 rx q1 => tE_then o1 re1 q1 fun s2 e y o2 l2 re2 ry q2 => hs s2 σ W d e x y Q o2 (rx.le o1 l2) ry q2
  | _ => cases h
theorem p_neg {a : T} (pa : Pe Fs cA a n X W) : Pe Fs cA (.neg a) n X W := .of rfl (fun ex h => by
  cases ex with
  | UnaryOp o x p =>
    cases o with
    | USub =>
      have h : chkE X.N Fs X.env.scope a x = true := h
      refine PE.imp (pe_un un_neg (pa.e x h)) fun σ H Q ⟨s, env, e, ok, re, q⟩ => ?_
      subst e
      refine tE_then ok re q fun s1 d x o1 l1 re1 rx q1 => ?_
      cases d with
      | int i =>
        cases rep_int rx
        exact ⟨i, rfl, post_val o1 q1 (.int _)⟩
      | _ => exact q1.elim
    | _ => cases h
  | _ => cases h) fun ex h z => by
  cases ex with
  | UnaryOp o x p => cases o with
    | USub =>
      have h1 : chkE X.N Fs X.env.scope a x = true := h
      have pe : PE X (.UnaryOp .USub x p) (tE X.K cA (cf Fs n) W (.neg a)) := by
        refine PE.imp (pe_un un_neg (pa.e x h1)) fun σ H Q ⟨s, env, e, ok, re, q⟩ => ?_
        subst e
        refine tE_then ok re q fun s1 d x o1 l1 re1 rx q1 => ?_
        cases d with
        | int i =>
          cases rep_int rx
          exact ⟨i, rfl, post_val o1 q1 (.int _)⟩
        | _ => exact q1.elim
      exact PT.imp (pt_val pe (by intro _; rfl)) fun σ H Q ⟨s, env, e, ok, re, q⟩ => ⟨s, env, e, ok, re, q.mono fun d s1 o1 l1 ⟨b, eb, qb⟩ v hv => by
        subst eb
        cases rep_bl hv
        exact ⟨b, rfl, qb⟩⟩
    | _ => cases h
  | _ => cases h
theorem p_cmp (g : Cg Fs cA n X W) (op : CmpOp) {a b : T} (pa : Pe Fs cA a n X W) (pb : Pe Fs cA b n X W) : Pe Fs cA (.cmp op a b) n X W := by
  obtain ⟨rr, ho, hs⟩ := opk_cmp (X := X) (cA := cA) (op := op) g.hu2
  have split : ∀ {ex}, chkE X.N Fs X.env.scope (.cmp op a b) ex = true → ∃ l r p, ex = .Compare l [op] [r] p ∧ chkE X.N Fs X.env.scope a l = true ∧ chkE X.N Fs X.env.scope b r = true ∧ pl r = true := by
    intro ex h
    cases ex with
    | Compare l os rs p =>
      match os, rs, h with
      | [o], [r], h =>
        have h : (decide (op = o) && chkE X.N Fs X.env.scope a l && chkE X.N Fs X.env.scope b r && pl r) = true := h
        rw [Bool.and_eq_true, Bool.and_eq_true, Bool.and_eq_true, decide_eq_true_eq] at h
        obtain ⟨⟨⟨h1, h2⟩, h3⟩, h4⟩ := h
        subst h1
        exact ⟨l, r, p, rfl, h2, h3, h4⟩
    | _ => cases h
  refine .of rfl (fun ex h => ?_) fun ex h _ => ?_
  · obtain ⟨l, r, p, rfl, h2, h3, h4⟩ := split h
    refine PE.imp (pe_cmpR ho (pa.e l h2) (pb.e r h3) (mark_pl h4)) fun σ H Q ⟨s, env, e, ok, re, q⟩ => ?_
    subst e
    exact tE_then ok re q fun s1 d x o1 l1 re1 rx q1 => tE_then o1 re1 q1 fun s2 e y o2 l2 re2 ry q2 => hs s2 σ W d e x y Q o2 (rx.le o1 l2) ry q2
  · obtain ⟨l, r, p, rfl, h2, h3, h4⟩ := split h
    refine PT.imp (pt_cmpR ho (pa.e l h2) (pb.e r h3) (mark_pl h4)) fun σ H Q ⟨s, env, e, ok, re, q⟩ => ?_
    subst e
    refine tE_then ok re q fun s1 d x o1 l1 re1 rx q1 => tE_then o1 re1 q1 fun s2 e y o2 l2 re2 ry q2 => hs s2 σ W d e x y _ o2 (rx.le o1 l2) ry (q2.mono fun d s3 o3 l3 ⟨b, eb, qb⟩ v hv => ?_)
    subst eb
    cases rep_bl hv
    exact ⟨b, rfl, qb⟩
theorem lastM_pl {o o' : CmpOp} {r r' : Expr} (h : pl r' = true) : lastMarks [o, o'] [r, r'] = false := mark_pl h
theorem p_cmp2 (g : Cg Fs cA n X W) (op op' : CmpOp) {a b c : T} (pa : Pe Fs cA a n X W) (pb : Pe Fs cA b n X W) (pc : Pe Fs cA c n X W) : Pe Fs cA (.cmp2 op op' a b c) n X W := by
  obtain ⟨rr, ho, hs⟩ := opk_cmp (X := X) (cA := cA) (op := op) g.hu2
  obtain ⟨rr', ho', hs'⟩ := opk_cmp (X := X) (cA := cA) (op := op') g.hu2
  have split : ∀ {ex}, chkE X.N Fs X.env.scope (.cmp2 op op' a b c) ex = true → ∃ l r r' p, ex = .Compare l [op, op'] [r, r'] p ∧ chkE X.N Fs X.env.scope a l = true ∧ chkE X.N Fs X.env.scope b r = true ∧ chkE X.N Fs X.env.scope c r' = true ∧ pl r' = true := by
    intro ex h
    cases ex with
    | Compare l os rs p =>
      match os, rs, h with
      | [o, o'], [r, r'], h =>
        have h : (decide (op = o) && decide (op' = o') && chkE X.N Fs X.env.scope a l && chkE X.N Fs X.env.scope b r && chkE X.N Fs X.env.scope c r' && pl r') = true := h
        rw [Bool.and_eq_true, Bool.and_eq_true, Bool.and_eq_true, Bool.and_eq_true, Bool.and_eq_true, decide_eq_true_eq, decide_eq_true_eq] at h
        obtain ⟨⟨⟨⟨⟨h1, h1'⟩, h2⟩, h3⟩, h4⟩, h5⟩ := h
        subst h1 h1'
        exact ⟨l, r, r', p, rfl, h2, h3, h4, h5⟩
    | _ => cases h
  have run : ∀ {l r r' : Expr} {σ : L2.St} {H : Hp} {Q : VK}, tE X.K cA (cf Fs n) W (.cmp2 op op' a b c) σ H Q → tChain rr rr' (tE X.K cA (cf Fs n) W a) (tE X.K cA (cf Fs n) W b) (tE X.K cA (cf Fs n) W c) σ H Q := by
    intro l r r' σ H Q ⟨s, env, e, ok, re, q⟩
    subst e
    refine tE_then ok re q fun s1 d x o1 l1 re1 rx q1 => tE_then o1 re1 q1 fun s2 e y o2 l2 re2 ry q2 => ?_
    cases hc : cmpF op d e s2.st with
    | none => rw [hc] at q2; exact q2.elim
    | some k =>
      rw [hc] at q2
      refine hs s2 σ W d e x y _ o2 (rx.le o1 l2) ry ?_
      show Post X.K cA s2 σ W (optB (cmpF op d e s2.st) s2.st) _
      rw [hc]
      intro s3 e3 o3 l3 v hv
      cases rep_bl hv
      refine ⟨k, rfl, ?_⟩
      cases k with
      | true =>
        rw [if_pos rfl]
        have q3 : Post X.K cA s2 σ W ((ev (cf Fs n) c env s2.st).bind fun z st3 => optB (cmpF op' e z st3) st3) (PQ X.K Q) := q2
        have q4 := q3.le l3
        rw [← e3] at q4
        exact tE_then o3 (re2.le o2 l3) q4 fun s4 f z o4 l4 re4 rz q5 => hs' s4 σ W e f y z Q o4 ((ry.le o2 l3).le o3 l4) rz q5
      | false =>
        rw [if_neg Bool.false_ne_true]
        have q3 : Post X.K cA s2 σ W (.ok (.bl false) s2.st) (PQ X.K Q) := q2
        exact q3 s3 e3 o3 l3 _ (.bl _)
  refine .of rfl (fun ex h => ?_) fun ex h _ => ?_
  · obtain ⟨l, r, r', p, rfl, h2, h3, h4, h5⟩ := split h
    exact PE.imp (pe_chain ho ho' (pa.e l h2) (pb.e r h3) (pc.e r' h4) (lastM_pl h5)) fun σ H Q q => run (l := l) (r := r) (r' := r') q
  · obtain ⟨l, r, r', p, rfl, h2, h3, h4, h5⟩ := split h
    refine PT.imp (pt_chain ho ho' (pa.e l h2) (pb.e r h3) (pc.e r' h4) (lastM_pl h5)) fun σ H Q q => ?_
    obtain ⟨s, env, e, ok, re, q⟩ := q
    refine run (l := l) (r := r) (r' := r') ⟨s, env, e, ok, re, q.mono fun d s3 o3 l3 ⟨b, eb, qb⟩ v hv => ?_⟩
    subst eb
    cases rep_bl hv
    exact ⟨b, rfl, qb⟩
theorem lastM3_pl {o o' o'' : CmpOp} {r r' r'' : Expr} (h : pl r'' = true) : lastMarks [o, o', o''] [r, r', r''] = false := mark_pl h
theorem p_cmp4 (g : Cg Fs cA n X W) (op op' op'' : CmpOp) {a b c d : T} (pa : Pe Fs cA a n X W) (pb : Pe Fs cA b n X W) (pc : Pe Fs cA c n X W) (pd : Pe Fs cA d n X W) : Pe Fs cA (.cmp4 op op' op'' a b c d) n X W := by
  obtain ⟨rr, ho, hs⟩ := opk_cmp (X := X) (cA := cA) (op := op) g.hu2
  obtain ⟨rr', ho', hs'⟩ := opk_cmp (X := X) (cA := cA) (op := op') g.hu2
  obtain ⟨rr'', ho'', hs''⟩ := opk_cmp (X := X) (cA := cA) (op := op'') g.hu2
  have split : ∀ {ex}, chkE X.N Fs X.env.scope (.cmp4 op op' op'' a b c d) ex = true → ∃ l r r' r'' p, ex = .Compare l [op, op', op''] [r, r', r''] p ∧ chkE X.N Fs X.env.scope a l = true ∧ chkE X.N Fs X.env.scope b r = true ∧ chkE X.N Fs X.env.scope c r' = true ∧ chkE X.N Fs X.env.scope d r'' = true ∧ pl r'' = true := by
    intro ex h
    cases ex with
    | Compare l os rs p =>
      match os, rs, h with
      | [o, o', o''], [r, r', r''], h =>
        have h : (decide (op = o) && decide (op' = o') && decide (op'' = o'') && chkE X.N Fs X.env.scope a l && chkE X.N Fs X.env.scope b r && chkE X.N Fs X.env.scope c r' && chkE X.N Fs X.env.scope d r'' && pl r'') = true := h
        rw [Bool.and_eq_true, Bool.and_eq_true, Bool.and_eq_true, Bool.and_eq_true, Bool.and_eq_true, Bool.and_eq_true, Bool.and_eq_true, decide_eq_true_eq, decide_eq_true_eq, decide_eq_true_eq] at h
        obtain ⟨⟨⟨⟨⟨⟨⟨h1, h1'⟩, h1''⟩, h2⟩, h3⟩, h4⟩, h5⟩, h6⟩ := h
        subst h1 h1' h1''
        exact ⟨l, r, r', r'', p, rfl, h2, h3, h4, h5, h6⟩
    | _ => cases h
  have run : ∀ {σ : L2.St} {H : Hp} {Q : VK}, tE X.K cA (cf Fs n) W (.cmp4 op op' op'' a b c d) σ H Q → tChain3 rr rr' rr'' (tE X.K cA (cf Fs n) W a) (tE X.K cA (cf Fs n) W b) (tE X.K cA (cf Fs n) W c) (tE X.K cA (cf Fs n) W d) σ H Q := by
    intro σ H Q ⟨s, env, e, ok, re, q⟩
    subst e
    refine tE_then ok re q fun s1 x1 x o1 l1 re1 rx q1 => tE_then o1 re1 q1 fun s2 y1 y o2 l2 re2 ry q2 => ?_
    cases hc : cmpF op x1 y1 s2.st with
    | none => rw [hc] at q2; exact q2.elim
    | some k =>
      rw [hc] at q2
      refine hs s2 σ W x1 y1 x y _ o2 (rx.le o1 l2) ry ?_
      show Post X.K cA s2 σ W (optB (cmpF op x1 y1 s2.st) s2.st) _
      rw [hc]
      intro s3 e3 o3 l3 v hv
      cases rep_bl hv
      refine ⟨k, rfl, ?_⟩
      cases k with
      | true =>
        rw [if_pos rfl]
        have q3 : Post X.K cA s2 σ W ((ev (cf Fs n) c env s2.st).bind fun z st3 => match cmpF op' y1 z st3 with
          | some true => (ev (cf Fs n) d env st3).bind fun u st4 => optB (cmpF op'' z u st4) st4
          | some false => .ok (.bl false) st3
          | none => .err) (PQ X.K Q) := q2
        have q4 := q3.le l3
        rw [← e3] at q4
        refine tE_then o3 (re2.le o2 l3) q4 fun s4 z1 z o4 l4 re4 rz q5 => ?_
        cases hc' : cmpF op' y1 z1 s4.st with
        | none => rw [hc'] at q5; exact q5.elim
        | some k' =>
          rw [hc'] at q5
          refine hs' s4 σ W y1 z1 y z _ o4 ((ry.le o2 l3).le o3 l4) rz ?_
          show Post X.K cA s4 σ W (optB (cmpF op' y1 z1 s4.st) s4.st) _
          rw [hc']
          intro s5 e5 o5 l5 v' hv'
          cases rep_bl hv'
          refine ⟨k', rfl, ?_⟩
          cases k' with
          | true =>
            rw [if_pos rfl]
            have q6 : Post X.K cA s4 σ W ((ev (cf Fs n) d env s4.st).bind fun u st4 => optB (cmpF op'' z1 u st4) st4) (PQ X.K Q) := q5
            have q7 := q6.le l5
            rw [← e5] at q7
            exact tE_then o5 (re4.le o4 l5) q7 fun s6 u1 u o6 l6 re6 ru q8 => hs'' s6 σ W z1 u1 z u Q o6 ((rz.le o4 l5).le o5 l6) ru q8
          | false =>
            rw [if_neg Bool.false_ne_true]
            have q6 : Post X.K cA s4 σ W (.ok (.bl false) s4.st) (PQ X.K Q) := q5
            exact q6 s5 e5 o5 l5 _ (.bl _)
      | false =>
        rw [if_neg Bool.false_ne_true]
        have q3 : Post X.K cA s2 σ W (.ok (.bl false) s2.st) (PQ X.K Q) := q2
        exact q3 s3 e3 o3 l3 _ (.bl _)
  refine .of rfl (fun ex h => ?_) fun ex h _ => ?_
  · obtain ⟨l, r, r', r'', p, rfl, h2, h3, h4, h5, h6⟩ := split h
    exact PE.imp (pe_chain3 ho ho' ho'' (pa.e l h2) (pb.e r h3) (pc.e r' h4) (pd.e r'' h5) (lastM3_pl h6)) fun σ H Q q => run q
  · obtain ⟨l, r, r', r'', p, rfl, h2, h3, h4, h5, h6⟩ := split h
    refine PT.imp (pt_chain3 ho ho' ho'' (pa.e l h2) (pb.e r h3) (pc.e r' h4) (pd.e r'' h5) (lastM3_pl h6)) fun σ H Q q => ?_
    obtain ⟨s, env, e, ok, re, q⟩ := q
    refine run ⟨s, env, e, ok, re, q.mono fun d s3 o3 l3 ⟨b, eb, qb⟩ v hv => ?_⟩
    subst eb
    cases rep_bl hv
    exact ⟨b, rfl, qb⟩
theorem p_nt {a : T} (pa : Pe Fs cA a n X W) : Pe Fs cA (.nt a) n X W := by
  have split : ∀ {ex}, chkE X.N Fs X.env.scope (.nt a) ex = true → ∃ x p, ex = .UnaryOp .Not x p ∧ chkE X.N Fs X.env.scope a x = true := by
    intro ex h
    cases ex with
    | UnaryOp o x p => cases o with
      | Not => exact ⟨x, p, rfl, h⟩
      | _ => cases h
    | _ => cases h
  refine .of rfl (fun ex h => ?_) fun ex h z => ?_
  · obtain ⟨x, p, rfl, h⟩ := split h
    refine PE.imp (pe_not (pa.e x h)) fun σ H Q ⟨s, env, e, ok, re, q⟩ => ?_
    subst e
    refine tE_then ok re q fun s1 d x o1 l1 re1 rx q1 => ?_
    cases d with
    | bl b =>
      cases rep_bl rx
      exact ⟨b, rfl, post_val o1 q1 (.bl _)⟩
    | _ => exact q1.elim
  · obtain ⟨x, p, rfl, h⟩ := split h
    refine PT.imp (pt_not (pa.t x h z)) fun σ H Q ⟨s, env, e, ok, re, q⟩ => ?_
    subst e
    refine tT_then ok re q fun s1 b o1 l1 re1 q1 => ?_
    obtain ⟨c, ec, qc⟩ := post_ok o1 q1
    cases ec
    exact qc
theorem p_ite {c a b : T} (pc : Pe Fs cA c n X W) (pa : Pe Fs cA a n X W) (pb : Pe Fs cA b n X W) : Pe Fs cA (.ite c a b) n X W := by
  refine .of rfl (fun ex h => ?_) fun ex h z => by cases z
  cases ex with
  | IfExp t l r p =>
    have h : (chkE X.N Fs X.env.scope c t && tst c && chkE X.N Fs X.env.scope a l && chkE X.N Fs X.env.scope b r) = true := h
    rw [Bool.and_eq_true, Bool.and_eq_true, Bool.and_eq_true] at h
    obtain ⟨⟨⟨h1, h2⟩, h3⟩, h4⟩ := h
    refine PE.imp (pe_ifExp (pc.t t h1 h2) (pa.e l h3) (pb.e r h4)) fun σ H Q ⟨s, env, e, ok, re, q⟩ => ?_
    subst e
    refine tT_then ok re q fun s1 k o1 l1 re1 q1 => ?_
    cases k with
    | true =>
      rw [if_pos rfl] at q1 ⊢
      exact ⟨s1, env, rfl, o1, re1, q1⟩
    | false =>
      rw [if_neg Bool.false_ne_true] at q1 ⊢
      exact ⟨s1, env, rfl, o1, re1, q1⟩
  | _ => cases h
theorem p_bop (o : BoolOp) {es : T} (pe : Pe Fs cA es n X W) : Pe Fs cA (.bop o es) n X W := by
  have split : ∀ {ex}, chkE X.N Fs X.env.scope (.bop o es) ex = true → ∃ v vs p, ex = .BoolOp o (v :: vs) p ∧ chkEs X.N Fs X.env.scope es (v :: vs) = true := by
    intro ex h
    cases ex with
    | BoolOp o' vs p =>
      have h : (decide (o = o') && chkEs X.N Fs X.env.scope es vs && !vs.isEmpty) = true := h
      rw [Bool.and_eq_true, Bool.and_eq_true, decide_eq_true_eq] at h
      obtain ⟨⟨h1, h2⟩, h3⟩ := h
      subst h1
      cases vs with
      | nil => cases h3
      | cons v vs => exact ⟨v, vs, p, rfl, h2⟩
    | _ => cases h
  refine .of rfl (fun ex h => ?_) fun ex h z => ?_
  · obtain ⟨v, vs, p, rfl, h5⟩ := split h
    exact PE.imp (pe.b o p v vs h5) fun σ H Q q => q
  · obtain ⟨v, vs, p, rfl, h5⟩ := split h
    exact PT.imp (pe.w o p v vs h5 z).pt fun σ H Q q => q

/-! ### several -/
theorem Pe.ofL {t : T} (z : ∀ ex, chkE X.N Fs X.env.scope t ex = true → False) (ha : ∀ vs, chkEs X.N Fs X.env.scope t vs = true → PA X vs (tA X.K cA (cf Fs n) W t) ∧ ∀ v ∈ vs, pl v = true)
    (hb : ∀ o pos v vs, chkEs X.N Fs X.env.scope t (v :: vs) = true → PE X (.BoolOp o (v :: vs) pos) (tB' X.K cA (cf Fs n) W o t))
    (hw : ∀ o pos v vs, chkEs X.N Fs X.env.scope t (v :: vs) = true → tst t = true → PW X (.BoolOp o (v :: vs) pos) (tBT X.K cA (cf Fs n) W o t))
    (ho : ∀ v, chkO X.N Fs X.env.scope t v = true → False) (hc : ∀ v, chkC X.N Fs X.env.scope t v = true → False) (hi : ∀ v, chkW X.N Fs X.env.scope t v = true → False) : Pe Fs cA t n X W :=
  ⟨fun _ h => (z _ h).elim, fun _ h _ => (z _ h).elim, ha, hb, hw, fun _ h => (ho _ h).elim, fun _ h => (hc _ h).elim, fun _ _ h _ => (hi _ h).elim⟩
theorem p_nil : Pe Fs cA .nil n X W := .ofL (fun ex h => by cases ex <;> cases h) (fun vs h => by
    cases vs with
    | nil => exact ⟨PA.imp pa_nil fun σ H Q ⟨s, env, e, ok, re, q⟩ => by subst e; exact post_ok ok q _ .nil, fun v hv => by cases hv⟩
    | cons v vs => cases h) (fun o pos v vs h => by cases h) (fun o pos v vs h => by cases h) (fun v h => by cases v <;> cases h) (fun v h => by cases v <;> cases h) fun v h => by cases v <;> cases h
theorem evB_more {F : CallF} {o : BoolOp} {e e2 es : T} {env : Env} {st : Store} : evB F o (.cons e (.cons e2 es)) env st = (ev F e env st).bind fun x st1 => tstB x st1 fun b st2 => match o, b with
    | .And, true => evB F o (.cons e2 es) env st2
    | .And, false => .ok (.bl false) st2
    | .Or, true => .ok (.bl true) st2
    | .Or, false => evB F o (.cons e2 es) env st2 := rfl
theorem p_cons {t ts : T} (pe : Pe Fs cA t n X W) (ps : Pe Fs cA ts n X W) : Pe Fs cA (.cons t ts) n X W := by
  refine .ofL (fun ex h => by cases ex <;> cases h) (fun vs h => ?_) (fun o pos v vs h => ?_) (fun o pos v vs h z => ?_) (fun v h => by cases v <;> cases h) (fun v h => by cases v <;> cases h) fun v h => by cases v <;> cases h
  · cases vs with
    | nil => cases h
    | cons v vs =>
      have h : (pl v && chkE X.N Fs X.env.scope t v && chkEs X.N Fs X.env.scope ts vs) = true := h
      rw [Bool.and_eq_true, Bool.and_eq_true] at h
      obtain ⟨⟨h1, h2⟩, h3⟩ := h
      obtain ⟨q1, q2⟩ := ps.a vs h3
      refine ⟨PA.imp (pa_cons (pe.e v h2) q1 (star_pl h1)) fun σ H Q ⟨s, env, e, ok, re, q⟩ => ?_, fun u hu => (List.mem_cons.mp hu).elim (fun z => by rw [z]; exact h1) (q2 u)⟩
      subst e
      exact tE_then ok re q fun s1 d x o1 l1 re1 rx q1 => tA_then o1 re1 q1 fun s2 ds xs o2 l2 re2 rxs q2 => post_ok o2 q2 _ (.cons (rx.le o1 l2) rxs)
  · have h0 := h
    have h : (pl v && chkE X.N Fs X.env.scope t v && chkEs X.N Fs X.env.scope ts vs) = true := h
    rw [Bool.and_eq_true, Bool.and_eq_true] at h
    obtain ⟨⟨h1, h2⟩, h3⟩ := h
    cases vs with
    | nil =>
      cases ts with
      | nil => exact PE.imp (pe_one (pe.e v h2)) fun σ H Q q => q
      | _ => cases h3
    | cons v2 vs =>
      cases ts with
      | cons e2 es =>
        cases o with
        | And =>
          refine PE.imp (pe_and (pe.e v h2) (ps.b .And pos v2 vs h3)) fun σ H Q ⟨s, env, e, ok, re, q⟩ => ?_
          subst e
          rw [evB_more] at q
          refine tE_then ok re q fun s1 d x o1 l1 re1 rx q1 => ?_
          cases d with
          | bl b =>
            cases rep_bl rx
            refine ⟨b, rfl, ?_⟩
            cases b with
            | true => rw [if_pos rfl]; exact ⟨s1, env, rfl, o1, re1, q1⟩
            | false => rw [if_neg Bool.false_ne_true]; exact post_val o1 q1 (.bl _)
          | _ => exact q1.elim
        | Or =>
          refine PE.imp (pe_or (pe.e v h2) (ps.b .Or pos v2 vs h3)) fun σ H Q ⟨s, env, e, ok, re, q⟩ => ?_
          subst e
          rw [evB_more] at q
          refine tE_then ok re q fun s1 d x o1 l1 re1 rx q1 => ?_
          cases d with
          | bl b =>
            cases rep_bl rx
            refine ⟨b, rfl, ?_⟩
            cases b with
            | true => rw [if_pos rfl]; exact post_val o1 q1 (.bl _)
            | false => rw [if_neg Bool.false_ne_true]; exact ⟨s1, env, rfl, o1, re1, q1⟩
          | _ => exact q1.elim
      | _ => cases h3
  · have h : (pl v && chkE X.N Fs X.env.scope t v && chkEs X.N Fs X.env.scope ts vs) = true := h
    rw [Bool.and_eq_true, Bool.and_eq_true] at h
    obtain ⟨⟨h1, h2⟩, h3⟩ := h
    have z : (tst t && tst ts) = true := z
    rw [Bool.and_eq_true] at z
    cases vs with
    | nil =>
      cases ts with
      | nil =>
        cases o with
        | And => exact PW.imp (pw_and1 (pe.t v h2 z.1)) fun σ H Q q => q
        | Or => exact PW.imp (pw_or1 (pe.t v h2 z.1)) fun σ H Q q => q
      | _ => cases h3
    | cons v2 vs =>
      cases ts with
      | cons e2 es =>
        cases o with
        | And =>
          refine PW.imp (pw_and (pe.t v h2 z.1) (ps.w .And pos v2 vs h3 z.2)) fun σ H Q ⟨s, env, e, ok, re, q⟩ => ?_
          subst e
          rw [evB_more] at q
          refine tT_then ok re q fun s1 b o1 l1 re1 q1 => ?_
          cases b with
          | true => rw [if_pos rfl]; exact ⟨s1, env, rfl, o1, re1, q1⟩
          | false =>
            rw [if_neg Bool.false_ne_true]
            obtain ⟨c, ec, qc⟩ := post_ok o1 q1
            cases ec
            exact qc
        | Or =>
          refine PW.imp (pw_or (pe.t v h2 z.1) (ps.w .Or pos v2 vs h3 z.2)) fun σ H Q ⟨s, env, e, ok, re, q⟩ => ?_
          subst e
          rw [evB_more] at q
          refine tT_then ok re q fun s1 b o1 l1 re1 q1 => ?_
          cases b with
          | true =>
            rw [if_pos rfl]
            obtain ⟨c, ec, qc⟩ := post_ok o1 q1
            cases ec
            exact qc
          | false => rw [if_neg Bool.false_ne_true]; exact ⟨s1, env, rfl, o1, re1, q1⟩
      | _ => cases h3
theorem Pe.ofO {t : T} (z : ∀ ex, chkE X.N Fs X.env.scope t ex = true → False) (ha : ∀ vs, chkEs X.N Fs X.env.scope t vs = true → False)
    (ho : ∀ v, chkO X.N Fs X.env.scope t v = true → PO X v (tO X.K cA (cf Fs n) W t)) (hc : ∀ vs, chkC X.N Fs X.env.scope t vs = true → PTs X vs (tC' X.K cA (cf Fs n) W t)) (hi : ∀ v, chkW X.N Fs X.env.scope t v = true → False) : Pe Fs cA t n X W :=
  ⟨fun _ h => (z _ h).elim, fun _ h _ => (z _ h).elim, fun _ h => (ha _ h).elim, fun _ _ _ _ h => (ha _ h).elim, fun _ _ _ _ h => (ha _ h).elim, ho, hc, fun _ _ h _ => (hi _ h).elim⟩
theorem PTs.imp {X : Cx} {e : List Expr} {t t' : TT} (h : PTs X e t) (i : ∀ σ H Q, t' σ H Q → t σ H Q) : PTs X e t' := ⟨fun pins s σ H Q I hw => h.run pins s σ H Q I (i σ H Q hw)⟩
theorem p_no : Pe Fs cA .no n X W := .ofO (fun ex h => by cases ex <;> cases h) (fun vs h => by cases vs <;> cases h) (fun v h => by
    cases v with
    | none => exact PO.imp po_none fun σ H Q ⟨s, env, e, ok, re, q⟩ => by subst e; exact post_ok ok q
    | some v => cases h) (fun vs h => by
    cases vs with
    | nil => exact PTs.imp pts_nil fun σ H Q ⟨s, env, e, ok, re, q⟩ => by subst e; exact post_ok ok q
    | cons v vs => cases h) fun v h => by cases v <;> cases h
theorem p_so {t : T} (pe : Pe Fs cA t n X W) : Pe Fs cA (.so t) n X W := by
  refine .ofO (fun ex h => by cases ex <;> cases h) (fun vs h => by cases vs <;> cases h) (fun v h => ?_) (fun vs h => ?_) fun v h => by cases v <;> cases h
  · cases v with
    | none => cases h
    | some v =>
      refine PO.imp (po_some (pe.e v h)) fun σ H Q ⟨s, env, e, ok, re, q⟩ => ?_
      subst e
      refine tE_then ok re q fun s1 d x o1 l1 re1 rx q1 => ?_
      cases d with
      | int i =>
        cases rep_int rx
        exact ⟨i, rfl, post_ok o1 q1⟩
      | _ => exact q1.elim
  · match vs, h with
    | [v], h =>
      have h : (chkE X.N Fs X.env.scope t v && tst t) = true := h
      rw [Bool.and_eq_true] at h
      refine PTs.imp (pts_one (pe.t v h.1 h.2)) fun σ H Q ⟨s, env, e, ok, re, q⟩ => ?_
      subst e
      exact tT_then ok re q fun s1 b o1 l1 re1 q1 => post_ok o1 q1

/-! ### what is walked -/
theorem Pe.ofI {t : T} (z : ∀ ex, chkE X.N Fs X.env.scope t ex = true → False) (ha : ∀ vs, chkEs X.N Fs X.env.scope t vs = true → False)
    (ho : ∀ v, chkO X.N Fs X.env.scope t v = true → False) (hc : ∀ v, chkC X.N Fs X.env.scope t v = true → False) (hi : ∀ tg iter, chkW X.N Fs X.env.scope t iter = true → tgOk t tg = true → PI X tg iter (tI X.K cA (cf Fs n) W t) ∧ pl iter = true) : Pe Fs cA t n X W :=
  ⟨fun _ h => (z _ h).elim, fun _ h _ => (z _ h).elim, fun _ h => (ha _ h).elim, fun _ _ _ _ h => (ha _ h).elim, fun _ _ _ _ h => (ha _ h).elim, fun _ h => (ho _ h).elim, fun _ h => (hc _ h).elim, hi⟩
theorem p_sit {t : T} (pe : Pe Fs cA t n X W) : Pe Fs cA (.sit t) n X W := by
  refine .ofI (fun ex h => by cases ex <;> cases h) (fun vs h => by cases vs <;> cases h) (fun v h => by cases v <;> cases h) (fun v h => by cases v <;> cases h) fun tg iter h ht => ?_
  have h : (chkE X.N Fs X.env.scope t iter && pl iter) = true := h
  rw [Bool.and_eq_true] at h
  refine ⟨PI.imp (pi_seq (pe.e iter h.1)) fun σ H Q ⟨s, env, e, ok, re, q⟩ => ?_, h.2⟩
  subst e
  exact tE_then ok re q fun s1 d x o1 l1 re1 rx q1 => wk_of o1 rx q1
theorem p_srng (g : Cg Fs cA n X W) (k : Nat) {t : T} (pe : Pe Fs cA t n X W) : Pe Fs cA (.srng k t) n X W := by
  refine .ofI (fun ex h => by cases ex <;> cases h) (fun vs h => by cases vs <;> cases h) (fun v h => by cases v <;> cases h) (fun v h => by cases v <;> cases h) fun tg iter h ht => ?_
  cases iter with
  | Call f vs ks p =>
    cases f with
    | Name x p2 =>
      cases ks with
      | nil =>
        have h : (decide (x = ("range" : Str)) && glB X.env.scope x && chkEs X.N Fs X.env.scope t vs && decide (vs.length = k) && decide (k = 1 ∨ k = 2 ∨ k = 3)) = true := h
        rw [Bool.and_eq_true, Bool.and_eq_true, Bool.and_eq_true, Bool.and_eq_true, decide_eq_true_eq, decide_eq_true_eq, decide_eq_true_eq] at h
        obtain ⟨⟨⟨⟨h1, h2⟩, h3⟩, h4⟩, h5⟩ := h
        subst h1
        obtain ⟨pa, hp⟩ := pe.a vs h3
        have gl : Gl X "range" := glB_ok h2
        have mn : X.mg "range" = none := bl_of g (by decide +kernel)
        refine ⟨?_, rfl⟩
        match vs, h4, pa, hp with
        | [], h4, _, _ =>
          subst h4
          rcases h5 with h5 | h5 | h5 <;> cases h5
        | [a], h4, pa, hp =>
          subst h4
          refine PI.imp (pi_range1 gl mn pa (star_pl (hp a (by simp)))) fun σ H Q ⟨s, env, e, ok, re, q⟩ => ?_
          subst e
          refine tA_then ok re q fun s1 ds xs o1 l1 re1 rxs q0 => ?_
          have q1 : Post X.K cA s1 σ W (rng1F ds s1.st) fun w s1 => ∀ J, WkOk X.K J s1 w → Q J s1.H := q0
          clear q0
          unfold rng1F at q1
          split at q1
          · obtain ⟨v, rfl, rx⟩ := one_of rxs
            cases rep_int rx
            split at q1
            · rename_i hz
              unfold rngOk at hz
              rw [Bool.and_eq_true, decide_eq_true_eq, decide_eq_true_eq] at hz
              exact ⟨_, rfl, hz.1, hz.2, post_ok o1 q1 _ (wk_rng 0 _)⟩
            · exact q1.elim
          · exact q1.elim
        | [a, b], h4, pa, hp =>
          subst h4
          refine PI.imp (pi_range2 gl mn pa ((star_pl (hp a (by simp))).trans (by rw [star_pl (hp b (by simp))]; rfl)) (star_pl (hp b (by simp)))) fun σ H Q ⟨s, env, e, ok, re, q⟩ => ?_
          subst e
          refine tA_then ok re q fun s1 ds xs o1 l1 re1 rxs q0 => ?_
          have q1 : Post X.K cA s1 σ W (rng2F ds s1.st) fun w s1 => ∀ J, WkOk X.K J s1 w → Q J s1.H := q0
          clear q0
          unfold rng2F at q1
          split at q1
          · cases rxs with
            | cons r1 r2 =>
              obtain ⟨v, rfl, rx⟩ := one_of r2
              cases rep_int rx
              cases rep_int r1
              split at q1
              · rename_i hz
                unfold rngOk at hz
                rw [Bool.and_eq_true, Bool.and_eq_true, Bool.and_eq_true, decide_eq_true_eq, decide_eq_true_eq, decide_eq_true_eq, decide_eq_true_eq] at hz
                exact ⟨_, _, rfl, ⟨hz.1.1, hz.1.2, hz.2.1, hz.2.2⟩, post_ok o1 q1 _ (wk_rng _ _)⟩
              · exact q1.elim
          · exact q1.elim
        | [a, b, c], h4, pa, hp =>
          subst h4
          refine PI.imp (pi_range3 gl mn pa (star_pl (hp a (by simp))) (backTo_any fun e he => hp e (List.mem_cons_of_mem _ he))) fun σ H Q ⟨s, env, e, ok, re, q⟩ => ?_
          subst e
          refine tA_then ok re q fun s1 ds xs o1 l1 re1 rxs q0 => ?_
          have q1 : Post X.K cA s1 σ W (rng3F ds s1.st) fun w s1 => ∀ J, WkOk X.K J s1 w → Q J s1.H := q0
          clear q0
          unfold rng3F at q1
          split at q1
          · cases rxs with
            | cons r1 r2 => cases r2 with
              | cons r2 r3 =>
                obtain ⟨v, rfl, rx⟩ := one_of r3
                cases rep_int rx
                cases rep_int r1
                cases rep_int r2
                split at q1
                · rename_i hz
                  unfold rngOk at hz
                  rw [Bool.and_eq_true, Bool.and_eq_true, Bool.and_eq_true, Bool.and_eq_true, decide_eq_true_eq, decide_eq_true_eq, decide_eq_true_eq, decide_eq_true_eq, decide_eq_true_eq] at hz
                  obtain ⟨⟨⟨z1, z2⟩, z3, z4⟩, z5⟩ := hz
                  subst z5
                  exact ⟨_, _, _, _, rfl, RgC.neg z1 z2 z3 z4, post_ok o1 q1 _ (wk_rngC _ _)⟩
                · split at q1
                  · rename_i hz
                    unfold stepOk at hz
                    simp only [Bool.and_eq_true, decide_eq_true_eq] at hz
                    obtain ⟨⟨⟨z1, z2⟩, z3⟩, z4⟩ := hz
                    exact ⟨_, _, _, _, rfl, ⟨z1, z2, z3, (Int.toNat_of_nonneg z4).symm⟩, post_ok o1 q1 _ (wk_rngS _ _ _)⟩
                  · exact q1.elim
          · exact q1.elim
        | a :: b :: c :: d :: r, h4, _, _ =>
          rw [List.length_cons, List.length_cons, List.length_cons, List.length_cons] at h4
          omega
      | cons _ _ => cases h
    | _ => cases h
  | _ => cases h
theorem enumD_get {xs : List D} {i : Nat} {d : D} (h : (enumD xs)[i]? = some d) : ∃ y, xs[i]? = some y ∧ d = .tup [.int (i : Nat), y] := by
  unfold enumD at h
  rw [List.getElem?_zipWith] at h
  by_cases hi : i < xs.length
  · rw [List.getElem?_range hi, List.getElem?_eq_getElem hi] at h
    exact ⟨xs[i], List.getElem?_eq_getElem hi, (Option.some.inj h).symm⟩
  · rw [List.getElem?_eq_none (by simpa using hi)] at h
    cases h
theorem enumD_len (xs : List D) : (enumD xs).length = xs.length := by simp [enumD]
theorem wk_enumT {K : PySem.W.Frag} {s : Sit} (ok : s.Ok K) {a : Addr} {vs : List V} {xs : List D} (h : SqT K s.H a vs) (r : RDs K s.H s.M xs vs) : WkOk K (Itet K a vs.length) s (.fix (enumD xs)) := by
  refine ⟨fun i s1 l1 o1 hi => ?_, fun i s1 l1 o1 hi => ?_, fun i s1 x H' d l1 o1 hd y => ?_⟩
  · rw [enumD_len] at hi
    obtain ⟨v, hv, _⟩ := r.get (List.getElem?_eq_getElem hi)
    exact ⟨vs, v, l1.sqT ok h, rfl, hv⟩
  · rw [enumD_len, r.length] at hi
    exact ⟨vs, l1.sqT ok h, rfl, hi⟩
  · obtain ⟨e, he, rfl⟩ := enumD_get hd
    obtain ⟨T, z, rfl, hT, rfl, hz⟩ := y
    obtain ⟨v, hv, rv⟩ := r.get he
    obtain rfl : z = v := Option.some.inj ((hz vs (l1.sqT ok h)).symm.trans hv)
    refine ⟨s1.put T (.tup [.int (i : Nat), z]), rfl, rfl, Sit.put_ok o1 hT, Sit.put_le hT, .dat (.tup upd_same (.cons (.int _) (.cons ((rv.le ok l1).le o1 (Sit.put_le hT)) .nil)))⟩
theorem wk_enumL {K : PySem.W.Frag} {s : Sit} (ok : s.Ok K) {a : Addr} {vs : List V} {xs : List D} (h : ∀ s1, s.Le s1 → SqL K s1.H a vs) (r : RDs K s.H s.M xs vs) : WkOk K (Ite K a) s (.fix (enumD xs)) := by
  refine ⟨fun i s1 l1 o1 hi => ?_, fun i s1 l1 o1 hi => ?_, fun i s1 x H' d l1 o1 hd y => ?_⟩
  · rw [enumD_len] at hi
    obtain ⟨v, hv, _⟩ := r.get (List.getElem?_eq_getElem hi)
    exact ⟨vs, v, h s1 l1, hv⟩
  · rw [enumD_len, r.length] at hi
    exact ⟨vs, h s1 l1, hi⟩
  · obtain ⟨e, he, rfl⟩ := enumD_get hd
    obtain ⟨T, z, rfl, hT, rfl, hz⟩ := y
    obtain ⟨v, hv, rv⟩ := r.get he
    obtain rfl : z = v := Option.some.inj ((hz vs (h s1 l1)).symm.trans hv)
    refine ⟨s1.put T (.tup [.int (i : Nat), z]), rfl, rfl, Sit.put_ok o1 hT, Sit.put_le hT, .dat (.tup upd_same (.cons (.int _) (.cons ((rv.le ok l1).le o1 (Sit.put_le hT)) .nil)))⟩
theorem p_senum (g : Cg Fs cA n X W) {t : T} (pe : Pe Fs cA t n X W) : Pe Fs cA (.senum t) n X W := by
  refine .ofI (fun ex h => by cases ex <;> cases h) (fun vs h => by cases vs <;> cases h) (fun v h => by cases v <;> cases h) (fun v h => by cases v <;> cases h) fun tg iter h ht => ?_
  cases tg with
  | Tuple elts kk tpos =>
    cases iter with
    | Call f vs ks p =>
      cases f with
      | Name x p2 =>
        match vs, ks, h with
        | [v], [], h =>
          have h : (decide (x = ("enumerate" : Str)) && glB X.env.scope x && chkE X.N Fs X.env.scope t v && pl v) = true := h
          rw [Bool.and_eq_true, Bool.and_eq_true, Bool.and_eq_true, decide_eq_true_eq] at h
          obtain ⟨⟨⟨h1, h2⟩, h3⟩, h4⟩ := h
          subst h1
          have gl : Gl X "enumerate" := glB_ok h2
          have mn : X.mg "enumerate" = none := bl_of g (by decide +kernel)
          refine ⟨PI.imp (pi_enumA gl mn (pa_cons (pe.e v h3) pa_nil (star_pl h4)) (star_pl h4)) fun σ H Q ⟨s, env, e, ok, re, q⟩ => ?_, rfl⟩
          subst e
          refine tE_then ok re q fun s1 d x o1 l1 re1 rx q1 => ?_
          cases d with
          | lst xs =>
            cases rx with
            | dat rx => cases rx with
              | lst ha nm ra => exact ⟨_, rfl, .inl ⟨_, SqL.of ha, post_ok o1 q1 _ (wk_enumL o1 (fun s2 l2 => SqL.of (l2.keep _ _ ha nm).1) ra)⟩⟩
          | tup xs =>
            obtain ⟨a, us, rfl, ha, ra⟩ := rep_tup rx
            exact ⟨_, rfl, .inr ⟨_, ha, post_ok o1 q1 _ (wk_enumT o1 ha ra)⟩⟩
          | _ => exact q1.elim
      | _ => cases h
    | _ => cases h
  | _ => cases ht
theorem p_srev (g : Cg Fs cA n X W) {t : T} (pe : Pe Fs cA t n X W) : Pe Fs cA (.srev t) n X W := by
  refine .ofI (fun ex h => by cases ex <;> cases h) (fun vs h => by cases vs <;> cases h) (fun v h => by cases v <;> cases h) (fun v h => by cases v <;> cases h) fun tg iter h ht => ?_
  cases iter with
  | Call f vs ks p =>
    cases f with
    | Name x p2 =>
      match vs, ks, h with
      | [v], [], h =>
        have h : (decide (x = ("reversed" : Str)) && glB X.env.scope x && chkE X.N Fs X.env.scope t v && pl v) = true := h
        rw [Bool.and_eq_true, Bool.and_eq_true, Bool.and_eq_true, decide_eq_true_eq] at h
        obtain ⟨⟨⟨h1, h2⟩, h3⟩, h4⟩ := h
        subst h1
        have gl : Gl X "reversed" := glB_ok h2
        have mn : X.mg "reversed" = none := bl_of g (by decide +kernel)
        refine ⟨PI.imp (pi_reversed gl mn (pa_cons (pe.e v h3) pa_nil (star_pl h4)) (star_pl h4)) fun σ H Q ⟨s, env, e, ok, re, q⟩ => ?_, rfl⟩
        subst e
        refine tE_then ok re q fun s1 d x o1 l1 re1 rx q1 => ?_
        cases d with
        | lst xs =>
          cases rx with
          | dat rx => cases rx with
            | lst ha nm ra => exact ⟨_, _, rfl, SqL.of ha, post_ok o1 q1 _ (wk_rev o1 (fun s2 l2 => SqL.of (l2.keep _ _ ha nm).1) ra)⟩
        | _ => exact q1.elim
    | _ => cases h
  | _ => cases h
theorem lst_len {K : PySem.W.Frag} {H : Hp} {M : Addr → Prop} {xs : List D} {vs : List V} (r : RDs K H M xs vs) {i : Nat} (h : i < xs.length) : ∃ v, vs[i]? = some v ∧ RD K H M xs[i] v := r.get (List.getElem?_eq_getElem h)
theorem wk_zip {K : PySem.W.Frag} {s : Sit} (ok : s.Ok K) {a b : Addr} {vs : List V} {xs : List D} {l : Nat} (h : ∀ s1, s.Le s1 → SqL K s1.H a vs) (r : RDs K s.H s.M xs vs) (hb : s.r[l]? = some b) : WkOk' K (Itz K a b) s xs l := by
  intro i s1 ys l1 o1 hy he
  obtain ⟨c, ws, ec, hc, rc⟩ := lstOf_ok o1 (.ref (l1.pre _ _ hb)) hy
  cases ec
  have r1 := r.le ok l1
  refine ⟨fun hi => ?_, fun hi => ?_, fun x H' d e hd hde y => ?_⟩
  · obtain ⟨v, hv, _⟩ := lst_len r1 hi
    obtain ⟨w, hw, _⟩ := lst_len rc (show i < ys.length by omega)
    exact ⟨vs, ws, v, w, h s1 l1, SqL.of hc, hv, hw⟩
  · exact ⟨vs, ws, h s1 l1, SqL.of hc, .inl (by rw [← r.length]; exact hi)⟩
  · obtain ⟨T, u, w, rfl, hT, rfl, hx, hw⟩ := y
    obtain ⟨v, hv, rv⟩ := r1.get hd
    obtain ⟨w', hw', rw'⟩ := rc.get hde
    obtain rfl : u = v := Option.some.inj ((hx vs (h s1 l1)).symm.trans hv)
    obtain rfl : w = w' := Option.some.inj ((hw ws (SqL.of hc)).symm.trans hw')
    have lt := Sit.put_le (s := s1) (p := T) (o := .tup [u, w]) hT
    exact ⟨s1.put T (.tup [u, w]), rfl, rfl, Sit.put_ok o1 hT, lt, .dat (.tup upd_same (.cons (rv.le o1 lt) (.cons (rw'.le o1 lt) .nil)))⟩
theorem p_szip (g : Cg Fs cA n X W) {a b : T} (pa : Pe Fs cA a n X W) (pb : Pe Fs cA b n X W) : Pe Fs cA (.szip a b) n X W := by
  refine .ofI (fun ex h => by cases ex <;> cases h) (fun vs h => by cases vs <;> cases h) (fun v h => by cases v <;> cases h) (fun v h => by cases v <;> cases h) fun tg iter h ht => ?_
  cases tg with
  | Tuple elts kk tpos =>
    cases iter with
    | Call f vs ks p =>
      cases f with
      | Name x p2 =>
        match vs, ks, h with
        | [v, w], [], h =>
          have h : (decide (x = ("zip" : Str)) && glB X.env.scope x && chkE X.N Fs X.env.scope a v && pl v && chkE X.N Fs X.env.scope b w && pl w) = true := h
          rw [Bool.and_eq_true, Bool.and_eq_true, Bool.and_eq_true, Bool.and_eq_true, Bool.and_eq_true, decide_eq_true_eq] at h
          obtain ⟨⟨⟨⟨⟨h1, h2⟩, h3⟩, h4⟩, h5⟩, h6⟩ := h
          subst h1
          have gl : Gl X "zip" := glB_ok h2
          have mn : X.mg "zip" = none := bl_of g (by decide +kernel)
          refine ⟨PI.imp (pi_zip gl mn (pa_cons (pa.e v h3) (pa_cons (pb.e w h5) pa_nil (star_pl h6)) (star_pl h4)) (star_pl h4) (backTo_any fun e he => by
            have : e = w := by simpa using he
            rw [this]; exact h6)) fun σ H Q ⟨s, env, e, ok, re, q⟩ => ?_, rfl⟩
          subst e
          refine tE_then ok re q fun s1 d x o1 l1 re1 rx q1 => tE_then o1 re1 q1 fun s2 e y o2 l2 re2 ry q2 => ?_
          unfold zipF at q2
          split at q2
          · rename_i xs l
            split at q2
            · rename_i ys hy
              split at q2
              · cases rx with
                | dat rx => cases rx with
                  | lst ha nm ra => cases ry with
                    | ref hb =>
                      obtain ⟨b', ws, eb, hb', rb⟩ := lstOf_ok o2 (.ref hb) hy
                      cases eb
                      have k := l2.keep _ _ ha nm
                      exact ⟨_, _, _, _, rfl, SqL.of k.1, SqL.of hb', post_ok o2 q2 _ (wk_zip o2 (fun s3 l3 => SqL.of (l3.keep _ _ k.1 k.2).1) (ra.le o1 l2) hb)⟩
                    | dat ry => cases ry
              · exact q2.elim
            · exact q2.elim
          · exact q2.elim
      | _ => cases h
    | _ => cases h
  | _ => cases ht
end
end Zn

/-! Zn, part 8: displays, calls, comprehensions; every expression. -/
namespace Zn
open PySem PySem.Spec PyProof.Rows L2
section
variable {Fs : List Fn} {cA : Nat → Option Addr} {n : Nat} {X : Cx} {W : WX}

theorem p_tup {t : T} (pe : Pe Fs cA t n X W) : Pe Fs cA (.tup t) n X W := .ofV rfl fun ex h => by
  cases ex with
  | Tuple vs k p =>
    have h : chkEs X.N Fs X.env.scope t vs = true := h
    refine ⟨PE.imp (pe_tup (pe.a vs h).1) fun σ H Q ⟨s, env, e, ok, re, q⟩ => ?_, rfl⟩
    subst e
    refine tA_then ok re q fun s1 ds xs o1 l1 re1 rxs q1 => ?_
    unfold tupF at q1
    split at q1
    · rename_i hz
      have rd := rxs.rds hz.1
      exact ⟨by rw [← rd.length]; exact hz.2, post_tup o1 rd q1⟩
    · exact q1.elim
  | _ => cases h
theorem p_lst (m : Bool) {t : T} (pe : Pe Fs cA t n X W) : Pe Fs cA (.lst m t) n X W := .ofV rfl fun ex h => by
  cases ex with
  | List vs p =>
    have h : chkEs X.N Fs X.env.scope t vs = true := h
    refine ⟨PE.imp (pe_lst (pe.a vs h).1) fun σ H Q ⟨s, env, e, ok, re, q⟩ => ?_, rfl⟩
    subst e
    refine tA_then ok re q fun s1 ds xs o1 l1 re1 rxs q1 => ?_
    unfold lstF at q1
    split at q1
    · rename_i hz
      have rd := rxs.rds hz.1
      exact ⟨by rw [← rd.length]; exact hz.2, post_mk o1 rd q1⟩
    · exact q1.elim
  | _ => cases h
theorem dct_le {K : PySem.W.Frag} {s : Sit} (ok : s.Ok K) {p : Addr} {k1 k2 : List (Key × V)} (h : s.H p = some (.dK k1)) :
    (∀ {d : D} {v : V}, RD K s.H s.M d v → RD K (upd s.H p (.dK k2)) s.M d v) ∧ (∀ {d : List D} {v : List V}, RDs K s.H s.M d v → RDs K (upd s.H p (.dK k2)) s.M d v) := by
  constructor
  · intro d v r
    induction r using RD.rec (motive_2 := fun ds vs _ => RDs K (upd s.H p (.dK k2)) s.M ds vs) with
    | non => exact .non
    | bl b => exact .bl b
    | int i => exact .int i
    | str x => exact .str x
    | tup q _ ih => exact .tup (by rw [upd_ne (fun z => by rw [z, h] at q; cases q)]; exact q) ih
    | lst q n _ ih => exact .lst (by rw [upd_ne (fun z => by rw [z, h] at q; cases q)]; exact q) n ih
    | scr q =>
      rcases q with ⟨o, q⟩ | q
      · exact .scr (.inl ⟨o, by rw [upd_ne (fun z => by rw [z, h] at q; cases q)]; exact q⟩)
      · exact .scr (.inr q)
    | @dct a kvs q n =>
      by_cases e : a = p
      · subst e
        exact .dct upd_same n
      · exact .dct (kvs := kvs) (by rw [upd_ne e]; exact q) n
    | dcT q n l _ ih => exact .dcT (by rw [upd_ne (fun z => by rw [z, h] at q; cases q)]; exact q) n l ih
    | exn q m k f g => exact .exn (by rw [upd_ne (fun z => by rw [z, h] at q; unfold exV at q; cases q)]; exact q) m k (fun d hd => let ⟨x1, i, e1, e2, e3⟩ := f d hd; ⟨x1, i, e1, by rw [upd_ne (fun z => by rw [z, h] at e2; cases e2)]; exact e2, e3⟩) g
    | nil => exact .nil
    | cons _ _ a b => exact .cons a b
  · intro d v r
    induction r using RDs.rec (motive_1 := fun ds vs _ => RD K (upd s.H p (.dK k2)) s.M ds vs) with
    | non => exact .non
    | bl b => exact .bl b
    | int i => exact .int i
    | str x => exact .str x
    | tup q _ ih => exact .tup (by rw [upd_ne (fun z => by rw [z, h] at q; cases q)]; exact q) ih
    | lst q n _ ih => exact .lst (by rw [upd_ne (fun z => by rw [z, h] at q; cases q)]; exact q) n ih
    | scr q =>
      rcases q with ⟨o, q⟩ | q
      · exact .scr (.inl ⟨o, by rw [upd_ne (fun z => by rw [z, h] at q; cases q)]; exact q⟩)
      · exact .scr (.inr q)
    | @dct a kvs q n =>
      by_cases e : a = p
      · subst e
        exact .dct upd_same n
      · exact .dct (kvs := kvs) (by rw [upd_ne e]; exact q) n
    | dcT q n l _ ih => exact .dcT (by rw [upd_ne (fun z => by rw [z, h] at q; cases q)]; exact q) n l ih
    | exn q m k f g => exact .exn (by rw [upd_ne (fun z => by rw [z, h] at q; unfold exV at q; cases q)]; exact q) m k (fun d hd => let ⟨x1, i, e1, e2, e3⟩ := f d hd; ⟨x1, i, e1, by rw [upd_ne (fun z => by rw [z, h] at e2; cases e2)]; exact e2, e3⟩) g
    | nil => exact .nil
    | cons _ _ a b => exact .cons a b
theorem tE_thenB {K : PySem.W.Frag} {b s : Sit} {σ : L2.St} {env : Env} {F : CallF} {e : T} {β : Type} {k : D → Store → Res β} {Q' : β → Sit → Prop} {Q : VK} (lb : b.Le s) (ok : s.Ok K) (re : RE K s env σ) (h : Post K cA b σ W ((ev F e env s.st).bind k) Q')
    (n : ∀ s1 d x, s1.Ok K → s.Le s1 → RE K s1 env σ → Rep K s1 d x → Post K cA b σ W (k d s1.st) Q' → Q x s1.H) : tE K cA F W e σ s.H Q := by
  refine ⟨s, env, rfl, ok, re, ?_⟩
  cases r : ev F e env s.st with
  | ok a st =>
    rw [r] at h
    intro t h1 h2 h3 v hv
    refine n t a v h2 h3 (re.le ok h3) hv ?_
    rw [h1]
    exact h
  | exc x st =>
    rw [r] at h
    exact fun t c d h1 h2 h3 h4 => h t c d h1 h2 (lb.trans h3) h4
  | err =>
    rw [r] at h
    exact h
theorem p_dct1 {a b : T} (pa : Pe Fs cA a n X W) (pb : Pe Fs cA b n X W) : Pe Fs cA (.dct1 a b) n X W := .ofV rfl fun ex h => by
  cases ex with
  | Dict ks vs p =>
    match ks, vs, h with
    | [some k'], [v'], h =>
      have h : (chkE X.N Fs X.env.scope a k' && chkE X.N Fs X.env.scope b v') = true := h
      rw [Bool.and_eq_true] at h
      refine ⟨PE.imp (pe_disp (pps_cons (pa.e k' h.1) (pb.e v' h.2) pps_nil) rfl rfl (fun z => by cases z) (by show 1 ≤ 15; decide)) fun σ H Q ⟨s, env, e, ok, re, q⟩ => ?_, rfl⟩
      subst e
      intro p hp
      have o0 := Sit.put_ok (o := .dK []) ok hp
      have l0 := Sit.put_le (o := HO.dK []) hp
      have q0 : Post X.K cA s σ W ((ev (cf Fs n) a env (s.put p (.dK [])).st).bind fun x st1 => (ev (cf Fs n) b env st1).bind fun y st2 => dctF x y st2) (PQ X.K Q) := q
      refine tE_thenB l0 o0 (re.le ok l0) q0 fun s1 d x o1 l1 re1 rx q1 => tE_thenB (l0.trans l1) o1 re1 q1 fun s2 e y o2 l2 re2 ry q2 => ?_
      have hp2 : s2.H p = some (.dK []) ∧ ¬ s2.M p := by
        obtain ⟨h1, n1⟩ := l1.keep p (.dK []) upd_same (fun m => Sit.notM ok hp m)
        exact l2.keep p _ h1 n1
      refine ⟨hp2.1, ?_⟩
      unfold dctF at q2
      split at q2
      · cases rep_int rx
        split at q2
        · rename_i i hr
          refine ⟨[(.inl i, y)], rfl, by show 1 ≤ 15; decide, ?_⟩
          have k2 : mergeK [] [((.inl i : Key), y)] = [(.inl i, y)] := rfl
          rw [k2]
          have st := dct_le o2 (k2 := [(.inl i, y)]) hp2.1
          have l02 := (l0.trans l1).trans l2
          refine q2 (s2.put p (.dK [(.inl i, y)])) rfl ⟨o2.len, o2.nd, fun b hb => ?_, fun l c b h1 h2 => ?_⟩ ⟨l02.pre, fun b o hb nb => ?_, fun b hb => ?_⟩ _ (.dat (.dct upd_same hp2.2))
          · show upd s2.H p _ b ≠ none
            by_cases e : b = p
            · subst e; rw [upd_same]; exact fun z => by cases z
            · rw [upd_ne e]; exact o2.there b hb
          · have hb : b ≠ p := by
              rintro rfl
              have hc := o2.cell l c b h1 h2
              cases c with
              | fz ys => obtain ⟨vs, q, _⟩ := hc; rw [hp2.1] at q; cases q
              | lst ys => exact hp2.2 ⟨l, _, h1, rfl, h2⟩
              | dk ys => exact hp2.2 ⟨l, _, h1, rfl, h2⟩
            refine (o2.cell l c b h1 h2).tr (fun u h => ?_) fun r' => st.2 r'
            show upd s2.H p _ b = _
            rw [upd_ne hb]
            exact h
          · refine ⟨?_, (l02.keep b o hb nb).2⟩
            show upd s2.H p _ b = _
            rw [upd_ne (ne_of_none hb hp)]
            exact (l02.keep b o hb nb).1
          · show upd s2.H p _ b ≠ none
            by_cases e : b = p
            · subst e; rw [upd_same]; exact fun z => by cases z
            · rw [upd_ne e]; exact l02.stay b hb
        · exact q2.elim
      · exact q2.elim
  | _ => cases h
theorem p_sub (g : Cg Fs cA n X W) {a b : T} (pa : Pe Fs cA a n X W) (pb : Pe Fs cA b n X W) : Pe Fs cA (.sub a b) n X W := .ofV rfl fun ex h => by
  cases ex with
  | Subscript l r p =>
    have h : (chkE X.N Fs X.env.scope a l && chkE X.N Fs X.env.scope b r && pl r) = true := h
    rw [Bool.and_eq_true, Bool.and_eq_true] at h
    obtain ⟨⟨h1, h2⟩, h3⟩ := h
    refine ⟨PE.imp (pe_ix (ix_seq.or (ix_dict (by have := g.hu; omega))) (pa.e l h1) (pb.e r h2) (ix_pl h3)) fun σ H Q ⟨s, env, e, ok, re, q⟩ => ?_, rfl⟩
    subst e
    exact tE_then ok re q fun s1 d x o1 l1 re1 rx q1 => tE_then o1 re1 q1 fun s2 e y o2 l2 re2 ry q2 => ops_ix s2 σ W d e x y Q o2 (rx.le o1 l2) ry q2
  | _ => cases h
/-! ### dicts -/
theorem p_dnew : Pe Fs cA .dnew n X W := .ofV rfl fun ex h => by
  cases ex with
  | Dict ks vs p =>
    match ks, vs, h with
    | [], [], _ =>
      refine ⟨PE.imp pe_dnewK fun σ H Q ⟨s, env, e, ok, re, q⟩ => ?_, rfl⟩
      subst e
      intro p hp
      exact q (s.newC p (.dk []) (.dK [])) rfl (Sit.newC_ok ok hp upd_same) (Sit.newC_le ok hp) (.ref p) (Sit.newC_at ok)
  | _ => cases h
theorem p_dct0 : Pe Fs cA .dct0 n X W := .ofV rfl fun ex h => by
  cases ex with
  | Dict ks vs p =>
    match ks, vs, h with
    | [], [], _ =>
      refine ⟨PE.imp pe_dnewK fun σ H Q ⟨s, env, e, ok, re, q⟩ => ?_, rfl⟩
      subst e
      intro p hp
      exact q (s.put p (.dK [])) rfl (Sit.put_ok ok hp) (Sit.put_le hp) (.ref p) (.dat (.dct upd_same fun m => Sit.notM ok hp m))
  | _ => cases h
theorem m1_of {o e : Expr} {m : Str} {apos pos : Pos} (h4 : atBB o = true) (h2 : (apos.endLine == pos.line) = true) (h5 : pl e = true) : M1 X o m apos e pos := by
  have hs : starEach [e] X.env = [(false, eval e X.env)] := by rw [star_pl h5]; rfl
  refine ⟨at_plB h4, ?_, h2, ?_⟩
  · rw [hs]; rfl
  · rw [hs]; rfl
theorem m2_of {o e f : Expr} {m : Str} {apos pos : Pos} (h4 : atB o = true) (h2 : (apos.endLine == pos.line) = true) (h5 : pl e = true) (h6 : pl f = true) : M2 X o m apos e f pos := by
  have hs : starEach [e, f] X.env = [(false, eval e X.env), (false, eval f X.env)] := by rw [star_pl h5, star_pl h6]; rfl
  refine ⟨at_pl h4, ?_, h2, ?_⟩
  · rw [hs]; rfl
  · rw [hs]; rfl
theorem p_dget (g : Cg Fs cA n X W) {a b c : T} (pa : Pe Fs cA a n X W) (pb : Pe Fs cA b n X W) (pc : Pe Fs cA c n X W) : Pe Fs cA (.dget a b c) n X W := .ofV rfl fun ex h => by
  simp only [chkE] at h
  split at h
  · skip
    · rename_i v x apos e f p
      have h : (decide (x = ("get" : Str)) && (apos.endLine == p.line) && chkE X.N Fs X.env.scope a v && atB v && chkE X.N Fs X.env.scope b e && pl e && chkE X.N Fs X.env.scope c f && pl f) = true := h
      simp only [Bool.and_eq_true, decide_eq_true_eq] at h
      obtain ⟨⟨⟨⟨⟨⟨⟨h1, h2⟩, h3⟩, h4⟩, h5⟩, h6⟩, h7⟩, h8⟩ := h
      subst h1
      refine ⟨PE.imp (pe_dget2 (by have := g.hu; omega) (pa.e v h3) (pb.e e h5) (pc.e f h7) (m2_of h4 h2 h6 h8)) fun σ H Q ⟨s, env, e, ok, re, q⟩ => ?_, rfl⟩
      subst e
      have q0 : Post X.K cA s σ W ((ev (cf Fs n) a env s.st).bind fun x st1 => if isDk x st1 = true then (ev (cf Fs n) b env st1).bind fun y st2 => (ev (cf Fs n) c env st2).bind fun d st3 => dgetF x y d st3 else .err) (PQ X.K Q) := q
      refine tE_then ok re q0 fun s1 d x o1 l1 re1 rx q1 => ?_
      split at q1
      · rename_i hk
        obtain ⟨kvs, hk⟩ := Option.isSome_iff_exists.mp hk
        obtain ⟨a, rfl, ha⟩ := dkOf_ok o1 rx hk
        refine ⟨a, rfl, .inl ⟨_, .inl ha⟩, tE_then o1 re1 q1 fun s2 e y o2 l2 re2 ry q2 => tE_then o2 re2 q2 fun s3 f z o3 l3 re3 rz q3 => ?_⟩
        unfold dgetF at q3
        split at q3
        · rename_i kvs' k w hk3
          cases rep_int (ry.le o2 l3)
          cases rep_int rz
          obtain ⟨a', ea, ha'⟩ := dkOf_ok o3 ((rx.le o1 l2).le o2 l3) hk3
          cases ea
          refine ⟨_, .inl ⟨dkV kvs', Sum.inl k, .inl ha', rfl, rfl⟩, ?_⟩
          rw [getI_val]
          have : ((getI kvs' k).map V.int).getD (V.int w) = V.int ((getI kvs' k).getD w) := by cases getI kvs' k <;> rfl
          rw [this]
          exact post_val o3 q3 (.int _)
        · exact q3.elim
      · exact q1.elim
  · cases h
theorem p_dgt1 (g : Cg Fs cA n X W) {a b : T} (pa : Pe Fs cA a n X W) (pb : Pe Fs cA b n X W) : Pe Fs cA (.dgt1 a b) n X W := .ofV rfl fun ex h => by
  cases ex with
  | Call fe vs ks p =>
    match fe, vs, ks, h with
    | .Attribute v x apos, [e], [], h =>
      have h : (decide (x = ("get" : Str)) && (apos.endLine == p.line) && chkE X.N Fs X.env.scope a v && atBB v && chkE X.N Fs X.env.scope b e && pl e) = true := h
      simp only [Bool.and_eq_true, decide_eq_true_eq] at h
      obtain ⟨⟨⟨⟨⟨h1, h2⟩, h3⟩, h4⟩, h5⟩, h6⟩ := h
      subst h1
      refine ⟨PE.imp (pe_dget1 (by have := g.hu; omega) (pa.e v h3) (pb.e e h5) (m1_of h4 h2 h6)) fun σ H Q ⟨s, env, e, ok, re, q⟩ => ?_, rfl⟩
      subst e
      have q0 : Post X.K cA s σ W ((ev (cf Fs n) a env s.st).bind fun x st1 => if isDT x = true then (ev (cf Fs n) b env st1).bind fun y st2 => dgt1F x y st2 else .err) (PQ X.K Q) := q
      refine tE_then ok re q0 fun s1 d x o1 l1 re1 rx q1 => ?_
      split at q1
      · rename_i hk
        cases d with
        | dcT ks ds =>
          have rx0 := rx
          cases rx with
          | dat rx => cases rx with
            | dcT h7 h8 h9 h10 =>
              rename_i a vs
              refine ⟨a, rfl, .inr ⟨_, .inl h7⟩, tE_then o1 re1 q1 fun s2 e y o2 l2 re2 ry q2 => ?_⟩
              unfold dgt1F at q2
              split at q2
              · rename_i ks' ds' k hd hk2
                cases hd
                obtain ⟨a', o, ea, gg, hh⟩ := dcT_get ry (rx0.le o1 l2) hk2
                cases ea
                refine ⟨o, gg, ?_⟩
                rcases hh with ⟨h1, rfl⟩ | ⟨e', w, h1, rfl, rv⟩
                · rw [h1] at q2
                  exact post_val o2 q2 .non
                · rw [h1] at q2
                  exact post_val o2 q2 (.dat rv)
              · exact q2.elim
        | _ => cases hk
      · exact q1.elim
  | _ => cases h
theorem prs_ok {K : PySem.W.Frag} {s : Sit} : ∀ {ds : List D} {ks : List (List Int)} {es : List D} {vs : List V}, prsOf ds = some (ks, es) → RDs K s.H s.M ds vs →
    ∃ ts : List TPr, vs = (ts.map (·.1)).map V.ref ∧ ks = ts.map (fun t => t.2.1) ∧ (∀ t ∈ ts, PrAt s.H t) ∧ RDs K s.H s.M es (ts.map fun t => t.2.2.2)
  | [], ks, es, vs, h, r => by
    cases r
    simp only [prsOf, Option.some.injEq, Prod.mk.injEq] at h
    obtain ⟨rfl, rfl⟩ := h
    exact ⟨[], rfl, rfl, fun t ht => by simp at ht, .nil⟩
  | d :: ds, ks, es, vs, h, r => by
    unfold prsOf at h
    split at h
    · cases ‹d :: ds = []›
    · rename_i xs v r' e
      cases e
      split at h
      · rename_i k a b hk hp
        cases h
        cases r with
        | cons r1 r2 =>
          obtain ⟨ts, e1, e2, e3, e4⟩ := prs_ok hp r2
          cases r1 with
          | tup hh rr =>
            rename_i p us
            cases rr with
            | cons q1 q2 =>
              cases q2 with
              | cons q3 q4 =>
                cases q4
                cases q1 with
                | tup g1 g2 =>
                  rename_i w kk ws
                  rw [intsOf_ok hk] at g2
                  rw [g2.ints] at g1
                  exact ⟨(p, k, kk, w) :: ts, by rw [e1]; rfl, by rw [e2]; rfl, fun t ht => by
                    rcases List.mem_cons.mp ht with rfl | ht
                    · exact ⟨hh, g1⟩
                    · exact e3 t ht, .cons q3 e4⟩
      · cases h
    · cases h
theorem p_dof (g : Cg Fs cA n X W) {a : T} (pa : Pe Fs cA a n X W) : Pe Fs cA (.dof a) n X W := .ofV rfl fun ex h => by
  cases ex with
  | Call fe vs ks p =>
    match fe, vs, ks, h with
    | .Name x p2, [v], [], h =>
      have h : (decide (x = ("dict" : Str)) && glB X.env.scope x && chkE X.N Fs X.env.scope a v && pl v) = true := h
      simp only [Bool.and_eq_true, decide_eq_true_eq] at h
      obtain ⟨⟨⟨h1, h2⟩, h3⟩, h4⟩ := h
      subst h1
      refine ⟨PE.imp (pe_callTy (cr_dictT g.calm (by have := g.hu; omega)) (glB_ok h2) (bl_of g (by decide +kernel)) (by decide +kernel) (pa_cons (pa.e v h3) pa_nil (star_pl h4)) (by decide +kernel) (by decide +kernel) (star_pl h4) (by rfl)) fun σ H Q ⟨s, env, e, ok, re, q⟩ => ?_, rfl⟩
      subst e
      refine tE_then ok re q fun s1 d x o1 l1 re1 rx q1 => ?_
      have q1 : Post X.K cA s1 σ W (dofF d s1.st) (PQ X.K Q) := q1
      unfold dofF at q1
      split at q1
      · rename_i ks es hk
        obtain ⟨xs, hx, hp⟩ := Option.bind_eq_some_iff.mp hk
        obtain ⟨l, us, rfl, hl, rl⟩ := lstOf_ok o1 rx hx
        obtain ⟨ts, e1, e2, e3, e4⟩ := prs_ok hp rl
        subst e1
        split at q1
        · rename_i hnd
          rw [e2] at hnd
          refine ⟨l, ts, rfl, SqL.of hl, e3, hnd, fun p hp => ?_⟩
          refine q1 (s1.put p _) rfl (Sit.put_ok o1 hp) (Sit.put_le hp) (.ref p) (.dat (.dcT (vs := ts.map fun t => t.2.2.2) ?_ (fun m => Sit.notM o1 hp m) ?_ (e4.le o1 (Sit.put_le hp))))
          · show upd s1.H p _ p = _
            rw [upd_same, e2, dtV, List.zipWith_map_left, List.zipWith_map_right, List.zipWith_self]
          · rw [e2, List.length_map]
            have := e4.length
            rw [List.length_map] at this
            exact this.symm
        · exact q1.elim
      · exact q1.elim
  | _ => cases h
def Sit.grow (s : Sit) (H' : Hp) : Sit := ⟨s.r, s.st, H'⟩
theorem Sit.grow_le {s : Sit} {H' : Hp} (h : ∀ b o, s.H b = some o → H' b = some o) : s.Le (s.grow H') :=
  ⟨fun _ _ h => h, fun a o ha n => ⟨h a o ha, n⟩, fun a ha z => by
    cases e : s.H a with
    | none => exact ha e
    | some o => rw [show (s.grow H').H a = some o from h a o e] at z; cases z⟩
theorem Sit.grow_ok {K : PySem.W.Frag} {s : Sit} (ok : s.Ok K) {H' : Hp} (h : ∀ b o, s.H b = some o → H' b = some o) : (s.grow H').Ok K :=
  ⟨ok.len, ok.nd, fun a ha => (Sit.grow_le h).stay a (ok.there a ha), fun l c a h1 h2 => (ok.cell l c a h1 h2).tr (fun u hu => h a u hu) fun r => r.le ok (Sit.grow_le h)⟩
theorem p_ditems (g : Cg Fs cA n X W) (m : Bool) {a : T} (pa : Pe Fs cA a n X W) : Pe Fs cA (.ditems m a) n X W := .ofV rfl fun ex h => by
  simp only [chkE] at h
  split at h
  · skip
    · rename_i x p2 v y apos p4 p
      have h : (decide (x = ("sorted" : Str)) && decide (y = ("items" : Str)) && (apos.endLine == p4.line) && glB X.env.scope x && chkE X.N Fs X.env.scope a v && atB v) = true := h
      simp only [Bool.and_eq_true, decide_eq_true_eq] at h
      obtain ⟨⟨⟨⟨⟨h1, h2⟩, h3⟩, h4⟩, h5⟩, h6⟩ := h
      subst h1 h2
      have pin := pe_bm0 (cpos := p4) PySem.F.plainAttrs_dict PySem.F.slot_dict_items PySem.F.type_dict_items mt_itemsK (pa.e v h5) (at_pl h6) h3
      refine ⟨PE.imp (pe_callB (cr_sortIt g.calm) (glB_ok h4) (bl_of g (by decide +kernel)) (by decide +kernel) (pa_cons pin pa_nil (by rfl)) (by decide +kernel) (by decide +kernel) (by rfl) (by rfl)) fun σ H Q ⟨s, env, e, ok, re, q⟩ => ?_, rfl⟩
      subst e
      refine tE_then ok re q fun s1 d x o1 l1 re1 rx q1 => ?_
      have q1 : Post X.K cA s1 σ W (ditF m d s1.st) (PQ X.K Q) := q1
      unfold ditF at q1
      split at q1
      · rename_i kvs hk
        obtain ⟨a, rfl, ha⟩ := dkOf_ok o1 rx hk
        split at q1
        · rename_i hz
          refine ⟨.inr (.inr (.inl ⟨rfl, .inl ⟨_, ha⟩⟩)), a, _, rfl, rfl, ha, fun p hp => ?_⟩
          have o2 := Sit.put_ok (o := DX.itemsO p a) o1 hp
          have l2 := Sit.put_le (o := DX.itemsO p a) hp
          refine ⟨p, a, kvs, rfl, upd_same, (by show upd s1.H p _ a = _; rw [upd_ne (ne_of_none ha hp)]; exact ha), fun H' l ts kp hperm hs hl hH' hts => ?_⟩
          have kp : ∀ b o, (s1.put p (DX.itemsO p a)).H b = some o → H' b = some o := kp
          have hl : (s1.put p (DX.itemsO p a)).H l = none := hl
          have e1 : srtT (kvs.map fun p => [p.1, p.2]) = ts.map fun t => [t.2.1, t.2.2] := by
            have h7 : ((ts.map fun t => [t.2.1, t.2.2]) : List (List Int)).Perm (kvs.map fun p => [p.1, p.2]) := by
              have := hperm.map fun p : Int × Int => [p.1, p.2]
              rw [List.map_map] at this
              exact this
            exact (sorted_sameT (h7.trans (srtT_perm _).symm) hs (srtT_le _)).symm
          rw [e1] at q1
          -- the heap without the list
          obtain ⟨G, hG⟩ : ∃ G : Hp, G = fun b => if b = l then none else H' b := ⟨_, rfl⟩
          have kG : ∀ b o, (s1.put p (DX.itemsO p a)).H b = some o → G b = some o := fun b o hb => by
            rw [hG]
            show (if b = l then none else H' b) = _
            rw [if_neg (fun z => by rw [z, hl] at hb; cases hb)]
            exact kp b o hb
          have o3 := Sit.grow_ok o2 kG
          have l3 := Sit.grow_le kG
          have hGl : ((s1.put p (DX.itemsO p a)).grow G).H l = none := by
            show G l = none
            rw [hG]
            show (if l = l then none else H' l) = _
            rw [if_pos rfl]
          have hupd : upd ((s1.put p (DX.itemsO p a)).grow G).H l (.lst (ts.map fun t => V.ref t.1)) = H' := by
            funext b
            by_cases hb : b = l
            · rw [hb, upd_same, hH']
            · rw [upd_ne hb]
              show G b = _
              rw [hG]
              show (if b = l then none else H' b) = _
              rw [if_neg hb]
          have rds : RDs X.K ((s1.put p (DX.itemsO p a)).grow G).H ((s1.put p (DX.itemsO p a)).grow G).M ((ts.map fun t => [t.2.1, t.2.2]).map tupD) (ts.map fun t => V.ref t.1) := by
            have : ∀ ts' : List (Addr × Int × Int), (∀ t ∈ ts', H' t.1 = some (.tup [.int t.2.1, .int t.2.2])) → RDs X.K ((s1.put p (DX.itemsO p a)).grow G).H ((s1.put p (DX.itemsO p a)).grow G).M ((ts'.map fun t => [t.2.1, t.2.2]).map tupD) (ts'.map fun t => V.ref t.1) := by
              intro ts'
              induction ts' with
              | nil => intro _; exact .nil
              | cons t ts' ih =>
                intro ht
                refine .cons (.tup (vs := [.int t.2.1, .int t.2.2]) ?_ (.cons (.int _) (.cons (.int _) .nil))) (ih fun t h => ht t (by simp [h]))
                have h9 := ht t (by simp)
                show G t.1 = _
                rw [hG]
                show (if t.1 = l then none else H' t.1) = _
                rw [if_neg (fun z => by rw [z, hH'] at h9; cases h9)]
                exact h9
            exact this ts hts
          have q2 : Post X.K cA ((s1.put p (DX.itemsO p a)).grow G) σ W (mk m ((ts.map fun t => [t.2.1, t.2.2]).map tupD) ((s1.put p (DX.itemsO p a)).grow G).st) (PQ X.K Q) := q1.le (l2.trans l3)
          have := post_mk o3 rds q2 l hGl
          rw [hupd] at this
          exact this
        · exact q1.elim
      · exact q1.elim
  · cases h
theorem p_slc (m : Bool) {a lo hi : T} (pa : Pe Fs cA a n X W) (pl : Pe Fs cA lo n X W) (ph : Pe Fs cA hi n X W) : Pe Fs cA (.slc m a lo hi) n X W := .ofV rfl fun ex h => by
  cases ex with
  | Subscript l r p =>
    cases r with
    | Slice u w st p2 =>
      cases st with
      | none =>
        have h : (chkE X.N Fs X.env.scope a l && chkO X.N Fs X.env.scope lo u && chkO X.N Fs X.env.scope hi w) = true := h
        rw [Bool.and_eq_true, Bool.and_eq_true] at h
        obtain ⟨⟨h1, h2⟩, h3⟩ := h
        refine ⟨PE.imp (pe_slice (sl_list.or (sl_tupA.or sl_str)) (pa.e l h1) (pl.o u h2) (ph.o w h3)) fun σ H Q ⟨s, env, e, ok, re, q⟩ => ?_, rfl⟩
        subst e
        exact tE_then ok re q fun s1 d x o1 l1 re1 rx q1 => tO_then o1 re1 q1 fun s2 lo o2 l2 re2 q2 => tO_then o2 re2 q2 fun s3 hi o3 l3 re3 q3 => slc_ok o3 ((rx.le o1 l2).le o2 l3) q3
      | some _ => cases h
    | _ => cases h
  | _ => cases h
theorem RDs.reverse {K : PySem.W.Frag} {H : Hp} {M : Addr → Prop} : ∀ {xs : List D} {vs : List V}, RDs K H M xs vs → RDs K H M xs.reverse vs.reverse
  | _, _, .nil => .nil
  | _, _, .cons h r => by
    rw [List.reverse_cons, List.reverse_cons]
    exact (RDs.reverse r).append (.cons h .nil)
def rRev (K : PySem.W.Frag) : V → Hp → VK → Prop := fun x H Q => ∃ a vs, x = .ref a ∧ ((SqL K H a vs ∧ ∀ p, H p = none → Q (.ref p) (upd H p (.lst vs.reverse))) ∨ (SqT K H a vs ∧ ∀ p, H p = none → Q (.ref p) (upd H p (.tup vs.reverse))))
theorem vals_rev : ∀ {vs : List V} {us : List Value}, Vals vs us → Vals vs.reverse us.reverse
  | _, _, .nil => .nil
  | _, _, .cons h r => by
    rw [List.reverse_cons, List.reverse_cons]
    exact (vals_rev r).append (.cons h .nil)
theorem pe_rev {te : TE} {e : Expr} {pos p1 p2 p3 : Pos} {k : Nat} (he : PE X e te) : PE X (.Subscript e (.Slice none none (some (.UnaryOp .USub (.Constant (.int 1) k p1) p2)) p3) pos) (fun σ H Q => te σ H fun x H1 => rRev X.K x H1 Q) := by
  refine ⟨fun pins s σ H Q I h => ?_⟩
  refine Subscript_ (thn (he.run pins s σ H _ I h) fun v s1 ⟨x, H1, I1, r1, q1⟩ => ?_)
  obtain ⟨a, xs, rfl, hq⟩ := q1
  cases r1
  refine wpAny_Slice ?_
  rw [evalPart_none]
  refine wpAny_pure (wpAny_pure ?_)
  have hst : PO X (some (.UnaryOp .USub (.Constant (.int 1) k p1) p2)) (tPart (tC (.int (-1)))) := po_some (PE.imp (pe_un un_neg pe_int) fun σ H Q q => ⟨1, rfl, q⟩)
  refine thn (hst.run pins s1 σ H1 (fun o H2 => o = some (-1) ∧ H2 = H1) I1 ⟨_, rfl, rfl, rfl⟩) fun vk s2 ⟨o, H2, I2, pk, eo, eH⟩ => ?_
  subst eo eH
  have I4 : Inv X pins σ H2 { s2 with heap := s2.heap.push { cls := .type "slice", data := .fields #[.none, .none, vk] } } := I2.kept (t' := s2.toks) fun b ob q => Heap.get?_push_of_some _ q
  show wpAny (model X.prog X.w) X.A (subscriptTail e (.Slice none none (some (.UnaryOp .USub (.Constant (.int 1) k p1) p2)) p3) (.ref a) (.ref s2.heap.objs.size)) (EP X pins σ Q) X.xe { s2 with heap := s2.heap.push { cls := .type "slice", data := .fields #[.none, .none, vk] } }
  rcases hq with ⟨hx, q⟩ | ⟨hx, q⟩
  · obtain ⟨its, r, ht, hz⟩ := I2.list hx
    have ht4 : ({ s2 with heap := s2.heap.push { cls := .type "slice", data := .fields #[.none, .none, vk] } } : Shared).TypeIs (.ref a) "list" := by
      obtain ⟨its4, r4, ht4, hz4⟩ := I4.list hx
      exact ht4.isList.typeIs
    have hg : wpAny (model X.prog X.w) X.A (getItem (.ref a) (.ref s2.heap.objs.size)) (EP X pins σ Q) X.xe { s2 with heap := s2.heap.push { cls := .type "slice", data := .fields #[.none, .none, vk] } } := by
      obtain ⟨its4, r4, ht4, hz4⟩ := I4.list hx
      refine wpAny_getItem_list_slice ht4.isList (Heap.IsSliceOf.new ..) .none .none pk (by decide) ?_ (by rw [List.size_toArray, ← r4.length]; exact hz4)
      rw [PySem.W.krv_pick]
      refine ⟨.ref (s2.heap.push { cls := .type "slice", data := .fields #[.none, .none, vk] }).objs.size, _, I4.laid (t' := s2.toks) (o := .lst xs.reverse) (fun b ob q => Heap.get?_push_of_some _ q) (Nat.le_refl _) ?_, rfl, q _ (I4.hok.fresh (Nat.le_refl _))⟩
      refine ⟨by rw [List.length_reverse]; exact hz4, _, 0, vals_rev r4, Heap.get?_push_size _ rfl⟩
    exact tail_any (ops := [.ref a, .ref s2.heap.objs.size]) ht4 slot_list_getitem.lookup hg (by with_unfolding_all rfl)
  · obtain ⟨its4, r4, ht4, hz4⟩ := I4.tuple hx
    have hg : wpAny (model X.prog X.w) X.A (getItem (.ref a) (.ref s2.heap.objs.size)) (EP X pins σ Q) X.xe { s2 with heap := s2.heap.push { cls := .type "slice", data := .fields #[.none, .none, vk] } } := by
      refine getItem_tuple_rev ht4 (Heap.IsSliceOf.new ..) pk ?_ (by rw [List.size_toArray, ← r4.length]; exact hz4)
      refine ⟨.ref (s2.heap.push { cls := .type "slice", data := .fields #[.none, .none, vk] }).objs.size, _, I4.laid (t' := s2.toks) (o := .tup xs.reverse) (fun b ob q => Heap.get?_push_of_some _ q) (Nat.le_refl _) ?_, rfl, q _ (I4.hok.fresh (Nat.le_refl _))⟩
      exact ⟨by rw [List.length_reverse]; exact hz4, _, vals_rev r4, IsTup.new _ _⟩
    exact tail_any (ops := [.ref a, .ref s2.heap.objs.size]) ht4.typeIs PyProof.Rows.slot_tuple_getitem.lookup hg (by with_unfolding_all rfl)
theorem p_rev (m : Bool) {a : T} (pa : Pe Fs cA a n X W) : Pe Fs cA (.rev m a) n X W := .ofV rfl fun ex h => by
  simp only [chkE] at h
  split at h
  · skip
    · rename_i l k p1 p2 p3 p
      have h : chkE X.N Fs X.env.scope a l = true := h
      refine ⟨PE.imp (pe_rev (pa.e l h)) fun σ H Q ⟨s, env, e, ok, re, q⟩ => ?_, rfl⟩
      subst e
      refine tE_then ok re q fun s1 d x o1 l1 re1 rx q1 => ?_
      unfold revF at q1
      split at q1
      · obtain ⟨a, us, rfl, ha, ra⟩ := rep_tup rx
        exact ⟨a, us, rfl, .inr ⟨ha, post_tup o1 ra.reverse q1⟩⟩
      · split at q1
        · rename_i xs hx
          obtain ⟨a, us, rfl, ha, ra⟩ := lstOf_ok o1 rx hx
          exact ⟨a, us, rfl, .inl ⟨SqL.of ha, post_mk o1 ra.reverse q1⟩⟩
        · exact q1.elim
  · cases h
theorem p_suq (g : Cg Fs cA n X W) (m : Bool) {a : T} (pa : Pe Fs cA a n X W) : Pe Fs cA (.suq m a) n X W := .ofV rfl fun ex h => by
  simp only [chkE] at h
  split at h
  · skip
    · rename_i x p2 y p3 v p4 p
      have h : (decide (x = ("sorted" : Str)) && decide (y = ("set" : Str)) && glB X.env.scope x && glB X.env.scope y && chkE X.N Fs X.env.scope a v && pl v) = true := h
      rw [Bool.and_eq_true, Bool.and_eq_true, Bool.and_eq_true, Bool.and_eq_true, Bool.and_eq_true, decide_eq_true_eq, decide_eq_true_eq] at h
      obtain ⟨⟨⟨⟨⟨h1, h2⟩, h3⟩, h4⟩, h5⟩, h6⟩ := h
      subst h1 h2
      have pin := pe_callTy (p := p3) (pos := p4) (cr_setL g.calm) (glB_ok h4) (bl_of g (by decide +kernel)) (by decide +kernel) (pa_cons (pa.e v h5) pa_nil (star_pl h6)) (by decide +kernel) (by decide +kernel) (star_pl h6) (by rfl)
      refine ⟨PE.imp (pe_callB (cr_sortedSI g.calm) (glB_ok h3) (bl_of g (by decide +kernel)) (by decide +kernel) (pa_cons pin pa_nil (by rfl)) (by decide +kernel) (by decide +kernel) (by rfl) (by rfl)) fun σ H Q ⟨s, env, e, ok, re, q⟩ => ?_, rfl⟩
      subst e
      refine tE_then ok re q fun s1 d x o1 l1 re1 rx q1 => ?_
      obtain ⟨l, ns, e1, h7, h8, h9⟩ := suq_ok m o1 rx q1
      refine ⟨l, ns, e1, h7, h8, fun p c hp => ?_⟩
      refine ⟨p, _, c, rfl, upd_same, fun ns' q hlt hmem hq => ?_⟩
      have en : ns' = uqI ns := lt_same hlt (unq_lt _ (srtI_le ns)) fun z => by
        rw [hmem z, decide_eq_true_eq, uqI, unq_mem]
        exact (srtI_perm ns).mem_iff.symm
      rw [en]
      exact h9 p q _ hp hq
  · cases h
theorem p_mmd (g : Cg Fs cA n X W) (b : Bool) {a : T} (pa : Pe Fs cA a n X W) : Pe Fs cA (.mmd b a) n X W := .ofV rfl fun ex h => by
  simp only [chkE] at h
  split at h
  · skip
    · rename_i x p2 v y k p3 p4 p
      have h : (decide (x = (if b = true then ("max" : Str) else ("min" : Str))) && decide (y = ("default" : Str)) && glB X.env.scope x && chkE X.N Fs X.env.scope a v && pl v) = true := h
      rw [Bool.and_eq_true, Bool.and_eq_true, Bool.and_eq_true, Bool.and_eq_true, decide_eq_true_eq, decide_eq_true_eq] at h
      obtain ⟨⟨⟨⟨h1, h2⟩, h3⟩, h5⟩, h6⟩ := h
      have hp : backTo p (starEach [v] X.env) = (false, eval v X.env) :: backTo p (starEach [] X.env) := by rw [star_pl h6]; rfl
      have hq : (backTo p (starEach [v] X.env)).any (·.1) = false := by rw [star_pl h6]; rfl
      have go : ∀ {σ : L2.St} {H : Hp} {Q : VK}, tE X.K cA (cf Fs n) W (.mmd b a) σ H Q → tE X.K cA (cf Fs n) W a σ H fun x1 H1 => ∃ (l : Addr) (ns : List Int), x1 = V.ref l ∧ SqL X.K H1 l (ns.map V.int) ∧ (ns = [] → Q .non H1) ∧
          ∀ m, (b = false → m ∈ ns → (∀ y, y ∈ ns → m ≤ y) → Q (.int m) H1) ∧ (b = true → m ∈ ns → (∀ y, y ∈ ns → y ≤ m) → Q (.int m) H1) := by
        intro σ H Q ⟨s, env, e, ok, re, q⟩
        subst e
        refine tE_then ok re q fun s1 d x o1 l1 re1 rx q1 => ?_
        unfold mmdF at q1
        split at q1
        · rename_i xs hx
          obtain ⟨l, us, rfl, ha, ra⟩ := lstOf_ok o1 rx hx
          split at q1
          · rename_i ns hi
            rw [intsOf_ok hi] at ra
            rw [ra.ints] at ha
            refine ⟨l, ns, rfl, SqL.of ha, fun e => ?_, fun m => ⟨fun e h1 h2 => ?_, fun e h1 h2 => ?_⟩⟩
            · subst e
              exact post_val o1 q1 .non
            · subst e
              cases ns with
              | nil => cases h1
              | cons z r =>
                obtain ⟨⟨k1, k2⟩, _⟩ := mm_fold r z
                have em : m = r.foldl min z := by have := k2 m h1; have := h2 _ k1; omega
                rw [em]
                exact post_val o1 q1 (.int _)
            · subst e
              cases ns with
              | nil => cases h1
              | cons z r =>
                obtain ⟨_, k1, k2⟩ := mm_fold r z
                have em : m = r.foldl max z := by have := k2 m h1; have := h2 _ k1; omega
                rw [em]
                exact post_val o1 q1 (.int _)
          · exact q1.elim
        · exact q1.elim
      subst h2
      cases b with
      | false =>
        have h1 : x = ("min" : Str) := h1
        subst h1
        refine ⟨PE.imp (pe_callBK (cr_minDf g.calm) (glB_ok h3) (bl_of g (by decide +kernel)) (by decide +kernel) (pa_cons (pa.e v h5) pa_nil (star_pl h6)) (pk_cons pe_non pk_nil) (by decide +kernel) (by decide +kernel) hp hq) fun σ H Q hh => ?_, rfl⟩
        obtain ⟨s, env, e, ok, re, q⟩ := go hh
        refine ⟨s, env, e, ok, re, q.mono fun d s3 o3 l3 hx x1 hv => ?_⟩
        obtain ⟨l, ns, e1, e2, e3, e4⟩ := hx x1 hv
        exact ⟨l, ns, by rw [e1], rfl, e2, e3, fun m h1 h2 => (e4 m).1 rfl h1 h2⟩
      | true =>
        have h1 : x = ("max" : Str) := h1
        subst h1
        refine ⟨PE.imp (pe_callBK (cr_maxDf g.calm) (glB_ok h3) (bl_of g (by decide +kernel)) (by decide +kernel) (pa_cons (pa.e v h5) pa_nil (star_pl h6)) (pk_cons pe_non pk_nil) (by decide +kernel) (by decide +kernel) hp hq) fun σ H Q hh => ?_, rfl⟩
        obtain ⟨s, env, e, ok, re, q⟩ := go hh
        refine ⟨s, env, e, ok, re, q.mono fun d s3 o3 l3 hx x1 hv => ?_⟩
        obtain ⟨l, ns, e1, e2, e3, e4⟩ := hx x1 hv
        exact ⟨l, ns, by rw [e1], rfl, e2, e3, fun m h1 h2 => (e4 m).2 rfl h1 h2⟩
  · cases h
theorem p_lrng (g : Cg Fs cA n X W) (m : Bool) {a : T} (pa : Pe Fs cA a n X W) : Pe Fs cA (.lrng m a) n X W := .ofV rfl fun ex h => by
  simp only [chkE] at h
  split at h
  · skip
    · rename_i x p2 y p3 v p4 p
      have h : (decide (x = ("list" : Str)) && decide (y = ("range" : Str)) && glB X.env.scope x && glB X.env.scope y && chkE X.N Fs X.env.scope a v && pl v) = true := h
      rw [Bool.and_eq_true, Bool.and_eq_true, Bool.and_eq_true, Bool.and_eq_true, Bool.and_eq_true, decide_eq_true_eq, decide_eq_true_eq] at h
      obtain ⟨⟨⟨⟨⟨h1, h2⟩, h3⟩, h4⟩, h5⟩, h6⟩ := h
      subst h1 h2
      refine ⟨PE.imp (pe_listRg g.calm (glB_ok h3) (bl_of g (by decide +kernel)) (prg_1 (glB_ok h4) (bl_of g (by decide +kernel)) (pa.e v h5) (star_pl h6))) fun σ H Q ⟨s, env, e, ok, re, q⟩ => ?_, rfl⟩
      subst e
      refine tE_then ok re q fun s1 d x o1 l1 re1 rx q1 => ?_
      unfold lrngF at q1
      split at q1
      · rename_i j
        split at q1
        · rename_i hj
          cases rx.rd rfl
          rw [Bool.and_eq_true, decide_eq_true_eq] at hj
          have hr := hj.1
          simp only [rngOk, Bool.and_eq_true, decide_eq_true_eq] at hr
          refine ⟨j, rfl, ⟨by omega, by omega, by omega, by omega, by omega⟩, fun q hq => ?_⟩
          have er : rgV 0 j = (List.range j.toNat).map fun (k : Nat) => V.int (0 + k) := by rw [rgV, Int.sub_zero]
          have ed : RDs X.K s1.H s1.M (rngD 0 j.toNat) (rgV 0 j) := by
            rw [er, rngD]
            have : ∀ l : List Nat, RDs X.K s1.H s1.M (l.map fun (k : Nat) => D.int (0 + k)) (l.map fun (k : Nat) => V.int (0 + k)) := by
              intro l
              induction l with
              | nil => exact .nil
              | cons k l ih => exact .cons (.int _) ih
            exact this _
          exact post_mk o1 ed q1 q hq
        · exact q1.elim
      · exact q1.elim
  · cases h
theorem p_call (g : Cg Fs cA n X W) (f : Nat) (m : Bool) {t : T} (pe : Pe Fs cA t n X W) : Pe Fs cA (.call f m t) n X W := .ofV rfl fun ex h => by
  cases ex with
  | Call fe vs ks p =>
    cases fe with
    | Name x p2 =>
      match vs, ks, h with
      | v :: vs, [], h =>
        have h : ((match Fs[f]? with
          | some fn => (decide (fn.name = x) || Fs.any fun a => a.isAl x fn.name) && !fn.isC && !fn.isM
          | none => false) && glB X.env.scope x && nmOk x && chkEs X.N Fs X.env.scope t (v :: vs)) = true := h
        rw [Bool.and_eq_true, Bool.and_eq_true, Bool.and_eq_true] at h
        obtain ⟨⟨⟨h1, h2⟩, h3⟩, h4⟩ := h
        split at h1
        · rename_i fn hf
          rw [Bool.and_eq_true, Bool.and_eq_true, Bool.or_eq_true, decide_eq_true_eq, Bool.not_eq_true', Bool.not_eq_true'] at h1
          obtain ⟨⟨h1, hC⟩, hM⟩ := h1
          obtain ⟨fa, fd, hm, hk, hb, F⟩ := g.fn f fn hf hC hM
          have hm : X.mg x = some (.ref fa) := by
            rcases h1 with h1 | h1
            · rw [← h1]; exact hm
            · obtain ⟨a, h5, h6⟩ := List.any_eq_true.mp h1
              rw [g.al a x fn.name h5 h6]; exact hm
          obtain ⟨pa, hp⟩ := pe.a _ h4
          refine ⟨PE.imp (pe_callS (E := WE W) F g.room (glB_ok h2) hm hk hb (fun σ => passAt g.takes σ) pa (nmOk_ok h3).1 (star_pl (hp v (by simp))) (backTo_any fun e he => hp e (List.mem_cons_of_mem _ he))) fun σ H Q ⟨s, env, e, ok, re, q⟩ => ?_, rfl⟩
          subst e
          refine tA_then ok re q fun s1 ds xs o1 l1 re1 rxs q1 => ⟨s1, ds, rfl, o1, rxs, ?_⟩
          cases r : cf Fs n f ds s1.st with
          | ok a st =>
            rw [r] at q1
            intro t h1 h2 h3 v hv
            have q2 : Post X.K cA s1 σ W (callEnd m s1.st.length a st) (PQ X.K Q) := q1
            rw [← h1] at q2
            exact cut_post o1 h2 h3 hv q2
          | exc x st =>
            rw [r] at q1
            exact q1
          | err =>
            rw [r] at q1
            exact q1
        · cases h1
    | _ => cases h
  | _ => cases h
theorem p_blt (g : Cg Fs cA n X W) (b : Blt) (m : Bool) {t : T} (pe : Pe Fs cA t n X W) : Pe Fs cA (.blt b m t) n X W := .ofV rfl fun ex h => by
  cases ex with
  | Call fe vs ks p =>
    cases fe with
    | Name x p2 =>
      match vs, ks, h with
      | v :: vs, [], h =>
        have h : (decide (bName b = x) && glB X.env.scope x && chkEs X.N Fs X.env.scope t (v :: vs)) = true := h
        rw [Bool.and_eq_true, Bool.and_eq_true, decide_eq_true_eq] at h
        obtain ⟨⟨h1, h2⟩, h4⟩ := h
        subst h1
        obtain ⟨pa, hp⟩ := pe.a _ h4
        refine ⟨?_, rfl⟩
        have hs : starEach (v :: vs) X.env = (false, eval v X.env) :: starEach vs X.env := star_pl (hp v (by simp))
        have hpl : (backTo p (starEach vs X.env)).any (·.1) = false := backTo_any fun e he => hp e (List.mem_cons_of_mem _ he)
        have fin : ∀ {r : List V → Hp → VK → Prop}, CallS X.K cA (bltF b m) r → ∀ σ H Q, tE X.K cA (cf Fs n) W (.blt b m t) σ H Q → tCB r (tA X.K cA (cf Fs n) W t) σ H Q := fun hr σ H Q ⟨s, env, e, ok, re, q⟩ => by
          subst e
          exact tA_then ok re q fun s1 ds xs o1 l1 re1 rxs q1 => hr s1 σ W ds xs Q o1 rxs q1
        cases b with
        | len => exact PE.imp (pe_callB (call_len_seq.or call_len_str) (glB_ok h2) (bl_of g (by decide +kernel)) (by decide +kernel) pa (by decide +kernel) (by decide +kernel) hs hpl) (fin calls_len)
        | sum => exact PE.imp (pe_callB ((cr_sum g.calm).or (cr_sumT g.calm)) (glB_ok h2) (bl_of g (by decide +kernel)) (by decide +kernel) pa (by decide +kernel) (by decide +kernel) hs hpl) (fin calls_sum)
        | min => exact PE.imp (pe_callB ((call_min2 g.calm).or (cr_min g.calm)) (glB_ok h2) (bl_of g (by decide +kernel)) (by decide +kernel) pa (by decide +kernel) (by decide +kernel) hs hpl) (fin calls_min)
        | max => exact PE.imp (pe_callB ((call_max2 g.calm).or (cr_max g.calm)) (glB_ok h2) (bl_of g (by decide +kernel)) (by decide +kernel) pa (by decide +kernel) (by decide +kernel) hs hpl) (fin calls_max)
        | sorted => exact PE.imp (pe_callB ((cr_sortedI.or cr_sortedX).or (cr_sortDI g.calm)) (glB_ok h2) (bl_of g (by decide +kernel)) (by decide +kernel) pa (by decide +kernel) (by decide +kernel) hs hpl) (fin (calls_sorted m))
        | all => exact PE.imp (pe_callB (cr_all g.calm) (glB_ok h2) (bl_of g (by decide +kernel)) (by decide +kernel) pa (by decide +kernel) (by decide +kernel) hs hpl) (fin calls_all)
        | tuple => exact PE.imp (pe_callTy call_tuple_of (glB_ok h2) (bl_of g (by decide +kernel)) (by decide +kernel) pa (by decide +kernel) (by decide +kernel) hs hpl) (fin calls_tuple)
        | list => exact PE.imp (pe_callTy call_list_of (glB_ok h2) (bl_of g (by decide +kernel)) (by decide +kernel) pa (by decide +kernel) (by decide +kernel) hs hpl) (fin calls_list)
        | str => exact PE.imp (pe_callTy (call_str_int.or SkE.call_str_str) (glB_ok h2) (bl_of g (by decide +kernel)) (by decide +kernel) pa (by decide +kernel) (by decide +kernel) hs hpl) (fin calls_str)
        | int => exact PE.imp (pe_callTy (call_int1.or call_int_str) (glB_ok h2) (bl_of g (by decide +kernel)) (by decide +kernel) pa (by decide +kernel) (by decide +kernel) hs hpl) (fin calls_int)
    | _ => cases h
  | _ => cases h
theorem ty_boot {ty : String} (h : isiK ty = true) : bootBuiltins (Str.ofString ty) = some (.type ty) ∧ (Str.ofString ty == ("__debug__" : Str)) = false ∧ Str.ofString ty ≠ ("__name__" : Str) ∧ (bltNames.any fun y => decide (y = Str.ofString ty)) = true := by
  rcases isiK_cases h with rfl | rfl | rfl | rfl | rfl <;> exact ⟨by decide +kernel, by decide +kernel, by decide +kernel, by decide +kernel⟩
theorem p_isi (g : Cg Fs cA n X W) (ty : String) {a : T} (pa : Pe Fs cA a n X W) : Pe Fs cA (.isi a ty) n X W := .ofV rfl fun ex h => by
  cases ex with
  | Call fe vs ks p =>
    cases fe with
    | Name x p2 =>
      match vs, ks, h with
      | [v, .Name y p3], [], h =>
        have h : (decide (x = ("isinstance" : Str)) && decide (y = Str.ofString ty) && isiK ty && glB X.env.scope x && glB X.env.scope y && chkE X.N Fs X.env.scope a v && pl v) = true := h
        rw [Bool.and_eq_true, Bool.and_eq_true, Bool.and_eq_true, Bool.and_eq_true, Bool.and_eq_true, Bool.and_eq_true, decide_eq_true_eq, decide_eq_true_eq] at h
        obtain ⟨⟨⟨⟨⟨⟨h1, h2⟩, h3⟩, h4⟩, h5⟩, h6⟩, h7⟩ := h
        subst h1 h2
        obtain ⟨b1, b2, b3, b4⟩ := ty_boot h3
        have pn : PE X (.Name (Str.ofString ty) p3) (tC (.ty ty)) := pe_bltn (glB_ok h5) (bl_of g b4) b1 rfl b3 b2
        have pA := pa_cons (pa.e v h6) (pa_cons pn pa_nil (star_pl rfl)) (star_pl h7)
        refine ⟨PE.imp (pe_callB call_isi (glB_ok h4) (bl_of g (by decide +kernel)) (by decide +kernel) pA (by decide +kernel) (by decide +kernel) (star_pl h7) (backTo_any fun e he => by
          have : e = .Name (Str.ofString ty) p3 := by simpa using he
          subst this
          rfl)) fun σ H Q ⟨s, env, e, ok, re, q⟩ => ?_, rfl⟩
        subst e
        refine tE_then ok re q fun s1 d x o1 l1 re1 rx q1 => ?_
        obtain ⟨t, b, z1, z2, z3⟩ := isi_ok o1 rx q1
        exact ⟨x, .ty ty, t, .type ty, b, rfl, .ty ty, z1, z2, z3⟩
    | _ => cases h
  | _ => cases h
theorem isi_typ {K : PySem.W.Frag} {s : Sit} {d : D} {v : V} {ty : String} {b : Bool} {st st' : Store} (ok : s.Ok K) (r : Rep K s d v) (hk : isiK ty = true) (h : isiF d ty st = .ok (.bl b) st') (hs : st = s.st := by rfl) : TyX K s.H v (.type (tyN d)) ∧ b = isiN (tyN d) ty := by
  subst hs
  unfold isiF at h
  rw [if_pos hk] at h
  split at h
  · rename_i l
    split at h
    · rename_i xs hx
      obtain ⟨a, vs, rfl, h1, _⟩ := lstOf_ok ok r hx
      cases h
      exact ⟨.base (.lst h1), rfl⟩
    · cases h
  · cases h
  · cases h
  · cases h
  · rename_i hn hn' hn2 hn3
    cases r with
    | ref z => exact absurd rfl (hn _)
    | ins => exact absurd rfl (hn2 _ _)
    | lr => exact absurd rfl (hn3 _)
    | dat r => cases h; exact ⟨tyX_ok (fun c n e => hn' c n e) r, rfl⟩
theorem p_isi2 (g : Cg Fs cA n X W) (ty ty' : String) {a : T} (pa : Pe Fs cA a n X W) : Pe Fs cA (.isi2 a ty ty') n X W := .ofV rfl fun ex h => by
  simp only [chkE] at h
  split at h
  · skip
    · skip
      · rename_i x p2 v y p3 z p5 k p4 p
        have h : (decide (x = ("isinstance" : Str)) && decide (y = Str.ofString ty) && isiK ty && decide (z = Str.ofString ty') && isiK ty' && glB X.env.scope x && glB X.env.scope y && glB X.env.scope z && chkE X.N Fs X.env.scope a v && pl v) = true := h
        rw [Bool.and_eq_true, Bool.and_eq_true, Bool.and_eq_true, Bool.and_eq_true, Bool.and_eq_true, Bool.and_eq_true, Bool.and_eq_true, Bool.and_eq_true, Bool.and_eq_true, decide_eq_true_eq, decide_eq_true_eq, decide_eq_true_eq] at h
        obtain ⟨⟨⟨⟨⟨⟨⟨⟨⟨h1, h2⟩, h3⟩, k2⟩, k3⟩, h4⟩, h5⟩, k5⟩, h6⟩, h7⟩ := h
        subst h1 h2 k2
        obtain ⟨b1, b2, b3, b4⟩ := ty_boot h3
        obtain ⟨c1, c2, c3, c4⟩ := ty_boot k3
        have pn : PE X (.Name (Str.ofString ty) p3) (tC (.ty ty)) := pe_bltn (glB_ok h5) (bl_of g b4) b1 rfl b3 b2
        have pn' : PE X (.Name (Str.ofString ty') p5) (tC (.ty ty')) := pe_bltn (glB_ok k5) (bl_of g c4) c1 rfl c3 c2
        have pT := pe_tup (X := X) (x1 := k) (pos := p4) (pa_cons pn (pa_cons pn' pa_nil (star_pl rfl)) (star_pl rfl))
        have pA := pa_cons (pa.e v h6) (pa_cons pT pa_nil (star_pl rfl)) (star_pl h7)
        refine ⟨PE.imp (pe_callB call_isiT (glB_ok h4) (bl_of g (by decide +kernel)) (by decide +kernel) pA (by decide +kernel) (by decide +kernel) (star_pl h7) (backTo_any fun e he => by
          have : e = .Tuple [.Name (Str.ofString ty) p3, .Name (Str.ofString ty') p5] k p4 := by simpa using he
          subst this
          rfl)) fun σ H Q ⟨s, env, e, ok, re, q⟩ => ?_, rfl⟩
        subst e
        refine tE_then ok re q fun s1 d x o1 l1 re1 rx q1 => ?_
        refine ⟨by simp [sizeLine], fun p hp => ?_⟩
        unfold isi2F at q1
        split at q1
        · rename_i b st1 c st2 e1 e2
          have o2 : (s1.put p (.tup [.ty ty, .ty ty'])).Ok X.K := Sit.put_ok o1 hp
          have l2 : s1.Le (s1.put p (.tup [.ty ty, .ty ty'])) := Sit.put_le hp
          have rx2 := rx.le o1 l2
          obtain ⟨hx, hb⟩ := isi_typ (s := s1.put p (.tup [.ty ty, .ty ty'])) o2 rx2 h3 e1
          obtain ⟨_, hc⟩ := isi_typ (s := s1.put p (.tup [.ty ty, .ty ty'])) o2 rx2 k3 e2
          refine ⟨x, p, [.ty ty, .ty ty'], _, [.type ty, .type ty'], b || c, rfl, upd_same, .cons (.ty _) (.cons (.ty _) .nil), hx, ?_, q1 (s1.put p (.tup [.ty ty, .ty ty'])) rfl o2 l2 _ (.dat (.bl _))⟩
          refine kitAny_cons (b := b) (kit_ty (by rw [isiN_ok h3, hb])) (fun e => kitAny_cons (b := c) (kit_ty (by rw [isiN_ok k3, hc])) (fun e' => ?_) fun e' => ?_) fun e => ?_
          · rw [e, e']; exact kitAny_nil
          · rw [e']; cases b <;> rfl
          · rw [e]; rfl
        · exact q1.elim
  · cases h
theorem frz_ok {K : PySem.W.Frag} {s : Sit} {σ : L2.St} {d : D} {v : V} {Q : VK} (ok : s.Ok K) (r : Rep K s d v) (h : Post K cA s σ W (frzF d s.st) (PQ K Q)) : Q v s.H := by
  unfold frzF at h
  split at h
  · rename_i l
    split at h
    · rename_i xs hc
      cases r with
      | ref ha =>
        rename_i a
        obtain ⟨vs, h1, r1⟩ := ok.cell l _ a hc ha
        exact h (s.kill l xs) rfl (Sit.kill_ok ok hc) Sit.kill_le (.ref a) (.dat (.lst h1 (Sit.kill_no ok ha) (r1.le ok Sit.kill_le)))
      | dat r => cases r
    · rename_i xs hc
      cases r with
      | ref ha =>
        rename_i a
        obtain ⟨vs, h1, r1⟩ := ok.cell l _ a hc ha
        refine h s rfl ok (Sit.Le.refl s) (.ref a) (.dat (.lst h1 ?_ r1))
        rintro ⟨j, c, h2, hm, h3⟩
        have e := nodup_at ok.nd h3 ha
        subst e
        rw [h2] at hc
        cases hc
        cases hm
      | dat r => cases r
    · exact h.elim
  · exact post_val ok h r
theorem p_frz {a : T} (pa : Pe Fs cA a n X W) : Pe Fs cA (.frz a) n X W := by
  refine .of rfl (fun ex h => ?_) fun ex h z => by cases z
  have h : (chkE X.N Fs X.env.scope a ex && !isComp ex) = true := h
  rw [Bool.and_eq_true] at h
  refine PE.imp (pa.e ex h.1) fun σ H Q ⟨s, env, e, ok, re, q⟩ => ?_
  subst e
  exact tE_then ok re q fun s1 d x o1 l1 re1 rx q1 => frz_ok o1 rx q1
end
end Zn

/-! Zn, part I: instances: fields, methods, instances made; lists of instances and lists of our own. -/
namespace Zn
open PySem PySem.Spec PyProof.Rows L2
section
variable {Fs : List Fn} {cA : Nat → Option Addr} {n : Nat} {X : Cx} {W : WX}
theorem zip_lookup : ∀ {ns : List Str} {vs : List V} {k : Nat} {f : Str} {v : V}, ns.Nodup → ns[k]? = some f → vs[k]? = some v → (ns.zip vs).lookup f = some v
  | [], _, _, _, _, _, h, _ => by simp at h
  | _ :: _, [], _, _, _, _, _, h => by simp at h
  | x :: ns, w :: vs, 0, f, v, _, h1, h2 => by
    simp at h1 h2
    subst h1 h2
    simp [List.lookup]
  | x :: ns, w :: vs, k + 1, f, v, nd, h1, h2 => by
    have h1 : ns[k]? = some f := by simpa using h1
    have h2 : vs[k]? = some v := by simpa using h2
    obtain ⟨n1, n2⟩ := List.nodup_cons.mp nd
    have ne : f ≠ x := fun e => n1 (e ▸ List.mem_of_getElem? h1)
    have : (f == x) = false := by simpa using ne
    rw [List.zip_cons_cons, List.lookup_cons, this]
    exact zip_lookup n2 h1 h2
theorem zip_none : ∀ {ns : List Str} {vs : List V} {f : Str}, f ∉ ns → (ns.zip vs).lookup f = none
  | [], _, _, _ => rfl
  | _ :: _, [], _, _ => rfl
  | x :: ns, w :: vs, f, h => by
    have ne : f ≠ x := fun e => h (e ▸ List.mem_cons_self)
    have : (f == x) = false := by simpa using ne
    rw [List.zip_cons_cons, List.lookup_cons, this]
    exact zip_none fun m => h (List.mem_cons_of_mem _ m)
theorem fdN_nd (c : Nat) : (fdN c).Nodup := by
  match c with
  | 0 => decide +kernel
  | _ + 1 => show (["desk_makes", "desk_bounds"] : List Str).Nodup; decide +kernel
theorem InsK.uniq {K : PySem.W.Frag} {C C' : Addr} {c : Nat} (a : InsK K C c) (b : InsK K C' c) : C = C' := by
  have := a.at_.symm.trans b.at_
  cases this
  rfl
theorem p_fld (c k : Nat) {a : T} (pa : Pe Fs cA a n X W) : Pe Fs cA (.fld c k a) n X W := .ofV rfl fun ex h => by
  cases ex with
  | Attribute v x p =>
    have h : (decide ((fdN c)[k]? = some x) && chkE X.N Fs X.env.scope a v && atB v && pl v) = true := h
    rw [Bool.and_eq_true, Bool.and_eq_true, Bool.and_eq_true, decide_eq_true_eq] at h
    obtain ⟨⟨⟨h1, h2⟩, h3⟩, h4⟩ := h
    refine ⟨PE.imp (pe_fld (pa.e v h2) (at_pl h3)) fun σ H Q ⟨s, env, e, ok, re, q⟩ => ?_, rfl⟩
    subst e
    refine tE_then ok re q fun s1 d y o1 l1 re1 ry q1 => ?_
    unfold fldF at q1
    split at q1
    · split at q1
      · rename_i e
        subst e
        split at q1
        · rename_i w hw
          cases ry with
          | @ins a C dx _ ds vs ha hn hk hl hv =>
            have hj : k < vs.length := by rw [← hl]; exact (List.getElem?_eq_some_iff.mp hw).1
            have h6 := List.getElem?_eq_getElem hj
            exact ⟨a, C, dx, _, vs[k], rfl, ha, hk.cl, hk.nf x (List.mem_of_getElem? h1), zip_lookup (fdN_nd _) h1 h6, post_val o1 q1 (hv k w _ hw h6)⟩
          | dat r => cases r
        · exact q1.elim
      · exact q1.elim
    · exact q1.elim
  | _ => cases h
theorem p_meth (g : Cg Fs cA n X W) (c f : Nat) (m : Bool) {a t : T} (pa : Pe Fs cA a n X W) (pe : Pe Fs cA t n X W) : Pe Fs cA (.meth c f m a t) n X W := .ofV rfl fun ex h => by
  cases ex with
  | Call fe vs ks p =>
    cases fe with
    | Attribute v x apos =>
      match ks, h with
      | [], h =>
        have h : ((match Fs[f]? with
          | some fn => decide (fn.name = x) && !fn.isC && fn.isM && decide (clsM x = c) && decide (x ∉ fdN c)
          | none => false) && (apos.endLine == p.line) && chkE X.N Fs X.env.scope a v && atB v && pl v && chkEs X.N Fs X.env.scope t vs && decide (vs.length < 20)) = true := h
        rw [Bool.and_eq_true, Bool.and_eq_true, Bool.and_eq_true, Bool.and_eq_true, Bool.and_eq_true, Bool.and_eq_true, decide_eq_true_eq] at h
        obtain ⟨⟨⟨⟨⟨⟨h1, h2⟩, h3⟩, h4⟩, h5⟩, h6⟩, h7⟩ := h
        split at h1
        · rename_i fn hf
          rw [Bool.and_eq_true, Bool.and_eq_true, Bool.and_eq_true, Bool.and_eq_true, decide_eq_true_eq, decide_eq_true_eq, decide_eq_true_eq, Bool.not_eq_true'] at h1
          obtain ⟨⟨⟨⟨e1, hC⟩, hM⟩, e2⟩, hx⟩ := h1
          subst e1
          obtain ⟨C, fa, fd, IK, MT, hb, F⟩ := g.me f fn hf hC hM
          rw [e2] at IK
          obtain ⟨pA, hp⟩ := pe.a _ h6
          have h0 : vs = [] → ∀ σ H Q, tA X.K cA (cf Fs n) W t σ H Q → Q [] H := fun e σ H Q ⟨s, env, eH, ok, re, q⟩ => by
            subst e
            subst eH
            cases t with
            | nil => exact post_ok ok (show Post X.K cA s σ W (.ok [] s.st) _ from q) [] .nil
            | _ => cases h6
          refine ⟨PE.imp (pe_methS (E := WE W) (pa.e v h3) IK.cl MT F g.room hb (fun σ => passAt g.takes σ) pA (at_pl h4) h2 hp h7 h0) fun σ H Q ⟨s, env, e, ok, re, q⟩ => ?_, rfl⟩
          subst e
          refine tE_then ok re q fun s1 d y o1 l1 re1 ry q1 => ?_
          split at q1
          · rename_i hi
            unfold isIns at hi
            split at hi
            · rename_i c' ds
              rw [decide_eq_true_eq] at hi
              subst hi
              cases ry with
              | @ins b C' dx _ _ ws ha hn hk hl hv =>
                cases IK.uniq hk
                refine ⟨b, dx, _, rfl, ha, zip_none hx, tA_then o1 re1 q1 fun s2 es xs o2 l2 re2 rxs q2 => ⟨s2, .ins c' ds :: es, rfl, o2, .cons (Rep.le o1 l2 (.ins ha hn hk hl hv)) rxs, ?_⟩⟩
                cases r : cf Fs n f (.ins c' ds :: es) s2.st with
                | ok a st =>
                  rw [r] at q2
                  intro t h1 h2 h3 v hv
                  have q3 : Post X.K cA s2 σ W (callEnd m s2.st.length a st) (PQ X.K Q) := q2
                  rw [← h1] at q3
                  exact cut_post o2 h2 h3 hv q3
                | exc x st =>
                  rw [r] at q2
                  exact q2
                | err =>
                  rw [r] at q2
                  exact q2
              | dat r => cases r
            · cases hi
          · exact q1.elim
        · cases h1
    | _ => cases h
  | _ => cases h
theorem mkH0_pt {H H' : Hp} {a C dx : Addr} {x : V} {p q r c : Addr} (h : c ≠ a → H c = H' c) : mkH0 H a C dx x p q r c = mkH0 H' a C dx x p q r c := by
  unfold mkH0
  by_cases e : c = a
  · subst e; rw [upd_same, upd_same]
  · rw [upd_ne e, upd_ne e]
    by_cases e7 : c = r
    · subst e7; rw [upd_same, upd_same]
    · rw [upd_ne e7, upd_ne e7]
      by_cases e8 : c = q
      · subst e8; rw [upd_same, upd_same]
      · rw [upd_ne e8, upd_ne e8]
        by_cases e9 : c = p
        · subst e9; rw [upd_same, upd_same]
        · rw [upd_ne e9, upd_ne e9, h e]
theorem mk0_ok {K : PySem.W.Frag} {s : Sit} {C : Addr} {d : D} {y : V} (ok : s.Ok K) (IK : InsK K C 0) (rd : RD K s.H s.M d y) {b dx p q r : Addr} (hb : s.H b = none) (hdx : s.H dx = none) (hp : s.H p = none) (hq : s.H q = none) (hr : s.H r = none)
    (n1 : dx ≠ b) (n2 : p ≠ b) (n3 : p ≠ dx) (n4 : q ≠ b) (n5 : q ≠ dx) (n6 : r ≠ b) (n7 : r ≠ dx) (n8 : q ≠ p) (n9 : r ≠ p) (n10 : r ≠ q) :
    ∃ s' : Sit, s'.H = mkH0 (upd s.H dx (.own b)) b C dx y p q r ∧ s'.st = s.st ++ [some (.lst [.non]), some (.lst [.lst []])] ∧ s'.Ok K ∧ s.Le s' ∧ Rep K s' (.ins 0 [d, .ref s.st.length, .ref (s.st.length + 1)]) (.ref b) := by
  have o1 := Sit.put_ok ok (o := .own b) hdx
  have l1 := Sit.put_le (s := s) (o := .own b) hdx
  have hp1 : (s.put dx (.own b)).H p = none := by show upd s.H dx _ p = none; rw [upd_ne n3, hp]
  have o2 : ((s.put dx (.own b)).new p [.non] [.non]).Ok K := Sit.new_ok o1 hp1 (.cons .non .nil)
  have l2 : (s.put dx (.own b)).Le ((s.put dx (.own b)).new p [.non] [.non]) := Sit.new_le o1 hp1
  have hq2 : ((s.put dx (.own b)).new p [.non] [.non]).H q = none := by show upd (upd s.H dx _) p _ q = none; rw [upd_ne n8, upd_ne n5, hq]
  have o3 := Sit.put_ok o2 (o := .lst []) hq2
  have l3 := Sit.put_le (s := ((s.put dx (.own b)).new p [.non] [.non])) (o := .lst []) hq2
  have hr3 : (((s.put dx (.own b)).new p [.non] [.non]).put q (.lst [])).H r = none := by show upd (upd (upd s.H dx _) p _) q _ r = none; rw [upd_ne n10, upd_ne n9, upd_ne n7, hr]
  have o4 : ((((s.put dx (.own b)).new p [.non] [.non]).put q (.lst [])).new r [.lst []] [.ref q]).Ok K := Sit.new_ok o3 hr3 (.cons (.lst upd_same (fun m => Sit.notM o2 hq2 m) .nil) .nil)
  have l4 : (((s.put dx (.own b)).new p [.non] [.non]).put q (.lst [])).Le ((((s.put dx (.own b)).new p [.non] [.non]).put q (.lst [])).new r [.lst []] [.ref q]) := Sit.new_le o3 hr3
  have hb4 : ((((s.put dx (.own b)).new p [.non] [.non]).put q (.lst [])).new r [.lst []] [.ref q]).H b = none := by
    show upd (upd (upd (upd s.H dx _) p _) q _) r _ b = none
    rw [upd_ne (Ne.symm n6), upd_ne (Ne.symm n4), upd_ne (Ne.symm n2), upd_ne (Ne.symm n1), hb]
  have o5 := Sit.put_ok o4 (o := .ins C dx [("own_bounds", y), ("kept_trees", .ref p), ("ahead_of", .ref r)]) hb4
  have l5 := Sit.put_le (s := ((((s.put dx (.own b)).new p [.non] [.non]).put q (.lst [])).new r [.lst []] [.ref q])) (o := .ins C dx [("own_bounds", y), ("kept_trees", .ref p), ("ahead_of", .ref r)]) hb4
  have l05 := (((l1.trans l2).trans l3).trans l4).trans l5
  refine ⟨_, rfl, ?_, o5, l05, ?_⟩
  · show (s.st ++ [_]) ++ [_] = _
    rw [List.append_assoc]; rfl
  · refine .ins (vs := [y, .ref p, .ref r]) (C := C) (dx := dx) upd_same (fun m => Sit.notM o4 hb4 m) IK rfl fun i e v h1 h2 => ?_
    have hlen : s.r.length = s.st.length := ok.len
    match i, h1, h2 with
    | 0, h1, h2 => cases h1; cases h2; exact .dat (rd.le ok l05)
    | 1, h1, h2 =>
      cases h1; cases h2
      refine .ref ?_
      show ((s.r ++ [p]) ++ [r])[s.st.length]? = some p
      rw [List.append_assoc, ← hlen]
      simp
    | 2, h1, h2 =>
      cases h1; cases h2
      refine .ref ?_
      show ((s.r ++ [p]) ++ [r])[s.st.length + 1]? = some r
      rw [← hlen]
      rw [List.getElem?_append_right (by simp)]
      simp
    | i + 3, h1, _ => simp at h1
theorem p_mkI (g : Cg Fs cA n X W) (c : Nat) {a : T} (pa : Pe Fs cA a n X W) : Pe Fs cA (.mkI c a) n X W := .ofV rfl fun ex h => by
  cases ex with
  | Call fe vs ks p =>
    cases fe with
    | Name x p2 =>
      match vs, ks, h with
      | [v], [], h =>
        have h : (decide (clN c = x) && decide (c < 2) && usesC Fs c && glB X.env.scope x && nmOk x && chkE X.N Fs X.env.scope a v && pl v) = true := h
        rw [Bool.and_eq_true, Bool.and_eq_true, Bool.and_eq_true, Bool.and_eq_true, Bool.and_eq_true, Bool.and_eq_true, decide_eq_true_eq, decide_eq_true_eq] at h
        obtain ⟨⟨⟨⟨⟨⟨h1, h2⟩, h3⟩, h4⟩, h5⟩, h6⟩, h7⟩ := h
        subst h1
        obtain ⟨C, f, fd, IK, MK, hm, hb, F⟩ := g.mkI c h2 h3
        refine ⟨PE.imp (pe_make (E := fun _ _ _ => False) MK F (g.room.mono (by omega)) (glB_ok h4) hm hb .nil (fun pins σ H s e s' I c => passAt takes0 σ pins H s e s' I c) (pa_cons (pa.e v h6) pa_nil (star_pl h7)) (nmOk_ok h5).1 (star_pl h7) rfl) fun σ H Q ⟨s, env, e, ok, re, q⟩ => ?_, rfl⟩
        subst e
        refine tE_then ok re q fun s1 d y o1 l1 re1 ry q1 => fun b dx hb hdx hne => ?_
        unfold mkIF at q1
        split at q1
        · exact q1.elim
        · rename_i hd
          have rd := ry.rd (by simpa using hd)
          match c, h2 with
          | 0, _ =>
            refine ⟨b, C, dx, y, rfl, IK, upd_same, fun p q r hp hq hr k1 k2 k3 => ⟨rfl, ?_⟩⟩
            obtain ⟨e1, hp⟩ := upd_non hp
            obtain ⟨e2, hp⟩ := upd_non hp
            obtain ⟨e3, hq⟩ := upd_non hq
            obtain ⟨e4, hq⟩ := upd_non hq
            obtain ⟨e5, hr⟩ := upd_non hr
            obtain ⟨e6, hr⟩ := upd_non hr
            obtain ⟨s', eH, eS, o', l', rp⟩ := mk0_ok o1 IK rd hb hdx hp hq hr hne e1 e2 e3 e4 e5 e6 k1 k2 k3
            have := q1 s' eS o' l' (.ref b) rp
            rw [eH] at this
            have eM : mkH0 (upd (upd s1.H dx (.own b)) b (.ins C dx [])) b C dx y p q r = mkH0 (upd s1.H dx (.own b)) b C dx y p q r := by
              funext c
              exact mkH0_pt fun e => upd_ne e
            rw [eM]
            exact this
          | 1, _ =>
            refine ⟨b, C, dx, y, rfl, IK, upd_same, fun b0 C0 db p q r I0 hb0 hdb hp hq hr m1 m2 m3 m4 m5 m6 m7 k1 k2 k3 => ⟨rfl, ?_⟩⟩
            obtain ⟨f1, hb0⟩ := upd_non hb0
            obtain ⟨f2, hb0⟩ := upd_non hb0
            obtain ⟨f3, hdb⟩ := upd_non hdb
            obtain ⟨f4, hdb⟩ := upd_non hdb
            obtain ⟨e1, hp⟩ := upd_non hp
            obtain ⟨e2, hp⟩ := upd_non hp
            obtain ⟨e3, hq⟩ := upd_non hq
            obtain ⟨e4, hq⟩ := upd_non hq
            obtain ⟨e5, hr⟩ := upd_non hr
            obtain ⟨e6, hr⟩ := upd_non hr
            have oA := Sit.put_ok o1 (o := .own b) hdx
            have lA := Sit.put_le (s := s1) (o := .own b) hdx
            have up : ∀ {z : Addr}, z ≠ dx → s1.H z = none → (s1.put dx (.own b)).H z = none := fun {z} h1 h2 => by show upd s1.H dx _ z = none; rw [upd_ne h1, h2]
            obtain ⟨s', eH, eS, o', l', rp⟩ := mk0_ok oA I0 (rd.le o1 lA) (up f2 hb0) (up f4 hdb) (up e2 hp) (up e4 hq) (up e6 hr) m1 m2 m3 m4 m5 m6 m7 k1 k2 k3
            have hbs : s'.H b = none := by
              rw [eH]
              unfold mkH0
              rw [upd_ne (Ne.symm f1), upd_ne (Ne.symm e5), upd_ne (Ne.symm e3), upd_ne (Ne.symm e1), upd_ne (Ne.symm f3)]
              show upd s1.H dx _ b = none
              rw [upd_ne (Ne.symm hne), hb]
            have o5 := Sit.put_ok o' (o := .ins C dx [("desk_makes", .ref b0), ("desk_bounds", y)]) hbs
            have l5 := Sit.put_le (s := s') (o := .ins C dx [("desk_makes", .ref b0), ("desk_bounds", y)]) hbs
            have l05 := (lA.trans l').trans l5
            have := q1 (s'.put b (.ins C dx [("desk_makes", .ref b0), ("desk_bounds", y)])) eS o5 l05 (.ref b) (.ins (vs := [.ref b0, y]) (C := C) (dx := dx) upd_same (fun m => Sit.notM o' hbs m) IK rfl fun i e v h1 h2 => by
              match i, h1, h2 with
              | 0, h1, h2 => cases h1; cases h2; exact rp.le o' l5
              | 1, h1, h2 => cases h1; cases h2; exact .dat (rd.le o1 l05)
              | i + 2, h1, _ => simp at h1)
            have eM : mkH1 (upd (upd s1.H dx (.own b)) b (.ins C dx [])) b C dx y b0 C0 db p q r = upd s'.H b (.ins C dx [("desk_makes", .ref b0), ("desk_bounds", y)]) := by
              unfold mkH1
              funext c
              by_cases e : c = b
              · subst e; rw [upd_same, upd_same]
              · rw [upd_ne e, upd_ne e, eH]
                refine mkH0_pt fun _ => ?_
                by_cases e' : c = db
                · subst e'; rw [upd_same, upd_same]
                · rw [upd_ne e', upd_ne e', upd_ne e]
                  rfl
            rw [eM]
            exact this
    | _ => cases h
  | _ => cases h
theorem p_lrs {t : T} (pe : Pe Fs cA t n X W) : Pe Fs cA (.lrs t) n X W := .ofV rfl fun ex h => by
  cases ex with
  | List vs p =>
    have h : chkEs X.N Fs X.env.scope t vs = true := h
    obtain ⟨pA, hp⟩ := pe.a vs h
    refine ⟨PE.imp (pe_lst pA) fun σ H Q ⟨s, env, e, ok, re, q⟩ => ?_, rfl⟩
    subst e
    refine tA_then ok re q fun s1 ds xs o1 l1 re1 rxs q1 => ?_
    unfold lrF at q1
    split at q1
    · rename_i hz
      refine ⟨by rw [← rxs.length]; exact hz, fun b hb => ?_⟩
      have o2 := Sit.put_ok o1 (o := .lst xs) hb
      have l2 := Sit.put_le (s := s1) (o := .lst xs) hb
      refine q1 (s1.put b (.lst xs)) rfl o2 l2 (.ref b) (.lr upd_same (fun m => Sit.notM o1 hb m) rxs.length fun i d v h1 h2 => ?_)
      have key : ∀ {ds : List D} {xs : List V}, Reps X.K s1 ds xs → ∀ (i : Nat) (d : D) (v : V), ds[i]? = some d → xs[i]? = some v → Rep X.K s1 d v := by
        intro ds xs r
        induction r with
        | nil => intro i d v h; simp at h
        | cons a _ ih =>
          intro i d v h1 h2
          cases i with
          | zero => simp at h1 h2; subst h1 h2; exact a
          | succ i => exact ih i d v (by simpa using h1) (by simpa using h2)
      exact (key rxs i d v h1 h2).le o1 l2
    · exact q1.elim
  | _ => cases h
end
section
variable {Fs : List Fn} {cA : Nat → Option Addr} {n : Nat} {X : Cx} {W : WX}
theorem strsOf_ok : ∀ {xs : List D} {ns : List Str}, strsOf xs = some ns → xs = ns.map D.str
  | [], ns, h => by cases h; rfl
  | .str i :: r, ns, h => by
    unfold strsOf at h
    cases e : strsOf r with
    | none => rw [e] at h; cases h
    | some ms =>
      rw [e] at h
      cases h
      rw [strsOf_ok e]
      rfl
theorem rds_strs {K : PySem.W.Frag} {H : Hp} {M : Addr → Prop} : ∀ (ys : List Str), RDs K H M (ys.map D.str) (ys.map V.str)
  | [] => .nil
  | y :: ys => .cons (.str y) (rds_strs ys)
theorem isStr_ok {K : PySem.W.Frag} {s : Sit} {d : D} {v : V} (h : isStr d = true) (r : Rep K s d v) : ∃ a, d = .str a ∧ v = .str a := by
  cases d with
  | str a => exact ⟨a, rfl, rep_str r⟩
  | _ => cases h
theorem p_smth (k : Nat) (m : Bool) {o e : T} (pa : Pe Fs cA o n X W) (pe : Pe Fs cA e n X W) : Pe Fs cA (.smth k m o e) n X W := .ofV rfl fun ex h => by
  simp only [chkE] at h
  split at h
  · rename_i v x apos w p
    simp only [Bool.and_eq_true, decide_eq_true_eq] at h
    obtain ⟨⟨⟨⟨⟨h1, h2⟩, h3⟩, h4⟩, h5⟩, h6⟩ := h
    have hs : starEach [w] X.env = [(false, eval w X.env)] := by rw [star_pl h6]; rfl
    by_cases hk : k = 0
    · subst hk
      rw [if_pos rfl] at h1
      subst h1
      refine ⟨PE.imp (pe_join (pa.e v h3) (pe.e w h5) hs (at_pl h4) h2) fun σ H Q ⟨s, env, e0, ok, re, q⟩ => ?_, rfl⟩
      subst e0
      have q0 : Post X.K cA s σ W ((ev (cf Fs n) o env s.st).bind fun x st1 => if isStr x = true then (ev (cf Fs n) e env st1).bind fun y st2 => smF 0 m x y st2 else .err) (PQ X.K Q) := q
      refine tE_then ok re q0 fun s1 d x o1 l1 re1 rx q1 => ?_
      split at q1
      · rename_i hd
        obtain ⟨a, rfl, rfl⟩ := isStr_ok hd rx
        refine ⟨⟨a, rfl⟩, tE_then o1 re1 q1 fun s2 d2 y o2 l2 re2 ry q2 => ?_⟩
        unfold smF at q2
        simp only [if_pos] at q2
        split at q2
        · rename_i ys hy
          split at q2
          · rename_i hz
            obtain ⟨zs, hl, hns⟩ := Option.bind_eq_some_iff.mp hy
            obtain ⟨b, ws, rfl, hb, rb⟩ := lstOf_ok o2 ry hl
            rw [strsOf_ok hns] at rb
            rw [rb.strs] at hb
            exact ⟨a, b, ys, rfl, rfl, .inl (SqL.of hb), hz, post_val o2 q2 (.dat (.str _))⟩
          · exact q2.elim
        · exact q2.elim
      · exact q1.elim
    · rw [if_neg hk] at h1
      subst h1
      refine ⟨PE.imp (pe_split (pa.e v h3) (pe.e w h5) hs (at_pl h4) h2) fun σ H Q ⟨s, env, e0, ok, re, q⟩ => ?_, rfl⟩
      subst e0
      have q0 : Post X.K cA s σ W ((ev (cf Fs n) o env s.st).bind fun x st1 => if isStr x = true then (ev (cf Fs n) e env st1).bind fun y st2 => smF k m x y st2 else .err) (PQ X.K Q) := q
      refine tE_then ok re q0 fun s1 d x o1 l1 re1 rx q1 => ?_
      split at q1
      · rename_i hd
        obtain ⟨a, rfl, rfl⟩ := isStr_ok hd rx
        refine ⟨⟨a, rfl⟩, tE_then o1 re1 q1 fun s2 d2 y o2 l2 re2 ry q2 => ?_⟩
        unfold smF at q2
        simp only [if_neg hk] at q2
        split at q2
        · rename_i b
          split at q2
          · rename_i hz
            exact ⟨a, b, rfl, by rw [rep_str ry], hz.1, hz.2, post_mk o2 (rds_strs _) q2⟩
          · exact q2.elim
        · exact q2.elim
      · exact q1.elim
  · cases h
end
end Zn

/-! Zn, part 9: methods, comprehensions; every expression. -/
namespace Zn
open PySem PySem.Spec PyProof.Rows L2
section
variable {X : Cx}
def eqbV (b : Bool) (v : Value) : Bool := match v with
  | .bool a => a == b
  | _ => false
theorem vals_bls : ∀ {bs : List Bool} {us : List Value}, Vals (bs.map V.bl) us → us = bs.map Value.bool
  | [], _, .nil => rfl
  | b :: bs, _, .cons h r => by
    have h : _ = Value.bool b := h
    rw [h, vals_bls r]; rfl
theorem eqb_count (b : Bool) : ∀ bs : List Bool, (bs.map Value.bool).countP (eqbV b) = bs.count b
  | [] => rfl
  | a :: bs => by
    rw [List.map_cons, List.countP_cons, List.count_cons, eqb_count b bs]; rfl
def rCntB (K : PySem.W.Frag) : V → List V → Hp → VK → Prop := fun x xs H Q => ∃ (p : Addr) (bs : List Bool) (b : Bool), x = .ref p ∧ xs = [.bl b] ∧ SqL K H p (bs.map V.bl) ∧ Q (.int (bs.count b : Nat)) H
theorem mt_lcntB : MtR X "list.count" (rCntB X.K) := by
  intro pins s σ H x xs v us Q I rx rxs h
  obtain ⟨p, bs, b, rfl, rfl, hs, q⟩ := h
  cases rx
  obtain ⟨u, rfl, ru⟩ := rxs.one
  have ru : u = Value.bool b := ru
  subst ru
  obtain ⟨its, rv, ⟨⟨cls, dd, data, sl⟩, n, ho, hc, hdn, hd⟩, hlen⟩ := I.list hs
  simp only at hc hd
  subst hc hd
  have hi := vals_bls rv
  subst hi
  refine call_meets PySem.F.slot_list_count ⟨_, ho, rfl⟩ PySem.F.entry_list_count (PySem.F.args_list_count_2 _ _)
    (SeqAt.list_countAt p (bs.map Value.bool).toArray n dd sl (.bool b) (eqbV b)) ⟨ho, fun y hy => ?_, ?_⟩
  · obtain ⟨a, _, rfl⟩ := List.mem_map.mp (show y ∈ bs.map Value.bool by simpa using hy)
    exact SeqAt.EqAt.bool_bool a b
  have ec : (bs.map Value.bool).toArray.toList.countP (eqbV b) = bs.count b := eqb_count b bs
  refine ⟨.int (bs.count b : Nat), H, I.tok _, ⟨s.toks, ?_⟩, q⟩
  show Value.int (((bs.map Value.bool).toArray.toList.countP (eqbV b) : Nat) : Int) s.toks = Value.int ((bs.count b : Nat) : Int) s.toks
  rw [ec]
theorem mt_lcntX : MtR X "list.count" (fun x xs H Q => rCntI X.K x xs H Q ∨ rCntB X.K x xs H Q) := by
  intro pins s σ H x xs v us Q I rx rxs h
  rcases h with h | h
  · exact mt_lcount pins s σ H x xs v us Q I rx rxs h
  · exact mt_lcntB pins s σ H x xs v us Q I rx rxs h
end
section
variable {Fs : List Fn} {cA : Nat → Option Addr} {n : Nat} {X : Cx} {W : WX}

theorem chg_post {K : PySem.W.Frag} {s : Sit} {σ : L2.St} {d : D} {v : V} {Q : VK} {l : Nat} {a : Addr} {c : List D} {xs : List D} {vs : List V} (ok : s.Ok K) (hc : s.st[l]? = some (some (.lst c))) (ha : s.r[l]? = some a) (r : RDs K s.H s.M xs vs) (rd : RD K s.H s.M d v)
    (h : Post K cA s σ W (.ok d (s.st.set l (some (.lst xs)))) (PQ K Q)) : Q v (upd s.H a (.lst vs)) :=
  h (s.chg l a xs vs) rfl (Sit.chg_ok ok hc ha r) (Sit.chg_le ok hc ha) v (.dat (rd.le ok (Sit.chg_le ok hc ha)))
theorem RDs.snoc {K : PySem.W.Frag} {H : Hp} {M : Addr → Prop} {xs : List D} {vs : List V} {d : D} {v : V} (r : RDs K H M xs vs) (h : RD K H M d v) : RDs K H M (xs ++ [d]) (vs ++ [v]) := r.append (.cons h .nil)
theorem RDs.eraseIdx {K : PySem.W.Frag} {H : Hp} {M : Addr → Prop} {xs : List D} {vs : List V} (r : RDs K H M xs vs) (k : Nat) : RDs K H M (xs.eraseIdx k) (vs.eraseIdx k) := by
  rw [List.eraseIdx_eq_take_drop_succ, List.eraseIdx_eq_take_drop_succ]
  exact (r.take k).append (r.drop (k + 1))
theorem RDs.dropLast {K : PySem.W.Frag} {H : Hp} {M : Addr → Prop} {xs : List D} {vs : List V} (r : RDs K H M xs vs) : RDs K H M xs.dropLast vs.dropLast := by
  rw [List.dropLast_eq_take, List.dropLast_eq_take, ← r.length]
  exact r.take _
theorem idxI_ok {k : Int} : ∀ {ns : List Int} {j : Nat}, idxI k ns = some j → ns[j]? = some k ∧ ∀ (m : Nat) (z : Int), m < j → ns[m]? = some z → z ≠ k
  | [], _, h => by cases h
  | x :: xs, j, h => by
    unfold idxI at h
    split at h
    · rename_i e
      cases h
      exact ⟨by simp [e], fun m z hm => absurd hm (by omega)⟩
    · rename_i e
      obtain ⟨i, hi, rfl⟩ := Option.map_eq_some_iff.mp h
      obtain ⟨h1, h2⟩ := idxI_ok hi
      refine ⟨by simpa using h1, fun m z hm hz => ?_⟩
      cases m with
      | zero => simp at hz; rw [← hz]; exact e
      | succ m => exact h2 m z (by omega) (by simpa using hz)
theorem ext_byTup (l b : Addr) (xs ys : Array Value) (n k : Nat) (dd : Option Addr) (sl : Array (Option Value)) (h0 : ¬(!xs.isEmpty && Builtin.List.listTooLong (xs.size + ys.size)) = true) (h1 : xs.size ≤ sizeLine) (h2 : xs.size + ys.size ≤ sizeLine + 1) :
    Meets (Builtin.«list.extend» ⟨[.ref l, .ref b], []⟩) (fun _ R s => s.heap.get? l = some ⟨.type "list", none, .seq xs n, #[]⟩ ∧ s.heap.get? b = some ⟨.type "tuple", dd, .seq ys k, sl⟩ ∧
      R (.ok (.ret Value.none)) { s with heap := s.heap.update l (Obj.mapSeq fun z => z ++ ys), toks := s.toks }) := .of_wp fun prog w A R s hh => by
  obtain ⟨hp, g, d, tk, os⟩ := s
  obtain ⟨el, eb, q⟩ := hh
  have u1 := PySem.AutoSeq1.idx_int
  have u2 := PySem.AutoSeq1.sub_tuple_tuple
  have u3 := PySem.AutoSeq1.sub_list_list
  have u4 := PySem.AutoSeq1.sub_tuple_list
  have u5 := PySem.AutoSeq1.sub_list_tuple
  have hq : (xs ++ ys).size ≤ sizeLine + 1 := by rw [Array.size_append]; exact h2
  wp_walk using (wpAny_updateSeq el rfl (hz := h1) (_hz' := hq)),
    wpAny_loadPart' el, wpAny_loadPart' eb
  exact ⟨_, rfl, q⟩
def rExtT : V → List V → Hp → VK → Prop := fun x vs H Q => ∃ l b xs zs, x = .ref l ∧ vs = [.ref b] ∧ H l = some (.lst xs) ∧ H b = some (.tup zs) ∧ xs.length + zs.length ≤ sizeLine ∧ Q .non (upd H l (.lst (xs ++ zs)))
theorem mt_extT : MtM X "list.extend" rExtT := by
  intro pins s σ H x vs v us Q I rx rv h
  obtain ⟨l, b, xs, zs, rfl, rfl, hH, hB, hz, q⟩ := h
  cases rx
  obtain ⟨u, rfl, ru⟩ := rv.one
  cases ru
  obtain ⟨_, its, n, r, hl, e⟩ := I.lstM hH
  obtain ⟨_, ys, r2, ⟨⟨cls, dd, data, sl⟩, e2, hc, k, hd⟩⟩ := I.hok b _ hB
  simp only at hc hd
  subst hc hd
  have l2 := r2.length
  have z1 : its.toArray.size + ys.toArray.size ≤ sizeLine := by rw [List.size_toArray, List.size_toArray]; omega
  refine call_meets PySem.F.slot_list_extend ⟨_, e, rfl⟩ PySem.F.entry_list_extend (PySem.F.args_list_extend_2 _ _) (ext_byTup l b its.toArray ys.toArray n k dd sl ?_ (by rw [List.size_toArray]; omega) (by omega)) ⟨e, e2, ?_⟩
  · rw [notLongL z1, Bool.and_false]
    exact Bool.false_ne_true
  · exact ⟨.non, _, I.lset (its' := its ++ ys) hH e (by simp) (r.append r2) (by rw [List.length_append]; omega), rfl, q⟩
theorem MtM.or {id : String} {r r' : V → List V → Hp → VK → Prop} (h : MtM X id r) (h' : MtM X id r') : MtM X id (fun x xs H Q => r x xs H Q ∨ r' x xs H Q) := by
  intro pins s σ H x vs v us Q I rx rv z
  rcases z with z | z
  · exact h pins s σ H x vs v us Q I rx rv z
  · exact h' pins s σ H x vs v us Q I rx rv z
theorem p_mth (k : Mth) {a t : T} (pa : Pe Fs cA a n X W) (pe : Pe Fs cA t n X W) : Pe Fs cA (.mth k a t) n X W := .ofV rfl fun ex h => by
  cases ex with
  | Call fe vs ks p =>
    cases fe with
    | Attribute o x apos =>
      cases ks with
      | nil =>
        have h : (decide (mName k = x) && (apos.endLine == p.line) && chkE X.N Fs X.env.scope a o && atB o && chkEs X.N Fs X.env.scope t vs && decide (vs.length = mAr k)) = true := h
        rw [Bool.and_eq_true, Bool.and_eq_true, Bool.and_eq_true, Bool.and_eq_true, Bool.and_eq_true, decide_eq_true_eq, decide_eq_true_eq] at h
        obtain ⟨⟨⟨⟨⟨h1, h2⟩, h3⟩, h4⟩, h5⟩, h6⟩ := h
        subst h1
        obtain ⟨pA, hp⟩ := pe.a vs h5
        refine ⟨?_, rfl⟩
        -- up to the method itself
        have go : ∀ {r : V → List V → Hp → VK → Prop}, (∀ (s : Sit) (σ : L2.St) (d : D) (ds : List D) (x : V) (xs : List V) (Q : VK), s.Ok X.K → Rep X.K s d x → Reps X.K s ds xs → Post X.K cA s σ W (mthF k d ds s.st) (PQ X.K Q) → r x xs s.H Q) →
            ∀ σ H Q, tE X.K cA (cf Fs n) W (.mth k a t) σ H Q → tE X.K cA (cf Fs n) W a σ H fun x H1 => tyV X.K "list" x H1 ∧ tA X.K cA (cf Fs n) W t σ H1 fun xs H2 => r x xs H2 Q := fun hr σ H Q ⟨s, env, e, ok, re, q⟩ => by
          subst e
          have q0 : Post X.K cA s σ W ((ev (cf Fs n) a env s.st).bind fun x st1 => match lstOf st1 x with
            | none => .err
            | some _ => (evs (cf Fs n) t env st1).bind fun ds st2 => mthF k x ds st2) (PQ X.K Q) := q
          refine tE_then ok re q0 fun s1 d x o1 l1 re1 rx q1 => ?_
          cases hl : lstOf s1.st d with
          | none => rw [hl] at q1; exact q1.elim
          | some ys =>
            rw [hl] at q1
            obtain ⟨b, vs, rfl, hb, _⟩ := lstOf_ok o1 rx hl
            exact ⟨.inl ⟨rfl, _, SqL.of hb⟩, tA_then o1 re1 q1 fun s2 ds xs o2 l2 re2 rxs q2 => hr s2 σ d ds _ xs Q o2 (rx.le o1 l2) rxs q2⟩
        cases k with
        | append =>
          match vs, h6, pA, hp with
          | [v], _, pA, hp =>
            refine PE.imp (pe_bm PySem.F.plainAttrs_list PySem.F.slot_list_append PySem.F.type_list_append mt_append (pa.e o h3) pA (at_pl h4) (by rw [star_pl (hp v (by simp))]; rfl) h2 (star_pl (hp v (by simp)))) (go fun s σ d ds x xs Q ok rx rxs q => ?_)
            unfold mthF at q
            split at q <;> first | exact q.elim | skip
            all_goals rename_i z
            all_goals cases z
            split at q
            · rename_i ys hc
              split at q
              · rename_i hz
                cases rx with
                | ref ha =>
                  obtain ⟨u, rfl, ru⟩ := one_of rxs
                  obtain ⟨vs, h1, r1⟩ := ok.cell _ _ _ hc ha
                  exact ⟨_, vs, u, rfl, rfl, h1, by rw [← r1.length]; exact hz.2, chg_post ok hc ha (r1.snoc (ru.rd hz.1)) .non q⟩
                | dat rx => cases rx
              · exact q.elim
            · exact q.elim
          | [], h6, _, _ => cases h6
          | _ :: _ :: _, h6, _, _ => cases h6
        | extend =>
          match vs, h6, pA, hp with
          | [v], _, pA, hp =>
            refine PE.imp (pe_bm PySem.F.plainAttrs_list PySem.F.slot_list_extend PySem.F.type_list_extend (MtM.or mt_extend mt_extT) (pa.e o h3) pA (at_pl h4) (by rw [star_pl (hp v (by simp))]; rfl) h2 (star_pl (hp v (by simp)))) (go fun s σ d ds x xs Q ok rx rxs q => ?_)
            unfold mthF at q
            split at q <;> first | exact q.elim | skip
            all_goals rename_i z
            all_goals cases z
            split at q
            · rename_i ys zs hc hy
              split at q
              · rename_i hz
                cases rx with
                | ref ha =>
                  obtain ⟨u, rfl, ru⟩ := one_of rxs
                  obtain ⟨vs, h1, r1⟩ := ok.cell _ _ _ hc ha
                  unfold seqOf at hy
                  split at hy
                  · cases hy
                    obtain ⟨b, ws, rfl, h2, r2⟩ := rep_tupH ru
                    exact .inr ⟨_, b, vs, ws, rfl, rfl, h1, h2, by rw [← r1.length, ← r2.length]; exact hz, chg_post ok hc ha (r1.append r2) .non q⟩
                  · obtain ⟨b, ws, rfl, h2, r2⟩ := lstOf_ok ok ru hy
                    exact .inl ⟨_, b, vs, ws, rfl, rfl, h1, h2, by rw [← r1.length, ← r2.length]; exact hz, chg_post ok hc ha (r1.append r2) .non q⟩
                | dat rx => cases rx
              · exact q.elim
            · exact q.elim
          | [], h6, _, _ => cases h6
          | _ :: _ :: _, h6, _, _ => cases h6
        | count =>
          match vs, h6, pA, hp with
          | [v], _, pA, hp =>
            refine PE.imp (pe_bm PySem.F.plainAttrs_list PySem.F.slot_list_count PySem.F.type_list_count mt_lcntX (pa.e o h3) pA (at_pl h4) (by rw [star_pl (hp v (by simp))]; rfl) h2 (star_pl (hp v (by simp)))) (go fun s σ d ds x xs Q ok rx rxs q => ?_)
            unfold mthF at q
            split at q <;> first | exact q.elim | skip
            all_goals rename_i z
            all_goals cases z
            · split at q
              · rename_i ns hn
                obtain ⟨ys, hy, hns⟩ := Option.bind_eq_some_iff.mp hn
                obtain ⟨u, rfl, ru⟩ := one_of rxs
                cases rep_int ru
                obtain ⟨b, ws, rfl, h2, r2⟩ := lstOf_ok ok rx hy
                rw [intsOf_ok hns] at r2
                rw [r2.ints] at h2
                exact .inl ⟨b, ns, _, rfl, rfl, SqL.of h2, post_val ok q (.int _)⟩
              · exact q.elim
            · split at q
              · rename_i ns hn
                obtain ⟨ys, hy, hns⟩ := Option.bind_eq_some_iff.mp hn
                obtain ⟨u, rfl, ru⟩ := one_of rxs
                cases rep_bl ru
                obtain ⟨b, ws, rfl, h2, r2⟩ := lstOf_ok ok rx hy
                rw [boolsOf_ok hns] at r2
                rw [r2.bools] at h2
                exact .inr ⟨b, ns, _, rfl, rfl, SqL.of h2, post_val ok q (.int _)⟩
              · exact q.elim
          | [], h6, _, _ => cases h6
          | _ :: _ :: _, h6, _, _ => cases h6
        | index =>
          match vs, h6, pA, hp with
          | [v], _, pA, hp =>
            refine PE.imp (pe_bm PySem.F.plainAttrs_list PySem.F.slot_list_index PySem.F.type_list_index mt_index (pa.e o h3) pA (at_pl h4) (by rw [star_pl (hp v (by simp))]; rfl) h2 (star_pl (hp v (by simp)))) (go fun s σ d ds x xs Q ok rx rxs q => ?_)
            unfold mthF at q
            split at q <;> first | exact q.elim | skip
            all_goals rename_i z
            all_goals cases z
            split at q
            · rename_i ns hn
              split at q
              · rename_i j hj
                obtain ⟨ys, hy, hns⟩ := Option.bind_eq_some_iff.mp hn
                obtain ⟨u, rfl, ru⟩ := one_of rxs
                cases rep_int ru
                obtain ⟨b, ws, rfl, h2, r2⟩ := lstOf_ok ok rx hy
                rw [intsOf_ok hns] at r2
                rw [r2.ints] at h2
                obtain ⟨h3, h4⟩ := idxI_ok hj
                refine ⟨b, ns.map V.int, _, j, _, rfl, rfl, SqL.of h2, rfl, ?_, by rw [List.getElem?_map, h3]; rfl, ?_, fun m z' hm hz => ?_, post_val ok q (.int _)⟩
                · rw [List.all_eq_true]
                  intro x hx
                  obtain ⟨i, _, rfl⟩ := List.mem_map.mp hx
                  rfl
                · exact beq_self_eq_true _
                · rw [List.getElem?_map] at hz
                  obtain ⟨i, hi, rfl⟩ := Option.map_eq_some_iff.mp hz
                  have := h4 m i hm hi
                  simpa [eqV] using this
              · exact q.elim
            · exact q.elim
          | [], h6, _, _ => cases h6
          | _ :: _ :: _, h6, _, _ => cases h6
        | popAt =>
          match vs, h6, pA, hp with
          | [v], _, pA, hp =>
            refine PE.imp (pe_bm PySem.F.plainAttrs_list PySem.F.slot_list_pop PySem.F.type_list_pop mt_popAt (pa.e o h3) pA (at_pl h4) (by rw [star_pl (hp v (by simp))]; rfl) h2 (star_pl (hp v (by simp)))) (go fun s σ d ds x xs Q ok rx rxs q => ?_)
            unfold mthF at q
            split at q <;> first | exact q.elim | skip
            all_goals rename_i z
            all_goals cases z
            split at q
            · rename_i ys hc
              split at q
              · rename_i dv hd
                split at q
                · rename_i hz
                  cases rx with
                  | ref ha =>
                    obtain ⟨u, rfl, ru⟩ := one_of rxs
                    cases rep_int ru
                    obtain ⟨vs, h1, r1⟩ := ok.cell _ _ _ hc ha
                    obtain ⟨v', hv, rv⟩ := r1.get hd
                    have hlt := (List.getElem?_eq_some_iff.mp hv).1
                    exact ⟨_, vs, _, _, v', rfl, rfl, h1, by omega, by omega, seqIndex_of hz.1 (by omega), hv, chg_post ok hc ha (r1.eraseIdx _) rv q⟩
                  | dat rx => cases rx
                · exact q.elim
              · exact q.elim
            · exact q.elim
          | [], h6, _, _ => cases h6
          | _ :: _ :: _, h6, _, _ => cases h6
        | insert =>
          match vs, h6, pA, hp with
          | [v, w], _, pA, hp =>
            refine PE.imp (pe_bm PySem.F.plainAttrs_list PySem.F.slot_list_insert PySem.F.type_list_insert mt_insert (pa.e o h3) pA (at_pl h4) (by rw [star_pl (hp v (by simp)), star_pl (hp w (by simp))]; rfl) h2 (star_pl (hp v (by simp))) (backTo_any fun e he => hp e (List.mem_cons_of_mem _ he))) (go fun s σ d ds x xs Q ok rx rxs q => ?_)
            unfold mthF at q
            split at q <;> first | exact q.elim | skip
            all_goals rename_i z
            all_goals cases z
            split at q
            · rename_i ys hc
              split at q
              · rename_i hz
                cases rx with
                | ref ha =>
                  cases rxs with
                  | cons r1 rxs =>
                    obtain ⟨u, rfl, ru⟩ := one_of rxs
                    cases rep_int r1
                    obtain ⟨vs, h1, r1⟩ := ok.cell _ _ _ hc ha
                    refine ⟨_, vs, _, u, rfl, rfl, h1, by rw [← r1.length]; exact hz.2.1, hz.2.2.1, by have := hz.2.2.2; omega, chg_post ok hc ha (((r1.take _).append (.cons (ru.rd hz.1) .nil)).append (r1.drop _)) .non q⟩
                | dat rx => cases rx
              · exact q.elim
            · exact q.elim
          | [], h6, _, _ => cases h6
          | [_], h6, _, _ => cases h6
          | _ :: _ :: _ :: _, h6, _, _ => cases h6
        | reverse =>
          match vs, h6, pA with
          | [], _, pA =>
            refine PE.imp (pe_bm0 PySem.F.plainAttrs_list PySem.F.slot_list_reverse PySem.F.type_list_reverse mt_reverse (pa.e o h3) (at_pl h4) h2) fun σ H Q q0 => ?_
            obtain ⟨s, env, e, ok, re, q⟩ := q0
            subst e
            have q0 : Post X.K cA s σ W ((ev (cf Fs n) a env s.st).bind fun x st1 => match lstOf st1 x with
              | none => .err
              | some _ => (evs (cf Fs n) t env st1).bind fun ds st2 => mthF .reverse x ds st2) (PQ X.K Q) := q
            refine tE_then ok re q0 fun s1 d x o1 l1 re1 rx q1 => ?_
            cases hl : lstOf s1.st d with
            | none => rw [hl] at q1; exact q1.elim
            | some ys =>
              rw [hl] at q1
              obtain ⟨b, vs, rfl, hb, _⟩ := lstOf_ok o1 rx hl
              refine ⟨.inl ⟨rfl, _, SqL.of hb⟩, ?_⟩
              cases t with
              | nil =>
                have q2 : Post X.K cA s1 σ W (mthF .reverse d [] s1.st) (PQ X.K Q) := q1
                cases rx with
                | ref ha =>
                  simp only [mthF] at q2
                  split at q2
                  · rename_i zs hc
                    obtain ⟨vs, h1, r1⟩ := o1.cell _ _ _ hc ha
                    exact ⟨_, vs, rfl, rfl, h1, chg_post o1 hc ha r1.reverse .non q2⟩
                  · exact q2.elim
                | dat rx => cases rx <;> exact q2.elim
                | ins => exact q2.elim
                | lr => exact q2.elim
              | _ => cases h5
          | _ :: _, h6, _ => cases h6
        | clear =>
          match vs, h6, pA with
          | [], _, pA =>
            refine PE.imp (pe_bm0 PySem.F.plainAttrs_list PySem.F.slot_list_clear PySem.F.type_list_clear mt_clear (pa.e o h3) (at_pl h4) h2) fun σ H Q q0 => ?_
            obtain ⟨s, env, e, ok, re, q⟩ := q0
            subst e
            have q0 : Post X.K cA s σ W ((ev (cf Fs n) a env s.st).bind fun x st1 => match lstOf st1 x with
              | none => .err
              | some _ => (evs (cf Fs n) t env st1).bind fun ds st2 => mthF .clear x ds st2) (PQ X.K Q) := q
            refine tE_then ok re q0 fun s1 d x o1 l1 re1 rx q1 => ?_
            cases hl : lstOf s1.st d with
            | none => rw [hl] at q1; exact q1.elim
            | some ys =>
              rw [hl] at q1
              obtain ⟨b, vs, rfl, hb, _⟩ := lstOf_ok o1 rx hl
              refine ⟨.inl ⟨rfl, _, SqL.of hb⟩, ?_⟩
              cases t with
              | nil =>
                have q2 : Post X.K cA s1 σ W (mthF .clear d [] s1.st) (PQ X.K Q) := q1
                cases rx with
                | ref ha =>
                  simp only [mthF] at q2
                  split at q2
                  · rename_i zs hc
                    obtain ⟨vs, h1, r1⟩ := o1.cell _ _ _ hc ha
                    exact ⟨_, vs, rfl, rfl, h1, chg_post o1 hc ha .nil .non q2⟩
                  · exact q2.elim
                | dat rx => cases rx <;> exact q2.elim
                | ins => exact q2.elim
                | lr => exact q2.elim
              | _ => cases h5
          | _ :: _, h6, _ => cases h6
        | pop =>
          match vs, h6, pA with
          | [], _, pA =>
            refine PE.imp (pe_bm0 PySem.F.plainAttrs_list PySem.F.slot_list_pop PySem.F.type_list_pop mt_pop (pa.e o h3) (at_pl h4) h2) fun σ H Q q0 => ?_
            obtain ⟨s, env, e, ok, re, q⟩ := q0
            subst e
            have q0 : Post X.K cA s σ W ((ev (cf Fs n) a env s.st).bind fun x st1 => match lstOf st1 x with
              | none => .err
              | some _ => (evs (cf Fs n) t env st1).bind fun ds st2 => mthF .pop x ds st2) (PQ X.K Q) := q
            refine tE_then ok re q0 fun s1 d x o1 l1 re1 rx q1 => ?_
            cases hl : lstOf s1.st d with
            | none => rw [hl] at q1; exact q1.elim
            | some ys =>
              rw [hl] at q1
              obtain ⟨b, vs, rfl, hb, _⟩ := lstOf_ok o1 rx hl
              refine ⟨.inl ⟨rfl, _, SqL.of hb⟩, ?_⟩
              cases t with
              | nil =>
                have q2 : Post X.K cA s1 σ W (mthF .pop d [] s1.st) (PQ X.K Q) := q1
                cases rx with
                | ref ha =>
                  simp only [mthF] at q2
                  split at q2
                  · rename_i zs hc
                    split at q2
                    · rename_i y hy
                      obtain ⟨vs, h1, r1⟩ := o1.cell _ _ _ hc ha
                      obtain ⟨v, hv, rv⟩ := r1.get hy
                      exact ⟨_, vs, v, rfl, rfl, h1, by rw [← r1.length]; exact hv, chg_post o1 hc ha r1.dropLast rv q2⟩
                    · exact q2.elim
                  · exact q2.elim
                | dat rx => cases rx <;> exact q2.elim
                | ins => exact q2.elim
                | lr => exact q2.elim
              | _ => cases h5
          | _ :: _, h6, _ => cases h6
      | cons _ _ => cases h
    | _ => cases h
  | _ => cases h
end
end Zn

/-! Zn, part L: a kept refusal asked. -/
namespace Zn
open PySem PySem.Spec PyProof.Rows L2
section
variable {Fs : List Fn} {cA : Nat → Option Addr} {n : Nat} {X : Cx} {W : WX}
theorem v_cls (hve : X.mg "ValueError" = none) (known : ∀ c, c < 7 → ∃ C', PySem.W.nsIn X.K mainGlobals (cn c) = some (some (.ref C')) ∧ X.mg (cn c) = some (.ref C')) {c : Nat} {e : Expr} (h : chkC1 X.env.scope c e = true) :
    ∃ v u, PE X e (tC v) ∧ ClsV v u ∧ (∀ C x, ExK X.K C x → PySem.W.kitOne X.K (.ref C) u = some (subC x c)) ∧ pl e = true := by
  cases e with
  | Name z p =>
    have h : (decide (cn c = z) && glB X.env.scope z && decide (c ≤ 7)) = true := h
    rw [Bool.and_eq_true, Bool.and_eq_true, decide_eq_true_eq, decide_eq_true_eq] at h
    obtain ⟨⟨h1, h2⟩, h3⟩ := h
    subst h1
    by_cases h7 : c < 7
    · obtain ⟨C', m0, m⟩ := known c h7
      have hdb : (cn c == ("__debug__" : Str)) = false := by
        match c, h7 with
        | 0, _ => decide
        | 1, _ => decide
        | 2, _ => decide
        | 3, _ => decide
        | 4, _ => decide
        | 5, _ => decide
        | 6, _ => decide
        | c + 7, h => exact absurd h (by omega)
      refine ⟨.ref C', .ref C', pe_glob (glB_ok h2) m rfl hdb, .own C', fun C x E => ?_, rfl⟩
      obtain ⟨C2, m2, k⟩ := E.at_ c h7
      rw [m0] at m2
      cases m2
      exact k
    · obtain rfl : c = 7 := by omega
      refine ⟨.ty "ValueError", .type "ValueError", pe_bltn (glB_ok h2) hve PyProof.Rows.Boot.«ValueError» rfl (by decide) (by decide), .ty _, fun C x E => ?_, rfl⟩
      rw [E.kV]
      simp [subC]
  | _ => cases h
theorem v_clss (hve : X.mg "ValueError" = none) (known : ∀ c, c < 7 → ∃ C', PySem.W.nsIn X.K mainGlobals (cn c) = some (some (.ref C')) ∧ X.mg (cn c) = some (.ref C')) : ∀ (cs : List Nat) (es : List Expr), chkCs X.env.scope cs es = true →
    ∃ vs us, PA X es (fun _ H Q => Q vs H) ∧ Paired ClsV vs us ∧ (∀ C x, ExK X.K C x → PySem.W.kitAny X.K (.ref C) us = some (cs.any (subC x))) ∧ (∀ e ∈ es, pl e = true) ∧ vs.length = cs.length
  | [], [], _ => ⟨[], [], pa_nil, .nil, fun _ _ _ => rfl, (fun e he => by cases he), rfl⟩
  | c :: cs, e :: es, h => by
    have h : (chkC1 X.env.scope c e && chkCs X.env.scope cs es) = true := h
    rw [Bool.and_eq_true] at h
    obtain ⟨v, u, p1, k1, z1, q1⟩ := v_cls hve known h.1
    obtain ⟨vs, us, p2, k2, z2, q2, l2⟩ := v_clss hve known cs es h.2
    refine ⟨v :: vs, u :: us, pa_cons p1 p2 (star_pl q1), .cons k1 k2, fun C x E => ?_, fun y hy => ?_, by simp [l2]⟩
    · unfold PySem.W.kitAny
      rw [z1 C x E, List.any_cons]
      cases subC x c with
      | true => rfl
      | false => exact z2 C x E
    · rcases List.mem_cons.mp hy with rfl | hy
      · exact q1
      · exact q2 y hy
  | [], _ :: _, h => by cases h
  | _ :: _, [], h => by cases h
theorem known_of (g : Cg Fs cA n X W) (h : (List.range 7).any (rzB Fs) = true) : ∀ c, c < 7 → ∃ C', PySem.W.nsIn X.K mainGlobals (cn c) = some (some (.ref C')) ∧ X.mg (cn c) = some (.ref C') := by
  obtain ⟨r0, _, hr0⟩ := List.any_eq_true.mp h
  obtain ⟨C0, hC0⟩ := g.rz r0 hr0
  intro c hc
  obtain ⟨C', a, b, _, _⟩ := (g.ex r0 C0 hC0).at_ c hc
  exact ⟨C', a, b⟩
theorem rep_exn {K : PySem.W.Frag} {s : Sit} {c : Nat} {k : Option Int} {v : V} (r : Rep K s (.exn c k) v) : ∃ a C dd, v = .ref a ∧ s.H a = some (exV a C dd) ∧ ExK K C c ∧ (∀ d, dd = some d → ¬ s.M d ∧ ∃ i, k = some i ∧ s.H d = some (.xd [("number", .int i)]) ∧ PySem.W.findIn K (.ref C) "number" = some none) ∧ (dd = none → k = none) := by
  cases r with
  | dat r => cases r with
    | exn h n e f g => exact ⟨_, _, _, rfl, h, e, f, g⟩
theorem p_isxv (g : Cg Fs cA n X W) (cs : List Nat) {a : T} (pa : Pe Fs cA a n X W) : Pe Fs cA (.isxv a cs) n X W := .ofV rfl fun ex h => by
  cases ex with
  | Call fe vs ks p =>
    match fe, vs, ks, h with
    | .Name f p1, [v, z], [], h =>
      have h : (decide (f = ("isinstance" : Str)) && glB X.env.scope f && chkE X.N Fs X.env.scope a v && pl v && chkZ X.env.scope cs z && (List.range 7).any (rzB Fs)) = true := h
      simp only [Bool.and_eq_true, decide_eq_true_eq] at h
      obtain ⟨⟨⟨⟨⟨h1, h2⟩, h3⟩, h4⟩, h5⟩, h6⟩ := h
      subst h1
      have hm : X.mg "isinstance" = none := bl_of g (by decide +kernel)
      have hve : X.mg "ValueError" = none := bl_of g (by decide +kernel)
      have kn := known_of g h6
      by_cases ht : ∃ es k pt, z = .Tuple es k pt
      · obtain ⟨es, k, pt, rfl⟩ := ht
        have h5 : (chkCs X.env.scope cs es && decide (cs.length ≤ 100)) = true := h5
        rw [Bool.and_eq_true, decide_eq_true_eq] at h5
        obtain ⟨ws, us, p3, k3, z3, q3, l3⟩ := v_clss hve kn cs es h5.1
        have pt' : PE X (.Tuple es k pt) _ := pe_tup p3
        have pA := pa_cons (pa.e v h3) (pa_cons pt' pa_nil (star_pl rfl)) (star_pl h4)
        refine ⟨PE.imp (pe_callB call_isVT (glB_ok h2) hm (by decide +kernel) pA (by decide +kernel) (by decide +kernel) (star_pl h4) (backTo_any fun e he => by
          have : e = .Tuple es k pt := by simpa using he
          subst this
          rfl)) fun σ H Q ⟨s, env, e, ok, re, q⟩ => ?_, rfl⟩
        subst e
        refine tE_then ok re q fun s1 d x o1 l1 re1 rx q1 => ?_
        refine ⟨by rw [l3]; exact Nat.le_trans h5.2 (by rw [sizeLine_eq]; omega), fun tp htp => ?_⟩
        unfold isxvF at q1
        split at q1
        · rename_i c k'
          have o2 : (s1.put tp (.tup ws)).Ok X.K := Sit.put_ok o1 htp
          have l2 : s1.Le (s1.put tp (.tup ws)) := Sit.put_le htp
          obtain ⟨ad, C, dd, rfl, e1, e2, e3, e4⟩ := rep_exn (rx.le o1 l2)
          refine ⟨ad, C, dd, tp, ws, us, _, rfl, e1, ?_, e2.eC, upd_same, k3, z3 C c e2, q1 (s1.put tp (.tup ws)) rfl o2 l2 _ (.dat (.bl _))⟩
          cases dd with
          | none => exact .inl rfl
          | some d => obtain ⟨_, i, _, hd, _⟩ := e3 d rfl; exact .inr ⟨d, _, rfl, hd⟩
        · exact q1.elim
      · have h5 : chkCs X.env.scope cs [z] = true := by
          cases z <;> first | exact h5 | exact absurd ⟨_, _, _, rfl⟩ ht
        cases cs with
        | nil => cases h5
        | cons c cs =>
          cases cs with
          | cons _ _ =>
            have h5 : (chkC1 X.env.scope c z && false) = true := h5
            simp at h5
          | nil =>
            have h5 : (chkC1 X.env.scope c z && true) = true := h5
            rw [Bool.and_true] at h5
            obtain ⟨cv, u, p3, k3, z3, q3⟩ := v_cls hve kn h5
            have pA := pa_cons (pa.e v h3) (pa_cons p3 pa_nil (star_pl q3)) (star_pl h4)
            refine ⟨PE.imp (pe_callB call_isV (glB_ok h2) hm (by decide +kernel) pA (by decide +kernel) (by decide +kernel) (star_pl h4) (backTo_any fun e he => by
              have : e = z := by simpa using he
              subst this
              exact q3)) fun σ H Q ⟨s, env, e, ok, re, q⟩ => ?_, rfl⟩
            subst e
            refine tE_then ok re q fun s1 d x o1 l1 re1 rx q1 => ?_
            unfold isxvF at q1
            split at q1
            · rename_i c' k'
              obtain ⟨ad, C, dd, rfl, e1, e2, e3, e4⟩ := rep_exn rx
              refine ⟨ad, C, dd, cv, u, _, rfl, e1, ?_, e2.eC, fun w hw => k3.eq hw, z3 C c' e2, ?_⟩
              · cases dd with
                | none => exact .inl rfl
                | some d => obtain ⟨_, i, _, hd, _⟩ := e3 d rfl; exact .inr ⟨d, _, rfl, hd⟩
              · have := post_ok o1 q1 _ (.dat (.bl _))
                simpa using this
            · exact q1.elim
  | _ => cases h
theorem p_fldn (g : Cg Fs cA n X W) {a : T} (pa : Pe Fs cA a n X W) : Pe Fs cA (.fldn a) n X W := .ofV rfl fun ex h => by
  cases ex with
  | Attribute v x p =>
    have h : (decide (x = ("number" : Str)) && chkE X.N Fs X.env.scope a v && atB v && pl v) = true := h
    simp only [Bool.and_eq_true, decide_eq_true_eq] at h
    obtain ⟨⟨⟨h1, h2⟩, h3⟩, h4⟩ := h
    subst h1
    refine ⟨PE.imp (pe_fldV (pa.e v h2) (at_pl h3)) fun σ H Q ⟨s, env, e, ok, re, q⟩ => ?_, rfl⟩
    subst e
    refine tE_then ok re q fun s1 d x o1 l1 re1 rx q1 => ?_
    unfold fldnF at q1
    split at q1
    · rename_i c i
      obtain ⟨ad, C, dd, rfl, e1, e2, e3, e4⟩ := rep_exn rx
      cases dd with
      | none => cases e4 rfl
      | some d =>
        obtain ⟨_, i', hi, hd, hf⟩ := e3 d rfl
        cases hi
        exact ⟨ad, C, d, _, .int i, rfl, e1, hd, e2.eC, hf, rfl, post_ok o1 q1 _ (.dat (.int _))⟩
    · exact q1.elim
  | _ => cases h
end
end Zn

/-! Zn, part A: comprehensions; every expression. -/
namespace Zn
open PySem PySem.Spec PyProof.Rows L2
section
variable {Fs : List Fn} {cA : Nat → Option Addr} {n : Nat} {X : Cx} {W : WX}

def cbody (F : CallF) (tg : T) (vs : List Nat) (cond elt : T) (env : Env) : D → Store → Res (Option D) := fun x st2 => match asgN tg x (wipeE env vs) with
  | none => .err
  | some env2 => (evt F cond env2 st2).bind fun b st3 => if b = true then (ev F elt env2 st3).bind fun d st4 => .ok (some d) st4 else .ok none st3
theorem compL_cons (body : D → Store → Res (Option D)) (k : Nat) (x : D) (xs : List D) (st : Store) : compL body k (x :: xs) st = match body x st with
    | .ok none st' => compL body k xs st'
    | .ok (some d) st' => match st'[k]? with
      | some (some (.lst acc)) => if d.isRef = false ∧ acc.length < sizeLine then compL body k xs (st'.set k (some (.lst (acc ++ [d])))) else .err
      | _ => .err
    | .exc e st' => .exc e st'
    | .err => .err := rfl
theorem compR_succ (body : D → Store → Res (Option D)) (n l k i : Nat) (st : Store) : compR body n l (k + 1) i st = match lstOf st (.ref l) with
    | none => .err
    | some xs => match xs[i]? with
      | none => .ok () st
      | some x => match body x st with
        | .ok none st' => compR body n l k (i + 1) st'
        | .ok (some d) st' => match st'[n]? with
          | some (some (.lst acc)) => if d.isRef = false ∧ acc.length < sizeLine then compR body n l k (i + 1) (st'.set n (some (.lst (acc ++ [d])))) else .err
          | _ => .err
        | .exc e st' => .exc e st'
        | .err => .err := rfl
theorem comp_imp (m : Bool) {src tg cond elt : T} (own : List (Str × Nat)) (h5 : (slots tg).all (fun i => decide (i ∈ own.map (·.2))) = true) : ∀ σ H Q, tE X.K cA (cf Fs n) W (.comp m src tg own cond elt) σ H Q →
    tLcE (tI X.K cA (cf Fs n) W src) (gN X.K tg) (fun W' => tC' X.K cA (cf Fs n) W' cond) (fun W' => tE X.K cA (cf Fs n) W' elt) W (own.map (·.2)) σ H Q := by
      intro σ H Q ⟨s, env, e, ok, re, q⟩
      subst e
      obtain ⟨vs, hvs⟩ : ∃ vs, vs = own.map (·.2) := ⟨_, rfl⟩
      have q0 : Post X.K cA s σ W ((evw (cf Fs n) src env s.st).bind fun w st1 => match w with
        | .fix xs => (compL (cbody (cf Fs n) tg (own.map (·.2)) cond elt env) st1.length xs (st1 ++ [some (.lst [])])).bind fun _ st2 => compEnd m st1.length st2
        | .live l => (compR (cbody (cf Fs n) tg (own.map (·.2)) cond elt env) st1.length l fuel 0 (st1 ++ [some (.lst [])])).bind fun _ st2 => compEnd m st1.length st2
        | .zp _ _ => .err) (PQ X.K Q) := q
      rw [← hvs] at q0 ⊢
      refine ⟨s, env, rfl, ok, re, q0.split.mono fun w s1 o1 l1 q1 J wk D hD => ?_⟩
      cases w with
      | zp xs l => exact q1.elim
      | live l =>
        have q1 : Post X.K cA s1 σ W ((compR (cbody (cf Fs n) tg vs cond elt env) s1.st.length l fuel 0 (s1.st ++ [some (.lst [])])).bind fun _ st2 => compEnd m s1.st.length st2) (PQ X.K Q) := q1
        have oD := Sit.new_ok (xs := []) (vs := []) o1 hD .nil
        have lD := Sit.new_le o1 (xs := []) (vs := []) hD
        have rD : (s1.new D [] []).r[s1.st.length]? = some D := by
          show (s1.r ++ [D])[s1.st.length]? = _
          rw [← o1.len]
          simp
        refine ⟨fun i k H' => ∃ t : Sit, t.H = H' ∧ t.Ok X.K ∧ (s1.new D [] []).Le t ∧ Post X.K cA s1 σ W ((compR (cbody (cf Fs n) tg vs cond elt env) s1.st.length l k i t.st).bind fun _ st2 => compEnd m s1.st.length st2) (PQ X.K Q),
          ⟨fuel, s1.new D [] [], rfl, oD, Sit.Le.refl _, q1⟩, ?_⟩
        rintro i k H' ⟨t, rfl, ot, lt, qt⟩
        cases k with
        | zero => exact qt.elim
        | succ k =>
          rw [compR_succ] at qt
          cases hxs : lstOf t.st (.ref l) with
          | none => rw [hxs] at qt; exact qt.elim
          | some xs =>
            rw [hxs] at qt
            obtain ⟨w1, w2, w3⟩ := wk i t xs (lD.trans lt) ot hxs
            cases hxi : xs[i]? with
            | none =>
              simp only [hxi] at qt
              refine .inl ⟨w2 (List.getElem?_eq_none_iff.mp hxi), ?_⟩
              have qt : Post X.K cA s1 σ W (compEnd m s1.st.length t.st) (PQ X.K Q) := qt
              exact cut_post o1 ot (lD.trans lt) (.ref (lt.pre _ _ rD)) qt
            | some d =>
              simp only [hxi] at qt
              refine .inr ⟨w1 (List.getElem?_eq_some_iff.mp hxi).1, fun H' => ∃ t : Sit, t.H = H' ∧ t.Ok X.K ∧ (s1.new D [] []).Le t ∧ Post X.K cA s1 σ W ((compR (cbody (cf Fs n) tg vs cond elt env) s1.st.length l k (i + 1) t.st).bind fun _ st2 => compEnd m s1.st.length st2) (PQ X.K Q), ?_, fun x H' y => ?_⟩
              · rintro H' ⟨t2, e2, o2, l2, q2⟩
                exact ⟨k, by omega, t2, e2, o2, l2, q2⟩
              · obtain ⟨rfl, rx⟩ := w3 x H' d hxi y
                unfold cbody at qt
                cases ha : asgN tg d (wipeE env vs) with
                | none => simp only [ha] at qt; exact qt.elim
                | some env2 =>
                  simp only [ha] at qt
                  have re' := (re.le ok l1).le o1 (lD.trans lt)
                  refine ⟨t, wipeE env vs, d, env2, rfl, ot, re'.wipe vs, rx, ha, fun σ' rs' len' out' => ⟨wipe_eq (by rw [len', wipe_length]) fun j hj => out' j fun z => ?_, ?_⟩⟩
                  · have := List.all_eq_true.mp h5 j z
                    rw [decide_eq_true_eq, ← hvs] at this
                    exact hj this
                  · refine ⟨t, env2, rfl, ot, rs', ?_⟩
                    cases r : evt (cf Fs n) cond env2 t.st with
                    | err => simp only [r, bind_err] at qt; exact qt.elim
                    | exc z zz => simp only [r, bind_exc] at qt; exact fun s' c d h1 h2 h3 h4 => qt s' c d h1 h2 ((lD.trans lt).trans h3) h4
                    | ok b st3 =>
                      simp only [r, bind_ok] at qt
                      intro t3 e3 o3 l3
                      have lt3 := lt.trans l3
                      cases b with
                      | false =>
                        simp only [Bool.false_eq_true, if_false] at qt ⊢
                        exact ⟨t3, rfl, o3, lt3, by rw [e3]; exact qt⟩
                      | true =>
                        simp only [if_true] at qt ⊢
                        refine ⟨t3, env2, rfl, o3, rs'.le ot l3, ?_⟩
                        rw [e3]
                        cases r2 : ev (cf Fs n) elt env2 st3 with
                        | err => simp only [r2, bind_err] at qt; exact qt.elim
                        | exc z zz => simp only [r2, bind_exc] at qt; exact fun s' c d h1 h2 h3 h4 => qt s' c d h1 h2 ((lD.trans lt3).trans h3) h4
                        | ok y st4 =>
                          simp only [r2, bind_ok] at qt
                          intro t4 e4 o4 l4 v hv
                          rw [← e4] at qt
                          have lt4 := lt3.trans l4
                          split at qt
                          · rename_i acc hacc
                            split at qt
                            · rename_i hz
                              obtain ⟨us, c1, c2⟩ := o4.cell _ _ D hacc (lt4.pre _ _ rD)
                              refine ⟨us, c1, by rw [← c2.length]; exact hz.2, t4.chg s1.st.length D (acc ++ [y]) (us ++ [v]), rfl, Sit.chg_ok o4 hacc (lt4.pre _ _ rD) (c2.snoc (hv.rd hz.1)), lt4.trans (Sit.chg_le o4 hacc (lt4.pre _ _ rD)), qt⟩
                            · exact qt.elim
                          · exact qt.elim
      | fix xs =>
        have q1 : Post X.K cA s1 σ W ((compL (cbody (cf Fs n) tg vs cond elt env) s1.st.length xs (s1.st ++ [some (.lst [])])).bind fun _ st2 => compEnd m s1.st.length st2) (PQ X.K Q) := q1
        have oD := Sit.new_ok (xs := []) (vs := []) o1 hD .nil
        have lD := Sit.new_le o1 (xs := []) (vs := []) hD
        have rD : (s1.new D [] []).r[s1.st.length]? = some D := by
          show (s1.r ++ [D])[s1.st.length]? = _
          rw [← o1.len]
          simp
        refine ⟨fun i k H' => ∃ t : Sit, t.H = H' ∧ t.Ok X.K ∧ (s1.new D [] []).Le t ∧ k = xs.length - i ∧ i ≤ xs.length ∧ Post X.K cA s1 σ W ((compL (cbody (cf Fs n) tg vs cond elt env) s1.st.length (xs.drop i) t.st).bind fun _ st2 => compEnd m s1.st.length st2) (PQ X.K Q),
          ⟨xs.length, s1.new D [] [], rfl, oD, Sit.Le.refl _, rfl, Nat.zero_le _, q1⟩, ?_⟩
        rintro i k H' ⟨t, rfl, ot, lt, rfl, hi, qt⟩
        by_cases hlt : i < xs.length
        · refine .inr ⟨wk.1 i t (lD.trans lt) ot hlt, fun H' => ∃ t : Sit, t.H = H' ∧ t.Ok X.K ∧ (s1.new D [] []).Le t ∧ Post X.K cA s1 σ W ((compL (cbody (cf Fs n) tg vs cond elt env) s1.st.length (xs.drop (i + 1)) t.st).bind fun _ st2 => compEnd m s1.st.length st2) (PQ X.K Q), ?_, fun x H' y => ?_⟩
          · rintro H' ⟨t2, e2, o2, l2, q2⟩
            exact ⟨xs.length - (i + 1), by omega, t2, e2, o2, l2, rfl, hlt, q2⟩
          · obtain ⟨t', rfl, est, ot', lt', rx⟩ := wk.2.2 i t x H' xs[i] (lD.trans lt) ot (List.getElem?_eq_getElem hlt) y
            rw [List.drop_eq_getElem_cons hlt, compL_cons, ← est] at qt
            obtain ⟨d, hd⟩ : ∃ d, d = xs[i] := ⟨_, rfl⟩
            rw [← hd] at qt rx
            unfold cbody at qt
            cases ha : asgN tg d (wipeE env vs) with
            | none => rw [ha] at qt; exact qt.elim
            | some env2 =>
              rw [ha] at qt
              have re' := (re.le ok l1).le o1 ((lD.trans lt).trans lt')
              refine ⟨t', wipeE env vs, d, env2, rfl, ot', re'.wipe vs, rx, ha, fun σ' rs' len' out' => ⟨wipe_eq (by rw [len', wipe_length]) fun j hj => out' j fun z => ?_, ?_⟩⟩
              · have := List.all_eq_true.mp h5 j z
                rw [decide_eq_true_eq, ← hvs] at this
                exact hj this
              · refine ⟨t', env2, rfl, ot', rs', ?_⟩
                cases r : evt (cf Fs n) cond env2 t'.st with
                | err => simp only [r, bind_err] at qt; exact qt.elim
                | exc z zz => simp only [r, bind_exc] at qt; exact fun s' c d h1 h2 h3 h4 => qt s' c d h1 h2 ((lD.trans (lt.trans lt')).trans h3) h4
                | ok b st3 =>
                  simp only [r, bind_ok] at qt
                  intro t3 e3 o3 l3
                  have lt3 := (lt.trans lt').trans l3
                  cases b with
                  | false =>
                    simp only [Bool.false_eq_true, if_false] at qt ⊢
                    exact ⟨t3, rfl, o3, lt3, by rw [e3]; exact qt⟩
                  | true =>
                    simp only [if_true] at qt ⊢
                    refine ⟨t3, env2, rfl, o3, rs'.le ot' l3, ?_⟩
                    rw [e3]
                    cases r2 : ev (cf Fs n) elt env2 st3 with
                    | err => simp only [r2, bind_err] at qt; exact qt.elim
                    | exc z zz => simp only [r2, bind_exc] at qt; exact fun s' c d h1 h2 h3 h4 => qt s' c d h1 h2 ((lD.trans lt3).trans h3) h4
                    | ok y st4 =>
                      simp only [r2, bind_ok] at qt
                      intro t4 e4 o4 l4 v hv
                      rw [← e4] at qt
                      have lt4 := lt3.trans l4
                      split at qt
                      · rename_i acc hacc
                        split at qt
                        · rename_i hz
                          obtain ⟨us, c1, c2⟩ := o4.cell _ _ D hacc (lt4.pre _ _ rD)
                          refine ⟨us, c1, by rw [← c2.length]; exact hz.2, t4.chg s1.st.length D (acc ++ [y]) (us ++ [v]), rfl, Sit.chg_ok o4 hacc (lt4.pre _ _ rD) (c2.snoc (hv.rd hz.1)), lt4.trans (Sit.chg_le o4 hacc (lt4.pre _ _ rD)), qt⟩
                        · exact qt.elim
                      · exact qt.elim
        · have ei : i = xs.length := by omega
          subst ei
          refine .inl ⟨wk.2.1 _ t (lD.trans lt) ot (Nat.le_refl _), ?_⟩
          rw [List.drop_length] at qt
          have qt : Post X.K cA s1 σ W (compEnd m s1.st.length t.st) (PQ X.K Q) := qt
          exact cut_post o1 ot (lD.trans lt) (.ref (lt.pre _ _ rD)) qt

structure CompP (Fs : List Fn) (cA : Nat → Option Addr) (n : Nat) (X : Cx) (W : WX) (src tg cond elt : T) (own : List (Str × Nat)) (e' tg' iter : Expr) (ifs : List Expr) (scope : Scope) : Prop where
  pi : PI X tg' iter (tI X.K cA (cf Fs n) W src)
  hpl : pl iter = true
  blk : BlkOk X.N X.env.scope scope own
  pg : ∀ (s : Shared) (H : Hp) (C : Addr) (cl : List (Str × Addr)) (fp : List Addr) (xe : Value → Shared → Prop), PG ((X.blk s H scope (compEnvC scope cl C X.env) fp).wish xe) tg' (gN X.K tg)
  pc : ∀ (s : Shared) (H : Hp) (C : Addr) (cl : List (Str × Addr)) (fp : List Addr) (xe : Value → Shared → Prop) (W' : WX), Takes ((X.blk s H scope (compEnvC scope cl C X.env) fp).wish xe) W' → TakesF ((X.blk s H scope (compEnvC scope cl C X.env) fp).wish xe) W' → PTs ((X.blk s H scope (compEnvC scope cl C X.env) fp).wish xe) ifs (tC' X.K cA (cf Fs n) W' cond)
  pt : ∀ (s : Shared) (H : Hp) (C : Addr) (cl : List (Str × Addr)) (fp : List Addr) (xe : Value → Shared → Prop) (W' : WX), Takes ((X.blk s H scope (compEnvC scope cl C X.env) fp).wish xe) W' → TakesF ((X.blk s H scope (compEnvC scope cl C X.env) fp).wish xe) W' → PE ((X.blk s H scope (compEnvC scope cl C X.env) fp).wish xe) e' (tE X.K cA (cf Fs n) W' elt)
  sl : (slots tg).all (fun i => decide (i ∈ own.map (·.2))) = true
theorem comp_parts (g : Cg Fs cA n X W) (m : Bool) {src tg cond elt : T} (own : List (Str × Nat)) (ps : Pe Fs cA src n X W) (pc : ∀ X' W', Cg Fs cA n X' W' → Pe Fs cA cond n X' W') (pt : ∀ X' W', Cg Fs cA n X' W' → Pe Fs cA elt n X' W')
    {ex : Expr} (h : chkE X.N Fs X.env.scope (.comp m src tg own cond elt) ex = true) : ∃ e' tg' iter ifs scope p, ex = .ListComp e' [⟨tg', iter, ifs, 0⟩] scope p ∧ CompP Fs cA n X W src tg cond elt own e' tg' iter ifs scope := by
  cases ex with
  | ListComp e' gs scope p =>
    match gs, h with
    | [⟨tg', iter, ifs, k⟩], h =>
      have h : (decide (k = 0) && chkW X.N Fs X.env.scope src iter && blkC X.N X.env.scope scope own && chkN X.N scope tg tg' && (slots tg).all (fun i => decide (i ∈ own.map (·.2))) && chkC X.N Fs (relS scope X.env.scope) cond ifs && chkE X.N Fs (relS scope X.env.scope) elt e' && tgOk src tg') = true := h
      rw [Bool.and_eq_true, Bool.and_eq_true, Bool.and_eq_true, Bool.and_eq_true, Bool.and_eq_true, Bool.and_eq_true, Bool.and_eq_true, decide_eq_true_eq] at h
      obtain ⟨⟨⟨⟨⟨⟨⟨h1, h2⟩, h3⟩, h4⟩, h5⟩, h6⟩, h7⟩, h8⟩ := h
      subst h1
      obtain ⟨pi, hpl⟩ := ps.i tg' iter h2 h8
      exact ⟨e', tg', iter, ifs, scope, p, rfl, pi, hpl, blkOk_by h3, fun _ _ _ _ _ _ => PG.nox (pg_blk g.nd g.calm h4), fun s H C cl fp xe W' k1 k2 => (pc _ W' (g.blkE s H scope C cl fp xe k1 k2)).c ifs h6, fun s H C cl fp xe W' k1 k2 => (pt _ W' (g.blkE s H scope C cl fp xe k1 k2)).e e' h7, h5⟩
  | _ => cases h
theorem p_comp (g : Cg Fs cA n X W) (m : Bool) {src tg cond elt : T} (own : List (Str × Nat)) (ps : Pe Fs cA src n X W) (pc : ∀ X' W', Cg Fs cA n X' W' → Pe Fs cA cond n X' W') (pt : ∀ X' W', Cg Fs cA n X' W' → Pe Fs cA elt n X' W') :
    Pe Fs cA (.comp m src tg own cond elt) n X W := .ofV rfl fun ex h => by
  obtain ⟨e', tg', iter, ifs, scope, p, rfl, c⟩ := comp_parts g m own ps pc pt h
  exact ⟨PE.imp (pe_lcE g.fr g.tkF g.calm g.nd c.pi c.blk c.pg c.pc c.pt (fold_pl c.hpl)) (comp_imp m own c.sl), rfl⟩

theorem p_dead {t : T} (z : ∀ {N : List Str} {sc : Scope} ex, chkE N Fs sc t ex = false) (hx : isX t = true) : Pe Fs cA t n X W :=
  .of hx (fun ex h => by rw [z] at h; cases h) fun ex h => by rw [z] at h; cases h
theorem p_all : ∀ (t : T) (n : Nat) (X : Cx) (W : WX), Cg Fs cA n X W → Pe Fs cA t n X W := by
  intro t
  induction t with
  | var i => intro n X W g; exact p_var i
  | con d => intro n X W g; exact p_con d
  | gi f i => intro n X W g; exact p_gi g f i
  | gsv f s => intro n X W g; exact p_gsv g f s
  | bin m op a b ia ib => intro n X W g; exact p_bin m op (ia n X W g) (ib n X W g)
  | neg a ia => intro n X W g; exact p_neg (ia n X W g)
  | cmp op a b ia ib => intro n X W g; exact p_cmp g op (ia n X W g) (ib n X W g)
  | cmp2 op op' a b c ia ib ic => intro n X W g; exact p_cmp2 g op op' (ia n X W g) (ib n X W g) (ic n X W g)
  | bop o es ie => intro n X W g; exact p_bop o (ie n X W g)
  | nt a ia => intro n X W g; exact p_nt (ia n X W g)
  | ite c a b ic ia ib => intro n X W g; exact p_ite (ic n X W g) (ia n X W g) (ib n X W g)
  | tup es ie => intro n X W g; exact p_tup (ie n X W g)
  | lst m es ie => intro n X W g; exact p_lst m (ie n X W g)
  | dct1 a b ia ib => intro n X W g; exact p_dct1 (ia n X W g) (ib n X W g)
  | sub a b ia ib => intro n X W g; exact p_sub g (ia n X W g) (ib n X W g)
  | slc m a lo hi ia il ih => intro n X W g; exact p_slc m (ia n X W g) (il n X W g) (ih n X W g)
  | call f m es ie => intro n X W g; exact p_call g f m (ie n X W g)
  | blt b m es ie => intro n X W g; exact p_blt g b m (ie n X W g)
  | isi a ty ia => intro n X W g; exact p_isi g ty (ia n X W g)
  | comp m src tg own cond elt is _ ic ie => intro n X W g; exact p_comp g m own (is n X W g) (fun X' W' g' => ic n X' W' g') fun X' W' g' => ie n X' W' g'
  | frz a ia => intro n X W g; exact p_frz (ia n X W g)
  | isxv a cs ia => intro n X W g; exact p_isxv g cs (ia n X W g)
  | fldn a ia => intro n X W g; exact p_fldn g (ia n X W g)
  | isi2 a ty ty' ia => intro n X W g; exact p_isi2 g ty ty' (ia n X W g)
  | suq m a ia => intro n X W g; exact p_suq g m (ia n X W g)
  | mmd b a ia => intro n X W g; exact p_mmd g b (ia n X W g)
  | cmp4 op op' op'' a b c d ia ib ic id => intro n X W g; exact p_cmp4 g op op' op'' (ia n X W g) (ib n X W g) (ic n X W g) (id n X W g)
  | lrng m a ia => intro n X W g; exact p_lrng g m (ia n X W g)
  | rev m a ia => intro n X W g; exact p_rev m (ia n X W g)
  | mth k a es ia ie => intro n X W g; exact p_mth k (ia n X W g) (ie n X W g)
  | fld c k a ia => intro n X W g; exact p_fld c k (ia n X W g)
  | meth c f m a es ia ie => intro n X W g; exact p_meth g c f m (ia n X W g) (ie n X W g)
  | mkI c a ia => intro n X W g; exact p_mkI g c (ia n X W g)
  | lrs es ie => intro n X W g; exact p_lrs (ie n X W g)
  | smth k m o e io ie => intro n X W g; exact p_smth k m (io n X W g) (ie n X W g)
  | dnew => intro n X W g; exact p_dnew
  | dct0 => intro n X W g; exact p_dct0
  | dget a b c ia ib ic => intro n X W g; exact p_dget g (ia n X W g) (ib n X W g) (ic n X W g)
  | dgt1 a b ia ib => intro n X W g; exact p_dgt1 g (ia n X W g) (ib n X W g)
  | dof a ia => intro n X W g; exact p_dof g (ia n X W g)
  | ditems m a ia => intro n X W g; exact p_ditems g m (ia n X W g)
  | nil => intro n X W g; exact p_nil
  | cons e es ie is => intro n X W g; exact p_cons (ie n X W g) (is n X W g)
  | no => intro n X W g; exact p_no
  | so e ie => intro n X W g; exact p_so (ie n X W g)
  | sit e ie => intro n X W g; exact p_sit (ie n X W g)
  | srng k e ie => intro n X W g; exact p_srng g k (ie n X W g)
  | senum e ie => intro n X W g; exact p_senum g (ie n X W g)
  | srev e ie => intro n X W g; exact p_srev g (ie n X W g)
  | szip a b ia ib => intro n X W g; exact p_szip g (ia n X W g) (ib n X W g)
  | _ => intro n X W g; exact p_dead (fun ex => by cases ex <;> rfl) rfl
end
end Zn

/-! Zn, part B: statements. -/
namespace Zn
open PySem PySem.Spec PyProof.Rows L2
section
variable {K : PySem.W.Frag} {cA : Nat → Option Addr} {s s' : Sit} {W : WX}
def PostS (K : PySem.W.Frag) (cA : Nat → Option Addr) (s : Sit) (W : WX) (r : SRes) (D : Ends) : Prop :=
  match r with
  | .nx env st => ∀ s' σ', s'.st = st → s'.Ok K → s.Le s' → RE K s' env σ' → D.nx σ' s'.H
  | .bk env st => ∀ s' σ', s'.st = st → s'.Ok K → s.Le s' → RE K s' env σ' → D.bk σ' s'.H
  | .ct env st => ∀ s' σ', s'.st = st → s'.Ok K → s.Le s' → RE K s' env σ' → D.ct σ' s'.H
  | .rt d st => ∀ s' v, s'.st = st → s'.Ok K → s.Le s' → Rep K s' d v → D.rt v s'.H
  | .exc x env st => ∀ s' σ' cls dd, s'.st = st → s'.Ok K → s.Le s' → RE K s' env σ' → RX K cA s' x cls dd → W cls dd σ' s'.H
  | .err => False
theorem PostS.le {r : SRes} {D : Ends} (e : s.Le s') (h : PostS K cA s W r D) : PostS K cA s' W r D := by
  cases r with
  | nx env st => exact fun t σ h1 h2 h3 h4 => h t σ h1 h2 (e.trans h3) h4
  | bk env st => exact fun t σ h1 h2 h3 h4 => h t σ h1 h2 (e.trans h3) h4
  | ct env st => exact fun t σ h1 h2 h3 h4 => h t σ h1 h2 (e.trans h3) h4
  | rt d st => exact fun t v h1 h2 h3 h4 => h t v h1 h2 (e.trans h3) h4
  | exc x env st => exact fun t σ c d h1 h2 h3 h4 h5 => h t σ c d h1 h2 (e.trans h3) h4 h5
  | err => exact h
theorem PostS.split {α : Type} {r : Res α} {env : Env} {σ : L2.St} {k : α → Store → SRes} {D : Ends} (ok : s.Ok K) (re : RE K s env σ) (h : PostS K cA s W (r.thenS env k) D) :
    Post K cA s σ W r fun a s1 => PostS K cA s1 W (k a s1.st) D := by
  cases r with
  | ok a st =>
    intro t h1 h2 h3
    have h : PostS K cA s W (k a st) D := h
    rw [← h1] at h
    exact h.le h3
  | exc x st => exact fun t c d h1 h2 h3 h4 => h t σ c d h1 h2 h3 (re.le ok h3) h4
  | err => exact h
def tS (K : PySem.W.Frag) (cA : Nat → Option Addr) (F : CallF) (W : WX) (t : T) : TS := fun D σ H => ∃ s env, s.H = H ∧ s.Ok K ∧ RE K s env σ ∧ PostS K cA s W (ex F t env s.st) D
def tG (K : PySem.W.Frag) (cA : Nat → Option Addr) (F : CallF) (tg : T) : TG := fun v σ H Q => ∃ s env d env' st', s.H = H ∧ s.Ok K ∧ RE K s env σ ∧ Rep K s d v ∧ asg F tg d env s.st = some (env', st') ∧
  ∀ s' σ', s'.st = st' → s'.Ok K → s.Le s' → RE K s' env' σ' → Q σ' s'.H
def tGs (K : PySem.W.Frag) (cA : Nat → Option Addr) (F : CallF) (tg : T) : TGs := fun vs σ H Q => ∃ s env ds env' st', s.H = H ∧ s.Ok K ∧ RE K s env σ ∧ Reps K s ds vs ∧ asg.asgs F tg ds env s.st = some (env', st') ∧
  ∀ s' σ', s'.st = st' → s'.Ok K → s.Le s' → RE K s' env' σ' → Q σ' s'.H
end

structure Cs (Fs : List Fn) (cA : Nat → Option Addr) (n : Nat) (X : Cx) (W : WX) : Prop extends Cg Fs cA n X W where
  own : PassesOwn (model X.prog X.w) X.A X.env X.xe
  fnT : ∀ x, X.fn x = true
  stk : X.stack = X.env :: X.outer
  frm : X.env.frame = some X.env.locals
  exn : X.ex = []
section
variable {Fs : List Fn} {cA : Nat → Option Addr} {n : Nat} {X : Cx} {W : WX}

theorem g_tnm (g : Cs Fs cA n X W) {i : Nat} {e : Expr} (h : chkG X.N Fs X.env.scope (.tnm i) e = true) : PG X e (tG X.K cA (cf Fs n) (.tnm i)) := by
  cases e with
  | Name x p =>
    have h : (decide (X.N[i]? = some x) && wrB X.env.scope x) = true := h
    rw [Bool.and_eq_true, decide_eq_true_eq] at h
    refine PG.imp (pg_name g.nd h.1 (wrB_ok h.2) (.inl (g.fnT x))) fun v σ H Q hw => ?_
    obtain ⟨s, env, d, env', st', rfl, ok, re, rp, ha, q⟩ := hw
    have ha : (if i < env.length then some (env.set i (some d), s.st) else none) = some (env', st') := ha
    split at ha
    · cases ha
      exact q s _ rfl ok (Sit.Le.refl _) (re.set rp)
    · cases ha
  | _ => cases h
theorem ix_assign {l r : Expr} {p : Pos} {env : PySem.Env} (h : pl r = true) : ∀ v, assign (.Subscript l r p) env v = (do
      let ov ← holding [v] (eval l env)
      let iv ← holding [v, ov] (eval r env)
      standAt p
      holding [v, ov, iv] (setItem ov iv v)
      release [v, ov, iv] []) := by
  intro v
  cases r <;> first | rfl | cases h
theorem pset_or {X : Cx} {t t' : TSet} (h : PSet X t) (h' : PSet X t') : PSet X (fun o i v H Q => t o i v H Q ∨ t' o i v H Q) := by
  intro pins s σ H o i v ov iv u Q I ro ri rv q
  rcases q with q | q
  · exact h pins s σ H o i v ov iv u Q I ro ri rv q
  · exact h' pins s σ H o i v ov iv u Q I ro ri rv q
theorem g_tix (g : Cs Fs cA n X W) {a i : T} (pa : Pe Fs cA a n X W) (pi : Pe Fs cA i n X W) {e : Expr} (h : chkG X.N Fs X.env.scope (.tix a i) e = true) : PG X e (tG X.K cA (cf Fs n) (.tix a i)) := by
  cases e with
  | Subscript l r p =>
    have h : (chkE X.N Fs X.env.scope a l && chkE X.N Fs X.env.scope i r && pl r) = true := h
    rw [Bool.and_eq_true, Bool.and_eq_true] at h
    obtain ⟨⟨h1, h2⟩, h3⟩ := h
    refine PG.imp (pg_sub (pa.e l h1) (pi.e r h2) (pset_or set_list (set_dict (by have := g.toCg.hu; omega))) (ix_assign h3)) fun v σ H Q hw => ?_
    obtain ⟨s, env, d, env', st', rfl, ok, re, rp, ha, q⟩ := hw
    have ha : (match ev (cf Fs n) a env s.st with
      | .ok x st1 => match ev (cf Fs n) i env st1 with
        | .ok y st2 => (setF x y d st2).map fun st3 => (env, st3)
        | _ => none
      | _ => none) = some (env', st') := ha
    split at ha
    · rename_i x st1 r1
      split at ha
      · rename_i y st2 r2
        obtain ⟨st3, e3, e4⟩ := Option.map_eq_some_iff.mp ha
        cases e4
        refine ⟨s, env, rfl, ok, re, ?_⟩
        rw [r1]
        intro s1 q1 o1 l1 u ru
        refine ⟨s1, env, rfl, o1, re.le ok l1, ?_⟩
        rw [q1, r2]
        intro s2 q2 o2 l2 w rw'
        rw [← q2] at e3
        unfold setF at e3
        split at e3
        · rename_i l k
          split at e3
          · rename_i xs hc
            split at e3
            · rename_i j hj
              split at e3
              · rename_i hr
                cases e3
                cases rep_int rw'
                cases ru with
                | ref hru =>
                  rename_i ad
                  have hra := l2.pre _ _ hru
                  obtain ⟨vs, c1, c2⟩ := o2.cell _ _ _ hc hra
                  have rd := ((rp.le ok l1).le o1 l2).rd hr
                  refine .inl ⟨ad, vs, k, j, rfl, rfl, c1, by rw [← c2.length]; exact hj, ?_⟩
                  have o3 := Sit.chg_ok o2 hc hra (RDs.set rd j c2)
                  have l3 := Sit.chg_le o2 (xs := xs.set j d) (vs := vs.set j v) hc hra
                  exact q (s2.chg l ad (xs.set j d) (vs.set j v)) σ rfl o3 ((l1.trans l2).trans l3) (((re.le ok l1).le o1 l2).le o2 l3)
                | dat ru => cases ru
              · cases e3
            · cases e3
          · rename_i kvs hc
            split at e3
            · rename_i v0 _
              split at e3
              · rename_i hz
                cases e3
                cases rep_int rw'
                cases rep_int ((rp.le ok l1).le o1 l2)
                cases ru with
                | ref hru =>
                  rename_i ad
                  have hra := l2.pre _ _ hru
                  have c1 := o2.cell _ _ _ hc hra
                  have c1 : s2.H ad = some (.dK (dkV kvs)) := c1
                  refine .inr ⟨ad, _, rfl, .inl ⟨dkV kvs, Sum.inl k, c1, rfl, by rw [dkV, List.length_map]; exact hz, rfl⟩, ?_⟩
                  rw [putI_val]
                  have o3 := Sit.chgC_ok (c' := .dk (putI kvs k v0)) (u := .dK (dkV (putI kvs k v0))) o2 hc rfl hra upd_same
                  have l3 := Sit.chgC_le (c' := .dk (putI kvs k v0)) (u := .dK (dkV (putI kvs k v0))) o2 hc rfl hra
                  exact q _ σ rfl o3 ((l1.trans l2).trans l3) (((re.le ok l1).le o1 l2).le o2 l3)
                | dat ru => cases ru
              · cases e3
            · cases e3
          · cases e3
        · cases e3
      · cases ha
    · cases ha
  | _ => cases h

theorem pg_tl {X : Cx} {pos : Pos} {es : List Expr} {k : Nat} {t : TGs} {n : Nat} (hc : X.calm = true) (h : PGs X es t)
    (hn : (assignEach es X.env).length = n) (hst : (assignEach es X.env).findIdx? (·.1) = none) : PG X (.Tuple es k pos) (fun v σ H Q => gTup X.K n t v σ H Q ∨ gUnl X.K n t v σ H Q) :=
  ⟨fun pins s σ H v u Q I r hw => hw.elim (fun hw => (pg_tup (k := k) (pos := pos) hc h hn hst).run pins s σ H v u Q I r hw) (fun hw => (pg_unl (k := k) (pos := pos) hc h hn hst).run pins s σ H v u Q I r hw)⟩
def isGT : T → Bool
  | .tnm _ | .tix _ _ | .ttp _ => true
  | _ => false
def isLT : T → Bool
  | .nil | .cons _ _ => true
  | _ => false
theorem dead_G {N : List Str} {sc : Scope} {t : T} {e : Expr} (h : chkG N Fs sc t e = true) : isGT t = true := by
  unfold chkG at h
  split at h <;> first | rfl | cases h
theorem dead_Gs {N : List Str} {sc : Scope} {t : T} {e : List Expr} (h : chkG.chkGs N Fs sc t e = true) : isLT t = true := by
  unfold chkG.chkGs at h
  split at h <;> first | rfl | cases h
theorem g_all (g : Cs Fs cA n X W) : ∀ (tg : T), (∀ e, chkG X.N Fs X.env.scope tg e = true → PG X e (tG X.K cA (cf Fs n) tg) ∧ ∀ es, assignEach (e :: es) X.env = (false, assign e X.env) :: assignEach es X.env) ∧
    (∀ es, chkG.chkGs X.N Fs X.env.scope tg es = true → PGs X es (tGs X.K cA (cf Fs n) tg) ∧ (assignEach es X.env).findIdx? (·.1) = none ∧ (assignEach es X.env).length = es.length) := by
  intro tg
  induction tg with
  | tnm i =>
    refine ⟨fun e h => ⟨g_tnm g h, ?_⟩, fun es h => no_tf (dead_Gs h) rfl⟩
    cases e with
    | Name x p => exact fun _ => rfl
    | _ => cases h
  | tix a i _ _ =>
    refine ⟨fun e h => ⟨g_tix g (p_all a n X W g.toCg) (p_all i n X W g.toCg) h, ?_⟩, fun es h => no_tf (dead_Gs h) rfl⟩
    cases e with
    | Subscript l r p => exact fun _ => rfl
    | _ => cases h
  | ttp ts ih =>
    refine ⟨fun e h => ?_, fun es h => no_tf (dead_Gs h) rfl⟩
    cases e with
    | Tuple es k p =>
      obtain ⟨p1, p2, p3⟩ := ih.2 es h
      refine ⟨PG.imp (pg_tl (k := k) (pos := p) (n := es.length) g.calm p1 p3 p2) fun v σ H Q hw => ?_, fun _ => rfl⟩
      obtain ⟨s, env, d, env', st', rfl, ok, re, rp, ha, q⟩ := hw
      have lens : ∀ (ts : T) (es : List Expr) (xs : List D) (env : Env) (st : Store), chkG.chkGs X.N Fs X.env.scope ts es = true → asg.asgs (cf Fs n) ts xs env st = some (env', st') → xs.length = es.length := by
        intro ts
        induction ts with
        | nil =>
          intro es xs env st h1 h2
          cases es with
          | nil => cases xs with
            | nil => rfl
            | cons _ _ => cases h2
          | cons _ _ => cases h1
        | cons t ts _ ih =>
          intro es xs env st h1 h2
          cases es with
          | nil => cases h1
          | cons e es =>
            have h1 : (chkG X.N Fs X.env.scope t e && chkG.chkGs X.N Fs X.env.scope ts es) = true := h1
            rw [Bool.and_eq_true] at h1
            cases xs with
            | nil => cases h2
            | cons x xs =>
              have h2 : (match asg (cf Fs n) t x env st with
                | some (env1, st1) => asg.asgs (cf Fs n) ts xs env1 st1
                | none => none) = some (env', st') := h2
              split at h2
              · rw [List.length_cons, List.length_cons, ih es xs _ _ h1.2 h2]
              · cases h2
        | _ => intro es xs env st h1; cases es <;> cases h1
      cases d with
      | tup xs =>
        obtain ⟨a, vs, rfl, hq, rv⟩ := rep_tup rp
        exact .inl ⟨a, vs, rfl, hq, by rw [← rv.length]; exact lens ts es xs env _ h ha, s, env, xs, env', st', rfl, ok, re, rv.reps, ha, q⟩
      | lst xs =>
        obtain ⟨a, vs, rfl, hq, rv⟩ := lstOf_ok ok rp (show lstOf s.st (.lst xs) = some xs from rfl)
        exact .inr ⟨a, vs, rfl, SqL.of hq, by rw [← rv.length]; exact lens ts es xs env _ h ha, s, env, xs, env', st', rfl, ok, re, rv.reps, ha, q⟩
      | _ => cases ha
    | _ => cases h
  | nil =>
    refine ⟨fun e h => no_tf (dead_G h) rfl, fun es h => ?_⟩
    cases es with
    | nil =>
      refine ⟨PGs.imp pgs_nil fun vs σ H Q hw => ?_, rfl, rfl⟩
      obtain ⟨s, env, ds, env', st', rfl, ok, re, rp, ha, q⟩ := hw
      cases ds with
      | nil =>
        cases rp
        cases ha
        exact ⟨rfl, q s σ rfl ok (Sit.Le.refl _) re⟩
      | cons d ds => cases ha
    | cons e es => cases h
  | cons t ts iht ihs =>
    refine ⟨fun e h => no_tf (dead_G h) rfl, fun es h => ?_⟩
    cases es with
    | nil => cases h
    | cons e es =>
      have h : (chkG X.N Fs X.env.scope t e && chkG.chkGs X.N Fs X.env.scope ts es) = true := h
      rw [Bool.and_eq_true] at h
      obtain ⟨p1, p2⟩ := iht.1 e h.1
      obtain ⟨q1, q2, q3⟩ := ihs.2 es h.2
      refine ⟨PGs.imp (pgs_cons p1 q1 (by rw [p2 es]; rfl)) fun vs σ H Q hw => ?_, ?_, ?_⟩
      · obtain ⟨s, env, ds, env', st', rfl, ok, re, rp, ha, q⟩ := hw
        cases ds with
        | nil => cases ha
        | cons d ds =>
          cases rp with
          | cons r1 r2 =>
            rename_i v vs
            have ha : (match asg (cf Fs n) t d env s.st with
              | some (env1, st1) => asg.asgs (cf Fs n) ts ds env1 st1
              | none => none) = some (env', st') := ha
            split at ha
            · rename_i env1 st1 e1
              exact ⟨v, vs, rfl, s, env, d, env1, st1, rfl, ok, re, r1, e1, fun s1 σ1 a1 o1 l1 re1 => ⟨s1, env1, ds, env', st', rfl, o1, re1, Reps.le ok l1 r2, by rw [a1]; exact ha, fun s2 σ2 a2 o2 l2 re2 => q s2 σ2 a2 o2 (l1.trans l2) re2⟩⟩
            · cases ha
      · rw [p2 es, List.findIdx?_cons]
        simp only [Bool.false_eq_true, if_false]
        rw [q2]
        rfl
      · rw [p2 es, List.length_cons, q3, List.length_cons]
  | _ => exact ⟨fun e h => no_tf (dead_G h) rfl, fun es h => no_tf (dead_Gs h) rfl⟩

theorem forL_cons (body : D → Env → Store → SRes) (x : D) (xs : List D) (env : Env) (st : Store) : forL body (x :: xs) env st = match body x env st with
    | .nx env' st' => forL body xs env' st'
    | .ct env' st' => forL body xs env' st'
    | .bk env' st' => .nx env' st'
    | r => r := rfl
def fbody (F : CallF) (tg b : T) : D → Env → Store → SRes := fun x env st => match asg F tg x env st with
  | some (env2, st2) => ex F b env2 st2
  | none => .err
theorem turn_ok {K : PySem.W.Frag} {F : CallF} {tg b : T} {t' : Sit} {x : V} {d : D} {env : Env} {σ : L2.St} {Dn : Ends} {N : L2.St → Hp → Prop} {k : Env → Store → SRes} (ot : t'.Ok K) (re : RE K t' env σ) (rx : Rep K t' d x)
    (h : PostS K cA t' W (match fbody F tg b d env t'.st with
      | .nx env' st' => k env' st'
      | .ct env' st' => k env' st'
      | .bk env' st' => .nx env' st'
      | r => r) Dn) (hN : ∀ t2 env2 σ2, t2.Ok K → t'.Le t2 → RE K t2 env2 σ2 → PostS K cA t' W (k env2 t2.st) Dn → N σ2 t2.H) :
    tG K cA F tg x σ t'.H fun σ2 H2 => tS K cA F W b { Dn with nx := N, ct := N, bk := Dn.nx } σ2 H2 := by
  unfold fbody at h
  cases ha : asg F tg d env t'.st with
  | none => rw [ha] at h; exact h.elim
  | some p =>
    obtain ⟨env2, st2⟩ := p
    rw [ha] at h
    refine ⟨t', env, d, env2, st2, rfl, ot, re, rx, ha, fun s2 σ2 e2 o2 l2 re2 => ⟨s2, env2, rfl, o2, re2, ?_⟩⟩
    rw [e2]
    have h : PostS K cA t' W (match ex F b env2 st2 with
      | .nx env' st' => k env' st'
      | .ct env' st' => k env' st'
      | .bk env' st' => .nx env' st'
      | r => r) Dn := h
    cases r : ex F b env2 st2 with
    | nx env3 st3 =>
      rw [r] at h
      intro s3 σ3 e3 o3 l3 re3
      exact hN s3 env3 σ3 o3 (l2.trans l3) re3 (by rw [e3]; exact h)
    | ct env3 st3 =>
      rw [r] at h
      intro s3 σ3 e3 o3 l3 re3
      exact hN s3 env3 σ3 o3 (l2.trans l3) re3 (by rw [e3]; exact h)
    | bk env3 st3 => rw [r] at h; exact PostS.le (r := .bk env3 st3) (D := { Dn with nx := N, ct := N, bk := Dn.nx }) l2 h
    | rt d st3 => rw [r] at h; exact PostS.le (r := .rt d st3) (D := { Dn with nx := N, ct := N, bk := Dn.nx }) l2 h
    | exc z env3 st3 => rw [r] at h; exact PostS.le (r := .exc z env3 st3) (D := { Dn with nx := N, ct := N, bk := Dn.nx }) l2 h
    | err => rw [r] at h; exact h.elim
theorem forR_succ (body : D → Env → Store → SRes) (l n i : Nat) (env : Env) (st : Store) : forR body l (n + 1) i env st = match lstOf st (.ref l) with
    | none => .err
    | some xs => match xs[i]? with
      | none => .nx env st
      | some x => match body x env st with
        | .nx env' st' => forR body l n (i + 1) env' st'
        | .ct env' st' => forR body l n (i + 1) env' st'
        | .bk env' st' => .nx env' st'
        | r => r := rfl
theorem forZ_succ (body : D → Env → Store → SRes) (xs : List D) (l n i : Nat) (env : Env) (st : Store) : forZ body xs l (n + 1) i env st = match lstOf st (.ref l) with
    | none => .err
    | some ys => if xs.length = ys.length then match xs[i]?, ys[i]? with
      | some x, some y => match body (.tup [x, y]) env st with
        | .nx env' st' => forZ body xs l n (i + 1) env' st'
        | .ct env' st' => forZ body xs l n (i + 1) env' st'
        | .bk env' st' => .nx env' st'
        | r => r
      | _, _ => .nx env st
    else .err := rfl
theorem s_for (g : Cs Fs cA n X W) {src tg b : T} {iter tg' : Expr} {l : List Stmt} {p : Pos} (h1 : chkW X.N Fs X.env.scope src iter = true) (h2 : chkG X.N Fs X.env.scope tg tg' = true) (hb : PSs X l (tS X.K cA (cf Fs n) W b)) (h8 : tgOk src tg' = true) :
    PS X (.For tg' iter l [] p) (tS X.K cA (cf Fs n) W (.sfor src tg b)) := by
  obtain ⟨pi, hpl⟩ := (p_all src n X W g.toCg).i tg' iter h1 h8
  refine PS.imp (ps_for g.own g.calm pi ((g_all g tg).1 tg' h2).1 hb (fold_pl hpl)) fun Dn σ H ⟨s, env, e, ok, re, q⟩ => ?_
  subst e
  have q0 : PostS X.K cA s W ((evw (cf Fs n) src env s.st).thenS env fun w st1 => match w with
    | .fix xs => forL (fbody (cf Fs n) tg b) xs env st1
    | .live l => forR (fbody (cf Fs n) tg b) l fuel 0 env st1
    | .zp xs l => forZ (fbody (cf Fs n) tg b) xs l fuel 0 env st1) Dn := q
  refine ⟨s, env, rfl, ok, re, (q0.split ok re).mono fun w s1 o1 l1 q1 J wk => ?_⟩
  have re1 := re.le ok l1
  cases w with
  | zp zs lc =>
    refine ⟨fun i m σ H => ∃ t env, t.H = H ∧ t.Ok X.K ∧ s1.Le t ∧ RE X.K t env σ ∧ PostS X.K cA t W (forZ (fbody (cf Fs n) tg b) zs lc m i env t.st) Dn,
      ⟨fuel, s1, env, rfl, o1, Sit.Le.refl _, re1, q1⟩, ?_⟩
    rintro i m σ H ⟨t, env, rfl, ot, lt, ret, qt⟩
    cases m with
    | zero => exact qt.elim
    | succ m =>
      rw [forZ_succ] at qt
      cases hx : lstOf t.st (.ref lc) with
      | none => rw [hx] at qt; exact qt.elim
      | some ys =>
        rw [hx] at qt
        by_cases he : zs.length = ys.length
        · simp only [if_pos he] at qt
          obtain ⟨w1, w2, w3⟩ := wk i t ys lt ot hx he
          cases hd : zs[i]? with
          | none =>
            simp only [hd] at qt
            exact .inl ⟨w2 (List.getElem?_eq_none_iff.mp hd), qt t σ rfl ot (Sit.Le.refl _) ret⟩
          | some d =>
            have hi := (List.getElem?_eq_some_iff.mp hd).1
            have hde : ys[i]? = some ys[i] := List.getElem?_eq_getElem (by omega)
            simp only [hd, hde] at qt
            refine .inr ⟨w1 hi, fun σ H => ∃ t env, t.H = H ∧ t.Ok X.K ∧ s1.Le t ∧ RE X.K t env σ ∧ PostS X.K cA t W (forZ (fbody (cf Fs n) tg b) zs lc m (i + 1) env t.st) Dn, ?_, fun x H' y => ?_⟩
            · rintro σ' H' ⟨t2, env2, e2, o2, l2, re2, q2⟩
              exact ⟨m, Nat.lt_succ_self m, t2, env2, e2, o2, l2, re2, q2⟩
            · obtain ⟨t', rfl, est, ot', lt', rx⟩ := w3 x H' d _ hd hde y
              rw [← est] at qt
              exact turn_ok ot' (ret.le ot lt') rx (qt.le lt') fun t2 env2 σ2 o2 l2 re2 q2 => ⟨t2, env2, rfl, o2, (lt.trans lt').trans l2, re2, q2.le l2⟩
        · simp only [if_neg he] at qt
          exact qt.elim
  | fix xs =>
    refine ⟨fun i m σ H => ∃ t env, t.H = H ∧ t.Ok X.K ∧ s1.Le t ∧ RE X.K t env σ ∧ m = xs.length - i ∧ i ≤ xs.length ∧ PostS X.K cA t W (forL (fbody (cf Fs n) tg b) (xs.drop i) env t.st) Dn,
      ⟨xs.length, s1, env, rfl, o1, Sit.Le.refl _, re1, rfl, Nat.zero_le _, q1⟩, ?_⟩
    rintro i m σ H ⟨t, env, rfl, ot, lt, ret, rfl, hi, qt⟩
    by_cases hlt : i < xs.length
    · refine .inr ⟨wk.1 i t lt ot hlt, fun σ H => ∃ t env, t.H = H ∧ t.Ok X.K ∧ s1.Le t ∧ RE X.K t env σ ∧ PostS X.K cA t W (forL (fbody (cf Fs n) tg b) (xs.drop (i + 1)) env t.st) Dn, ?_, fun x H' y => ?_⟩
      · rintro σ' H' ⟨t2, env2, e2, o2, l2, re2, q2⟩
        exact ⟨xs.length - (i + 1), by omega, t2, env2, e2, o2, l2, re2, rfl, hlt, q2⟩
      · obtain ⟨t', rfl, est, ot', lt', rx⟩ := wk.2.2 i t x H' xs[i] lt ot (List.getElem?_eq_getElem hlt) y
        rw [List.drop_eq_getElem_cons hlt, forL_cons, ← est] at qt
        exact turn_ok ot' (ret.le ot lt') rx (qt.le lt') fun t2 env2 σ2 o2 l2 re2 q2 => ⟨t2, env2, rfl, o2, (lt.trans lt').trans l2, re2, q2.le l2⟩
    · have ei : i = xs.length := by omega
      subst ei
      rw [List.drop_length] at qt
      have qt : PostS X.K cA t W (.nx env t.st) Dn := qt
      exact .inl ⟨wk.2.1 _ t lt ot (Nat.le_refl _), qt t σ rfl ot (Sit.Le.refl _) ret⟩
  | live lc =>
    refine ⟨fun i m σ H => ∃ t env, t.H = H ∧ t.Ok X.K ∧ s1.Le t ∧ RE X.K t env σ ∧ PostS X.K cA t W (forR (fbody (cf Fs n) tg b) lc m i env t.st) Dn,
      ⟨fuel, s1, env, rfl, o1, Sit.Le.refl _, re1, q1⟩, ?_⟩
    rintro i m σ H ⟨t, env, rfl, ot, lt, ret, qt⟩
    cases m with
    | zero => exact qt.elim
    | succ m =>
      rw [forR_succ] at qt
      cases hx : lstOf t.st (.ref lc) with
      | none => rw [hx] at qt; exact qt.elim
      | some xs =>
        rw [hx] at qt
        obtain ⟨w1, w2, w3⟩ := wk i t xs lt ot hx
        cases hd : xs[i]? with
        | none =>
          simp only [hd] at qt
          exact .inl ⟨w2 (List.getElem?_eq_none_iff.mp hd), qt t σ rfl ot (Sit.Le.refl _) ret⟩
        | some d =>
          simp only [hd] at qt
          refine .inr ⟨w1 (List.getElem?_eq_some_iff.mp hd).1, fun σ H => ∃ t env, t.H = H ∧ t.Ok X.K ∧ s1.Le t ∧ RE X.K t env σ ∧ PostS X.K cA t W (forR (fbody (cf Fs n) tg b) lc m (i + 1) env t.st) Dn, ?_, fun x H' y => ?_⟩
          · rintro σ' H' ⟨t2, env2, e2, o2, l2, re2, q2⟩
            exact ⟨m, Nat.lt_succ_self m, t2, env2, e2, o2, l2, re2, q2⟩
          · obtain ⟨rfl, rx⟩ := w3 x H' d hd y
            exact turn_ok ot ret rx qt fun t2 env2 σ2 o2 l2 re2 q2 => ⟨t2, env2, rfl, o2, lt.trans l2, re2, q2.le l2⟩
theorem s_while (g : Cs Fs cA n X W) {c b : T} {e : Expr} {l : List Stmt} {p : Pos} (h1 : chkE X.N Fs X.env.scope c e = true) (h2 : tst c = true) (hb : PSs X l (tS X.K cA (cf Fs n) W b)) : PS X (.While e l [] p) (tS X.K cA (cf Fs n) W (.swhile c b)) := by
  refine PS.imp (ps_while g.own ((p_all c n X W g.toCg).t e h1 h2) hb) fun Dn σ H ⟨s, env, e, ok, re, q⟩ => ?_
  subst e
  refine ⟨fun m σ H => ∃ t env, t.H = H ∧ t.Ok X.K ∧ RE X.K t env σ ∧ PostS X.K cA t W (whileL (ev (cf Fs n) c) (ex (cf Fs n) b) m env t.st) Dn, ⟨fuel, s, env, rfl, ok, re, q⟩, ?_⟩
  rintro m σ H ⟨t, env, rfl, ot, ret, qt⟩
  cases m with
  | zero => exact qt.elim
  | succ m =>
    have qt : PostS X.K cA t W ((ev (cf Fs n) c env t.st).thenS env fun x st1 => match x with
      | .bl true => match ex (cf Fs n) b env st1 with
        | .nx env' st' => whileL (ev (cf Fs n) c) (ex (cf Fs n) b) m env' st'
        | .ct env' st' => whileL (ev (cf Fs n) c) (ex (cf Fs n) b) m env' st'
        | .bk env' st' => .nx env' st'
        | r => r
      | .bl false => .nx env st1
      | _ => .err) Dn := qt
    refine ⟨t, env, rfl, ot, ret, (qt.split ot ret).mono fun d s1 o1 l1 q1 => ?_⟩
    have re1 := ret.le ot l1
    cases d with
    | bl bb =>
      refine ⟨bb, rfl, ?_⟩
      cases bb with
      | true =>
        rw [if_pos rfl]
        have q1 : PostS X.K cA s1 W (match ex (cf Fs n) b env s1.st with
          | .nx env' st' => whileL (ev (cf Fs n) c) (ex (cf Fs n) b) m env' st'
          | .ct env' st' => whileL (ev (cf Fs n) c) (ex (cf Fs n) b) m env' st'
          | .bk env' st' => .nx env' st'
          | r => r) Dn := q1
        refine ⟨fun σ H => ∃ t env, t.H = H ∧ t.Ok X.K ∧ RE X.K t env σ ∧ PostS X.K cA t W (whileL (ev (cf Fs n) c) (ex (cf Fs n) b) m env t.st) Dn, fun σ' H' ⟨t2, env2, e2, o2, re2, q2⟩ => ⟨m, Nat.lt_succ_self m, t2, env2, e2, o2, re2, q2⟩, s1, env, rfl, o1, re1, ?_⟩
        cases r : ex (cf Fs n) b env s1.st with
        | nx env3 st3 =>
          rw [r] at q1
          intro s3 σ3 e3 o3 l3 re3
          exact ⟨s3, env3, rfl, o3, re3, by rw [e3]; exact q1.le l3⟩
        | ct env3 st3 =>
          rw [r] at q1
          intro s3 σ3 e3 o3 l3 re3
          exact ⟨s3, env3, rfl, o3, re3, by rw [e3]; exact q1.le l3⟩
        | bk env3 st3 => rw [r] at q1; exact q1
        | rt d st3 => rw [r] at q1; exact q1
        | exc z env3 st3 => rw [r] at q1; exact q1
        | err => rw [r] at q1; exact q1.elim
      | false =>
        rw [if_neg Bool.false_ne_true]
        have q1 : PostS X.K cA s1 W (.nx env s1.st) Dn := q1
        exact q1 s1 σ rfl o1 (Sit.Le.refl _) re1
    | _ => exact q1.elim
end
end Zn

set_option maxHeartbeats 0
/-! Zn, part E: refusals raised and caught. -/
namespace Zn
open PySem PySem.Spec PyProof.Rows L2
section
variable {Fs : List Fn} {cA : Nat → Option Addr} {n : Nat} {X : Cx} {W : WX}

theorem s_raise (g : Cs Fs cA n X W) {c : Nat} {st : Stmt} (h : chkS X.N Fs X.env.scope (.sraise c) st = true) : PS X st (tS X.K cA (cf Fs n) W (.sraise c)) := by
  simp only [chkS] at h
  split at h
  · skip
    · rename_i x p1 m j p2 p3 p
      have h : (decide (cn c = x) && glB X.env.scope x && nmOk x && rzB Fs c && decide (c ≠ 1)) = true := h
      simp only [Bool.and_eq_true, decide_eq_true_eq] at h
      obtain ⟨⟨⟨⟨h1, h2⟩, h3⟩, h4⟩, h5⟩ := h
      subst h1
      obtain ⟨C, hC⟩ := g.rz c h4
      have E := g.ex c C hC
      refine PS.imp (ps_raise g.calm g.takes (pmk_own PySem.F.excBase_ValueError (E.xP h5) E.mg E.kP (raises_own E.bP E.tP) (glB_ok h2) (nmOk_ok h3).1)) fun D σ H ⟨s, env, eH, ok, re, q⟩ => ?_
      subst eH
      have q0 : PostS X.K cA s W (.exc ⟨c, none⟩ env s.st) D := q
      exact q0 s σ _ _ rfl ok (Sit.Le.refl _) re ⟨C, hC, rfl, rfl⟩
  · cases h

theorem upd_upd_del {H : Hp} {a d : Addr} {u v w : HO} (ha : H a = none) (hne : d ≠ a) : upd (L2.del (upd (upd (upd H a u) d v) a w) a) d = upd H d := by
  funext x b
  by_cases hb : b = d
  · rw [hb, upd_same, upd_same]
  · rw [upd_ne hb, upd_ne hb]
    by_cases hba : b = a
    · rw [hba, del_same, ha]
    · rw [del_ne hba, upd_ne hba, upd_ne hb, upd_ne hba]
theorem s_raiseN (g : Cs Fs cA n X W) {c : Nat} {e : T} {st : Stmt} (h : chkS X.N Fs X.env.scope (.sraiseN c e) st = true) : PS X st (tS X.K cA (cf Fs n) W (.sraiseN c e)) := by
  simp only [chkS] at h
  split at h
  · rename_i x p1 v p3 p
    simp only [Bool.and_eq_true, decide_eq_true_eq] at h
    obtain ⟨⟨⟨⟨⟨⟨h1, h2⟩, h3⟩, h4⟩, h5⟩, h6⟩, h7⟩ := h
    subst h1
    obtain ⟨C, hC⟩ := g.rz c h4
    have E := g.ex c C hC
    have N := E.xN h5
    obtain ⟨fI, fd, st, qual, i1, i2, i3, i4, i5, i6⟩ := N.ini
    obtain ⟨L, mc, l1, l2, l3, l4, l5⟩ := N.le
    have F := init_ok (P := X.prog) (w := X.w) (mg := X.mg) (base := X.base) i3 i5 i6 l1 l2 l3 l4 l5
    have pA := pa_cons ((p_all (cA := cA) e n X W g.toCg).e v h6) pa_nil (star_pl h7)
    refine PS.imp (ps_raise g.calm g.takes (pmk_oex N.oc i1 i2 F (g.room.mono (by omega)) (.all i4) .nil passL (glB_ok h2) E.mg pA (nmOk_ok h3).1 (star_pl h7))) fun D σ H ⟨s, env, eH, ok, re, q⟩ => ?_
    subst eH
    have q0 : PostS X.K cA s W ((ev (cf Fs n) e env s.st).thenS env fun d st1 => match d with
      | .int i => .exc ⟨c, some (.int i)⟩ env st1
      | _ => .err) D := q
    refine ⟨s, env, rfl, ok, re, (q0.split ok re).mono fun d s1 o1 l1' q1 w hw => ?_⟩
    cases d with
    | int i =>
      cases rep_int hw
      refine ⟨by simp, fun a ha => ⟨a, C, i, rfl, N.oc, N.nn, upd_same, fun dx hdx hne => ?_⟩⟩
      have hd1 : s1.H dx = none := by rw [upd_ne hne] at hdx; exact hdx
      refine ⟨rfl, dx, _, upd_same, by rw [upd_ne hne, upd_same], hd1, ?_⟩
      rw [upd_upd_del ha hne]
      have q2 : PostS X.K cA s1 W (.exc ⟨c, some (.int i)⟩ env s1.st) D := q1
      exact q2 (s1.put dx (.xd [("number", .int i)])) σ _ _ rfl (Sit.put_ok o1 hd1) (Sit.put_le hd1) ((re.le ok l1').le o1 (Sit.put_le hd1)) ⟨C, hC, rfl, dx, .int i, rfl, upd_same, Sit.notM o1 hd1, N.nn, .int i⟩
    | _ => exact q1.elim
  · cases h
def DOk (K : PySem.W.Frag) (C : Addr) (s : Sit) (dd : Option Addr) (ag : Option Int) : Prop := (dd = none ∧ ag = none) ∨ ∃ d k, dd = some d ∧ ag = some k ∧ s.H d = some (.xd [("number", .int k)]) ∧ ¬ s.M d ∧ PySem.W.findIn K (.ref C) "number" = some none
theorem DOk.le {K : PySem.W.Frag} {C : Addr} {s s' : Sit} {dd : Option Addr} {ag : Option Int} (h : DOk K C s dd ag) (e : s.Le s') : DOk K C s' dd ag := by
  rcases h with h | ⟨d, k, h1, h2, h3, h4, h5⟩
  · exact .inl h
  · exact .inr ⟨d, k, h1, h2, (e.keep _ _ h3 h4).1, (e.keep _ _ h3 h4).2, h5⟩
theorem DOk.xd {K : PySem.W.Frag} {C : Addr} {s : Sit} {dd : Option Addr} {ag : Option Int} (h : DOk K C s dd ag) : dd = none ∨ ∃ d fs, dd = some d ∧ s.H d = some (.xd fs) := by
  rcases h with h | ⟨d, k, h1, h2, h3, _, _⟩
  · exact .inl h.1
  · exact .inr ⟨d, _, h1, h3⟩

/-! ### the suite's expressions -/
def tH (K : PySem.W.Frag) (cA : Nat → Option Addr) (C a : Addr) (i x : Nat) (dd : Option Addr) (ag : Option Int) (e : T) : TE := fun σ H Q => ∃ s env, s.H = H ∧ s.Ok K ∧ RE K s env σ ∧ σ[i]? = some (some (.ref a)) ∧ DOk K C s dd ag ∧ Post K cA s σ W0 (hv x ag e env s.st) (PQ K Q)
def tHs (K : PySem.W.Frag) (cA : Nat → Option Addr) (C a : Addr) (i x : Nat) (dd : Option Addr) (ag : Option Int) (e : T) : TA := fun σ H Q => ∃ s env, s.H = H ∧ s.Ok K ∧ RE K s env σ ∧ σ[i]? = some (some (.ref a)) ∧ DOk K C s dd ag ∧ Post K cA s σ W0 (hvs x ag e env s.st) fun ds s' => ∀ vs, Reps K s' ds vs → Q vs s'.H
def PostH (K : PySem.W.Frag) (C : Addr) (dd : Option Addr) (ag : Option Int) (s : Sit) (a : Addr) (i : Nat) (r : SRes) (D : Ends) : Prop :=
  match r with
  | .nx env st => ∀ s' σ', s'.st = st → s'.Ok K → s.Le s' → RE K s' env σ' → σ'[i]? = some (some (.ref a)) → D.nx σ' s'.H
  | _ => False
def tX (K : PySem.W.Frag) (C a : Addr) (i x : Nat) (dd : Option Addr) (ag : Option Int) (t : T) : TS := fun D σ H => ∃ s env, s.H = H ∧ s.Ok K ∧ RE K s env σ ∧ σ[i]? = some (some (.ref a)) ∧ DOk K C s dd ag ∧ PostH K C dd ag s a i (hs x ag t env s.st) D

theorem h_cls {Y : Cx} {C : Addr} {x : Nat} (E : ExR Y.K Y.mg C x) (hve : Y.mg "ValueError" = none) {c : Nat} {e : Expr} (h : chkC1 Y.env.scope c e = true) :
    ∃ v u, PE Y e (tC v) ∧ ClsV v u ∧ PySem.W.kitOne Y.K (.ref C) u = some (subC x c) ∧ pl e = true := by
  cases e with
  | Name z p =>
    have h : (decide (cn c = z) && glB Y.env.scope z && decide (c ≤ 7)) = true := h
    rw [Bool.and_eq_true, Bool.and_eq_true, decide_eq_true_eq, decide_eq_true_eq] at h
    obtain ⟨⟨h1, h2⟩, h3⟩ := h
    subst h1
    by_cases h7 : c < 7
    · obtain ⟨C', _, m, k, _⟩ := E.at_ c h7
      have hdb : (cn c == ("__debug__" : Str)) = false := by
        match c, h7 with
        | 0, _ => decide
        | 1, _ => decide
        | 2, _ => decide
        | 3, _ => decide
        | 4, _ => decide
        | 5, _ => decide
        | 6, _ => decide
        | c + 7, h => exact absurd h (by omega)
      exact ⟨.ref C', .ref C', pe_glob (glB_ok h2) m rfl hdb, .own C', k, rfl⟩
    · obtain rfl : c = 7 := by omega
      refine ⟨.ty "ValueError", .type "ValueError", pe_bltn (glB_ok h2) hve PyProof.Rows.Boot.«ValueError» rfl (by decide) (by decide), .ty _, ?_, rfl⟩
      rw [E.kV]
      simp [subC]
  | _ => cases h
theorem h_clss {Y : Cx} {C : Addr} {x : Nat} (E : ExR Y.K Y.mg C x) (hve : Y.mg "ValueError" = none) : ∀ (cs : List Nat) (es : List Expr), chkCs Y.env.scope cs es = true →
    ∃ vs us, PA Y es (fun _ H Q => Q vs H) ∧ Paired ClsV vs us ∧ PySem.W.kitAny Y.K (.ref C) us = some (cs.any (subC x)) ∧ (∀ e ∈ es, pl e = true) ∧ vs.length = cs.length
  | [], [], _ => ⟨[], [], pa_nil, .nil, rfl, (fun e he => by cases he), rfl⟩
  | c :: cs, e :: es, h => by
    have h : (chkC1 Y.env.scope c e && chkCs Y.env.scope cs es) = true := h
    rw [Bool.and_eq_true] at h
    obtain ⟨v, u, p1, k1, z1, q1⟩ := h_cls E hve h.1
    obtain ⟨vs, us, p2, k2, z2, q2, l2⟩ := h_clss E hve cs es h.2
    refine ⟨v :: vs, u :: us, pa_cons p1 p2 (star_pl q1), .cons k1 k2, ?_, fun y hy => ?_, by simp [l2]⟩
    · unfold PySem.W.kitAny
      rw [z1, List.any_cons]
      cases subC x c with
      | true => rfl
      | false => exact z2
    · rcases List.mem_cons.mp hy with rfl | hy
      · exact q1
      · exact q2 y hy
  | [], _ :: _, h => by cases h
  | _ :: _, [], h => by cases h

theorem suite_inst {X : Cx} {a D : Addr} {oe : Obj} {dd : Option Addr} {pn pins : List (Addr × Obj)} {σ : L2.St} {H : Hp} {s : Shared} (I : Inv (X.suite a ((a, oe) :: pn)) pins σ H s) (hz : Zc (.ref D) dd oe) (hf : ∃ vs, oe.data = .fields vs) (hx : dd = none ∨ ∃ d fs, dd = some d ∧ H d = some (.xd fs)) :
    ∃ od, PySem.W.InstAt s.heap a oe D od := by
  obtain ⟨hget, _⟩ := I.pin (a, oe) (List.mem_append.mpr (.inl List.mem_cons_self))
  obtain ⟨vs, hv⟩ := hf
  have nc : PySem.W.notCls oe = true := by unfold PySem.W.notCls; rw [hv] <;> rfl
  rcases hx with rfl | ⟨d, fs, rfl, hd⟩
  · exact ⟨none, hget, hz.1, nc, by rw [hz.2]; trivial⟩
  · obtain ⟨mA, hns, _⟩ := (show ObjOk X.prog X.w H s.heap d (.xd fs) from I.hok d _ hd)
    obtain ⟨od, ho, _⟩ := lookIn_ns hns
    exact ⟨some od, hget, hz.1, nc, by rw [hz.2]; exact ho⟩
def rIsSd (K : PySem.W.Frag) (D a : Addr) (dd : Option Addr) : List V → Hp → VK → Prop := fun xs H Q => ∃ (c : V) (cv : Value) (b : Bool), xs = [.ref a, c] ∧ (dd = none ∨ ∃ d fs, dd = some d ∧ H d = some (.xd fs)) ∧ (∀ u, RelV c u → u = cv) ∧ PySem.W.kitOne K (.ref D) cv = some b ∧ Q (.bl b) H
theorem call_isSd {X : Cx} {a D : Addr} {oe : Obj} {dd : Option Addr} {pn : List (Addr × Obj)} (C : ExcC X.K D) (hz : Zc (.ref D) dd oe) (hf : ∃ vs, oe.data = .fields vs) : CallR (X.suite a ((a, oe) :: pn)) (.builtin "isinstance") (rIsSd X.K D a dd) := by
  intro pins s σ H xs us Q I r h
  obtain ⟨c, cv, b, rfl, hx, hcv, e, q⟩ := h
  cases r with
  | cons rx rr =>
    cases rr with
    | cons rt rr =>
      cases rr
      cases rx
      have ec := hcv _ rt
      subst ec
      obtain ⟨od, J⟩ := suite_inst I hz hf hx
      exact PySem.W.kia_one (PySem.W.kitx_exc (exC_cls C) C.hg C.hk C.hs C.ha C.hn C.ht C.hm) I.kIn J e (fun z => nomatch z) fun tk => ⟨.bl b, H, I.kept (t' := tk) fun _ _ z => z, rfl, q⟩
def rIsST (K : PySem.W.Frag) (D a : Addr) (dd : Option Addr) : List V → Hp → VK → Prop := fun xs H Q => ∃ (tp : Addr) (cs : List V) (us : List Value) (b : Bool), xs = [.ref a, .ref tp] ∧ (dd = none ∨ ∃ d fs, dd = some d ∧ H d = some (.xd fs)) ∧ H tp = some (.tup cs) ∧ Paired ClsV cs us ∧ PySem.W.kitAny K (.ref D) us = some b ∧ Q (.bl b) H
theorem call_isST {X : Cx} {a D : Addr} {oe : Obj} {dd : Option Addr} {pn : List (Addr × Obj)} (C : ExcC X.K D) (hz : Zc (.ref D) dd oe) (hf : ∃ vs, oe.data = .fields vs) : CallR (X.suite a ((a, oe) :: pn)) (.builtin "isinstance") (rIsST X.K D a dd) := by
  intro pins s σ H xs us Q I r h
  obtain ⟨tp, cs, ws, b, rfl, hx, hT, k, e, q⟩ := h
  cases r with
  | cons rx rr =>
    cases rr with
    | cons rt rr =>
      cases rr
      cases rx
      cases rt
      obtain ⟨_, its, rv, o, h1, h2, n, h3⟩ := (show ObjOk X.prog X.w H s.heap tp (.tup cs) from I.hok tp _ hT)
      have e3 := ClsV.all k rv
      subst e3
      obtain ⟨oc, od, dt, sl⟩ := o
      simp only at h2 h3
      subst h2 h3
      obtain ⟨od, J⟩ := suite_inst I hz hf hx
      exact PySem.W.kia_tup (PySem.W.kitx_exc (exC_cls C) C.hg C.hk C.hs C.ha C.hn C.ht C.hm) I.kIn J h1 e (fun z => nomatch z) fun tk => ⟨.bl b, H, I.kept (t' := tk) fun _ _ z => z, rfl, q⟩

section
variable {a C : Addr} {oe : Obj} {pn : List (Addr × Obj)} {i x : Nat} {dd : Option Addr} {ag : Option Int}
theorem h_isx (hbl : ∀ y ∈ bltNames, X.mg y = none) (E : ExR X.K X.mg C x) (hz : Zc (.ref C) dd oe) (hf : ∃ vs, oe.data = .fields vs) (cs : List Nat) (ex : Expr) (h : chkH X.N X.env.scope i (.isx cs) ex = true) :
    PE (X.suite a ((a, oe) :: pn)) ex (tH X.K cA C a i x dd ag (.isx cs)) := by
  simp only [chkH] at h
  split at h
  · skip
    · rename_i f p1 y p2 z p
      have h : (decide (f = ("isinstance" : Str)) && glB X.env.scope f && decide (X.N[i]? = some y) && visB X.env.scope y && nmOk y && chkZ X.env.scope cs z) = true := h
      rw [Bool.and_eq_true, Bool.and_eq_true, Bool.and_eq_true, Bool.and_eq_true, Bool.and_eq_true, decide_eq_true_eq, decide_eq_true_eq] at h
      obtain ⟨⟨⟨⟨⟨h1, h2⟩, h3⟩, h4⟩, h6⟩, h5⟩ := h
      subst h1
      have pv : PE (X.suite a ((a, oe) :: pn)) (.Name y p2) (tVar i) := pe_var h3 (visB_ok h4) (nmOk_ok h6).1 (nmOk_ok h6).2.1
      have hm : (X.suite a ((a, oe) :: pn)).mg "isinstance" = none := hbl _ (by decide +kernel)
      have hve : (X.suite a ((a, oe) :: pn)).mg "ValueError" = none := hbl _ (by decide +kernel)
      have E' : ExR (X.suite a ((a, oe) :: pn)).K (X.suite a ((a, oe) :: pn)).mg C x := E
      by_cases ht : ∃ es k pt, z = .Tuple es k pt
      · obtain ⟨es, k, pt, rfl⟩ := ht
        have h5 : (chkCs X.env.scope cs es && decide (cs.length ≤ 100)) = true := h5
        rw [Bool.and_eq_true, decide_eq_true_eq] at h5
        obtain ⟨ws, us, p3, k3, z3, q3, l3⟩ := h_clss (Y := X.suite a ((a, oe) :: pn)) E' hve cs es h5.1
        have pt' : PE (X.suite a ((a, oe) :: pn)) (.Tuple es k pt) _ := pe_tup p3
        have pA := pa_cons pv (pa_cons pt' pa_nil (star_pl rfl)) (star_pl rfl)
        refine PE.imp (pe_callB (call_isST E.eC hz hf) (glB_ok h2) hm (by decide +kernel) pA (by decide +kernel) (by decide +kernel) (star_pl rfl) (backTo_any fun e he => by
          have : e = .Tuple es k pt := by simpa using he
          subst this
          rfl)) fun σ H Q ⟨s, env, e, ok, re, hi, dk, q⟩ => ?_
        subst e
        have q0 : Post X.K cA s σ W0 (.ok (.bl (cs.any (subC x))) s.st) (PQ X.K Q) := q
        refine ⟨_, hi, ?_, fun tp htp => ⟨tp, ws, us, _, rfl, (dk.le (Sit.put_le (o := .tup ws) htp)).xd, upd_same, k3, z3, ?_⟩⟩
        · rw [l3]; exact Nat.le_trans h5.2 (by rw [sizeLine_eq]; omega)
        · exact q0 (s.put tp (.tup ws)) rfl (Sit.put_ok ok htp) (Sit.put_le htp) _ (.dat (.bl _))
      · have h5 : chkCs X.env.scope cs [z] = true := by
          cases z <;> first | exact h5 | exact absurd ⟨_, _, _, rfl⟩ ht
        cases cs with
        | nil => cases h5
        | cons c cs =>
          cases cs with
          | cons _ _ =>
            have h5 : (chkC1 X.env.scope c z && false) = true := h5
            simp at h5
          | nil =>
            have h5 : (chkC1 X.env.scope c z && true) = true := h5
            rw [Bool.and_true] at h5
            obtain ⟨v, u, p3, k3, z3, q3⟩ := h_cls (Y := X.suite a ((a, oe) :: pn)) E' hve h5
            have pA := pa_cons pv (pa_cons p3 pa_nil (star_pl q3)) (star_pl rfl)
            refine PE.imp (pe_callB (call_isSd E.eC hz hf) (glB_ok h2) hm (by decide +kernel) pA (by decide +kernel) (by decide +kernel) (star_pl rfl) (backTo_any fun e he => by
              have : e = z := by simpa using he
              subst this
              exact q3)) fun σ H Q ⟨s, env, e, ok, re, hi, dk, q⟩ => ?_
            subst e
            have q0 : Post X.K cA s σ W0 (.ok (.bl ([c].any (subC x))) s.st) (PQ X.K Q) := q
            refine ⟨_, hi, v, u, subC x c, rfl, dk.xd, fun w hw => k3.eq hw, z3, ?_⟩
            have := post_ok ok q0 _ (.dat (.bl _))
            simpa using this
  · cases h

def isHT : T → Bool
  | .isx _ | .var _ | .lst _ _ | .hfld | .con _ | .tup _ | .sub _ (.con (.int _)) => true
  | _ => false
def isXT : T → Bool
  | .sset (.tnm _) _ | .sexp (.mth .append (.var _) (.cons _ .nil)) | .sif (.isx _) _ _ => true
  | _ => false
theorem dead_H {N : List Str} {sc : Scope} {i : Nat} {t : T} {e : Expr} (h : chkH N sc i t e = true) : isHT t = true := by
  unfold chkH at h
  split at h <;> first | rfl | cases h
theorem dead_Hs {N : List Str} {sc : Scope} {i : Nat} {t : T} {e : List Expr} (h : chkHs N sc i t e = true) : isLT t = true := by
  unfold chkHs at h
  split at h <;> first | rfl | cases h
theorem dead_X {N : List Str} {sc : Scope} {i : Nat} {t : T} {e : Stmt} (h : chkX N sc i t e = true) : isXT t = true := by
  unfold chkX at h
  split at h <;> first | rfl | cases h
theorem dead_Xs {N : List Str} {sc : Scope} {i : Nat} {t : T} {e : List Stmt} (h : chkXs N sc i t e = true) : isLT t = true := by
  unfold chkXs at h
  split at h <;> first | rfl | cases h
theorem x_shape {N : List Str} {sc : Scope} {i : Nat} {t : T} {e : Stmt} (h : chkX N sc i (.sexp t) e = true) : ∃ j u, t = .mth .append (.var j) (.cons u .nil) := by
  have := dead_X h
  unfold isXT at this
  split at this
  · rename_i heq; cases heq
  · rename_i heq; cases heq; exact ⟨_, _, rfl⟩
  · rename_i heq; cases heq
  · cases this
theorem h_all (hu : X.A.units + 1 < cLine) (hbl : ∀ y ∈ bltNames, X.mg y = none) (E : ExR X.K X.mg C x) (hz : Zc (.ref C) dd oe) (hf : ∃ vs, oe.data = .fields vs) : ∀ t : T, (∀ ex, chkH X.N X.env.scope i t ex = true → PE (X.suite a ((a, oe) :: pn)) ex (tH X.K cA C a i x dd ag t)) ∧
    (∀ es, chkHs X.N X.env.scope i t es = true → PA (X.suite a ((a, oe) :: pn)) es (tHs X.K cA C a i x dd ag t) ∧ ∀ e ∈ es, pl e = true) := by
  intro t
  induction t with
  | isx cs => exact ⟨h_isx hbl E hz hf cs, fun es h => no_tf (dead_Hs h) rfl⟩
  | var j =>
    refine ⟨fun ex h => ?_, fun es h => no_tf (dead_Hs h) rfl⟩
    cases ex with
    | Name y p =>
      have h : (decide (X.N[j]? = some y) && visB X.env.scope y && nmOk y) = true := h
      rw [Bool.and_eq_true, Bool.and_eq_true, decide_eq_true_eq] at h
      refine PE.imp (pe_var (i := j) h.1.1 (visB_ok h.1.2) (nmOk_ok h.2).1 (nmOk_ok h.2).2.1) fun σ H Q ⟨s, env, e, ok, re, hi, dk, q⟩ => ?_
      subst e
      have q0 : Post X.K cA s σ W0 (match env[j]? with
        | some (some d) => .ok d s.st
        | _ => .err) (PQ X.K Q) := q
      split at q0
      · rename_i d hd
        obtain ⟨v, h1, h2⟩ := re.at_ j d hd
        exact ⟨v, h1, post_val ok q0 h2⟩
      · exact q0.elim
    | _ => cases h
  | hfld =>
    refine ⟨fun ex h => ?_, fun es h => no_tf (dead_Hs h) rfl⟩
    simp only [chkH] at h
    split at h
    · rename_i y py xn p
      simp only [Bool.and_eq_true, decide_eq_true_eq] at h
      obtain ⟨⟨⟨h1, h2⟩, h3⟩, h4⟩ := h
      subst h1
      by_cases hno : PySem.W.findIn X.K (.ref C) "number" = some none
      · have pv : PE (X.suite a ((a, oe) :: pn)) (.Name y py) (tVar i) := pe_var h2 (visB_ok h3) (nmOk_ok h4).1 (nmOk_ok h4).2.1
        refine PE.imp (pe_xf ⟨E.eC.hg, E.eC.hk, E.eC.hs, E.eC.hd⟩ hno hz hf pv rfl) fun σ H Q ⟨s, env, e, ok, re, hi, dk, q⟩ => ?_
        subst e
        rcases dk with ⟨_, d2⟩ | ⟨d, k, d1, d2, d3, _, _⟩
        · subst d2; exact q.elim
        · subst d2
          have q0 : Post X.K cA s σ W0 (.ok (.int k) s.st) (PQ X.K Q) := q
          exact ⟨_, hi, rfl, rfl, d, _, .int k, d1, d3, rfl, post_ok ok q0 _ (.dat (.int _))⟩
      · refine ⟨fun pins s σ H Q I ⟨s', env, e, ok, re, hi, dk, q⟩ => ?_⟩
        exfalso
        rcases dk with ⟨_, d2⟩ | ⟨d, k, d1, d2, d3, _, d5⟩
        · subst d2; exact q.elim
        · exact hno d5
    · cases h
  | con d =>
    refine ⟨fun ex h => ?_, fun es h => no_tf (dead_Hs h) rfl⟩
    have h' : chkE X.N ([] : List Fn) X.env.scope (.con d) ex = true := by
      cases ex with
      | Constant c k p => exact h
      | _ => cases h
    refine PE.imp ((p_con (Fs := []) (cA := cA) (n := 0) (X := X.suite a ((a, oe) :: pn)) (W := W0) d).e ex h') fun σ H Q ⟨s, env, e, ok, re, hi, dk, q⟩ => ⟨s, env, e, ok, re, q⟩
  | tup es ie =>
    refine ⟨fun ex h => ?_, fun es h => no_tf (dead_Hs h) rfl⟩
    simp only [chkH] at h
    split at h
    · rename_i vs k p
      refine PE.imp (pe_tup (ie.2 vs h).1) fun σ H Q ⟨s, env, e, ok, re, hi, dk, q⟩ => ?_
      subst e
      have q0 : Post X.K cA s σ W0 ((hvs x ag es env s.st).bind fun ds st1 => tupF ds st1) (PQ X.K Q) := q
      refine ⟨s, env, rfl, ok, re, hi, dk, q0.split.mono fun ds s1 o1 l1 q1 xs rxs => ?_⟩
      unfold tupF at q1
      split at q1
      · rename_i hz
        have rd := rxs.rds hz.1
        exact ⟨by rw [← rd.length]; exact hz.2, fun p hp => q1 (s1.put p (.tup xs)) rfl (Sit.put_ok o1 hp) (Sit.put_le hp) _ (.dat (.tup upd_same (RDs.le o1 (Sit.put_le hp) rd)))⟩
      · exact q1.elim
    · cases h
  | sub u b iu ib =>
    refine ⟨fun ex h => ?_, fun es h => no_tf (dead_Hs h) rfl⟩
    cases b with
    | con d =>
      cases d with
      | int k =>
        simp only [chkH] at h
        split at h
        · rename_i l r p
          simp only [Bool.and_eq_true] at h
          obtain ⟨⟨h1, h2⟩, h3⟩ := h
          have h2' : chkH X.N X.env.scope i (.con (.int k)) r = true := by
            simp only [chkH]; exact h2
          refine PE.imp (pe_ix (ix_seq.or (ix_dict hu)) (iu.1 l h1) (ib.1 r h2') (ix_pl h3)) fun σ H Q ⟨s, env, e, ok, re, hi, dk, q⟩ => ?_
          subst e
          have q0 : Post X.K cA s σ W0 ((hv x ag u env s.st).bind fun d st1 => subIx d (.int k) st1) (PQ X.K Q) := q
          refine ⟨s, env, rfl, ok, re, hi, dk, q0.split.mono fun d s1 o1 l1 q1 v rv => ⟨s1, env, rfl, o1, re.le ok l1, hi, dk.le l1, ?_⟩⟩
          show Post X.K cA s1 σ W0 (Res.ok (Zn.D.int k) s1.st) _
          exact fun s2 e2 o2 l2 w hw => ops_ix s2 σ W0 d (Zn.D.int k) v w Q o2 (rv.le o1 l2) hw (by rw [e2]; exact q1.le l2)
        · cases h
      | _ => exact no_tf (dead_H h) rfl
    | _ => exact no_tf (dead_H h) rfl
  | lst m es ie =>
    refine ⟨fun ex h => ?_, fun es h => no_tf (dead_Hs h) rfl⟩
    cases ex with
    | List vs p =>
      have h : chkHs X.N X.env.scope i es vs = true := h
      refine PE.imp (pe_lst (ie.2 vs h).1) fun σ H Q ⟨s, env, e, ok, re, hi, dk, q⟩ => ?_
      subst e
      have q0 : Post X.K cA s σ W0 ((hvs x ag es env s.st).bind fun ds st1 => lstF m ds st1) (PQ X.K Q) := q
      refine ⟨s, env, rfl, ok, re, hi, dk, q0.split.mono fun ds s1 o1 l1 q1 xs rxs => ?_⟩
      unfold lstF at q1
      split at q1
      · rename_i hz
        have rd := rxs.rds hz.1
        exact ⟨by rw [← rd.length]; exact hz.2, post_mk o1 rd q1⟩
      · exact q1.elim
    | _ => cases h
  | nil =>
    refine ⟨fun ex h => no_tf (dead_H h) rfl, fun es h => ?_⟩
    cases es with
    | nil => exact ⟨PA.imp pa_nil fun σ H Q ⟨s, env, e, ok, re, hi, dk, q⟩ => by subst e; exact post_ok ok (show Post X.K cA s σ W0 (.ok [] s.st) _ from q) _ .nil, fun e he => by cases he⟩
    | cons _ _ => cases h
  | cons t ts it its =>
    refine ⟨fun ex h => no_tf (dead_H h) rfl, fun es h => ?_⟩
    cases es with
    | nil => cases h
    | cons v vs =>
      have h : (pl v && chkH X.N X.env.scope i t v && chkHs X.N X.env.scope i ts vs) = true := h
      rw [Bool.and_eq_true, Bool.and_eq_true] at h
      obtain ⟨⟨h1, h2⟩, h3⟩ := h
      obtain ⟨q1, q2⟩ := its.2 vs h3
      refine ⟨PA.imp (pa_cons (it.1 v h2) q1 (star_pl h1)) fun σ H Q ⟨s, env, e, ok, re, hi, dk, q⟩ => ?_, fun u hu => (List.mem_cons.mp hu).elim (fun z => by rw [z]; exact h1) (q2 u)⟩
      subst e
      have q0 : Post X.K cA s σ W0 ((hv x ag t env s.st).bind fun d st1 => (hvs x ag ts env st1).bind fun ds st2 => .ok (d :: ds) st2) (fun ds s' => ∀ vs, Reps X.K s' ds vs → Q vs s'.H) := q
      exact ⟨s, env, rfl, ok, re, hi, dk, q0.split.mono fun d s1 o1 l1 q1 v rv => ⟨s1, env, rfl, o1, re.le ok l1, hi, dk.le l1, q1.split.mono fun ds s2 o2 l2 q2 vs rvs => post_ok o2 q2 _ (.cons (rv.le o1 l2) rvs)⟩⟩
  | _ => exact ⟨fun ex h => no_tf (dead_H h) rfl, fun es h => no_tf (dead_Hs h) rfl⟩

theorem chkH_comp {N : List Str} {sc : Scope} {i : Nat} {e : T} {e' : Expr} {gs : List Comprehension} {scope : Scope} {pos : Pos} (h : chkH N sc i e (.ListComp e' gs scope pos) = true) : False := by
  unfold chkH at h
  split at h <;> simp at h
/-! ### the suite's statements -/
theorem PostH.le {s s' : Sit} {r : SRes} {D : Ends} (e : s.Le s') (h : PostH X.K C dd ag s a i r D) : PostH X.K C dd ag s' a i r D := by
  cases r with
  | nx env st => exact fun t σ h1 h2 h3 h4 => h t σ h1 h2 (e.trans h3) h4
  | _ => exact h
theorem PostH.split {α : Type} {s : Sit} {σ : L2.St} {r : Res α} {env : Env} {k : α → Store → SRes} {D : Ends} (h : PostH X.K C dd ag s a i (r.thenS env k) D) : Post X.K cA s σ W0 r fun d s1 => PostH X.K C dd ag s1 a i (k d s1.st) D := by
  cases r with
  | ok d st =>
    intro t h1 h2 h3
    have h : PostH X.K C dd ag s a i (k d st) D := h
    rw [← h1] at h
    exact h.le h3
  | exc x st => exact False.elim h
  | err => exact h
theorem x_all (hu : X.A.units + 1 < cLine) (hbl : ∀ y ∈ bltNames, X.mg y = none) (nd : X.N.Nodup) (fnT : ∀ y, X.fn y = true) (E : ExR X.K X.mg C x) (hz : Zc (.ref C) dd oe) (hf : ∃ vs, oe.data = .fields vs) : ∀ t : T, (∀ st, chkX X.N X.env.scope i t st = true → PS (X.suite a ((a, oe) :: pn)) st (tX X.K C a i x dd ag t)) ∧
    (∀ st, chkXs X.N X.env.scope i t st = true → PSs (X.suite a ((a, oe) :: pn)) st (tX X.K C a i x dd ag t)) := by
  have ha := fun t => h_all (cA := fun _ => none) (a := a) (pn := pn) (i := i) (ag := ag) hu hbl E hz hf t
  intro t
  induction t with
  | sset tg e _ _ =>
    refine ⟨fun st h => ?_, fun st h => no_tf (dead_Xs h) rfl⟩
    cases tg with
    | tnm j =>
      cases st with
      | Assign gs v p =>
        match gs, h with
        | [.Name y px], h =>
          have h : (decide (j ≠ i) && decide (X.N[j]? = some y) && wrB X.env.scope y && chkH X.N X.env.scope i e v && pl v) = true := h
          rw [Bool.and_eq_true, Bool.and_eq_true, Bool.and_eq_true, Bool.and_eq_true, decide_eq_true_eq, decide_eq_true_eq] at h
          obtain ⟨⟨⟨⟨h1, h2⟩, h3⟩, h4⟩, h5⟩ := h
          have hc : isComp v = false := by
            cases v with
            | ListComp _ _ _ _ => exact (chkH_comp h4).elim
            | _ => rfl
          refine PS.imp (ps_set (X := X.suite a ((a, oe) :: pn)) nd h2 (wrB_ok h3) ((ha e).1 v h4) (sw_pl h5 hc) (.inl (fnT y))) fun D σ H ⟨s, env, eH, ok, re, hi, dk, q⟩ => ?_
          subst eH
          have q0 : PostH X.K C dd ag s a i ((hv x ag e env s.st).thenS env fun d st1 => if j < env.length then .nx (env.set j (some d)) st1 else .err) D := q
          refine ⟨s, env, rfl, ok, re, hi, dk, (q0.split (cA := fun _ => none) (σ := σ)).mono fun d s1 o1 l1 q1 v hv => ?_⟩
          split at q1
          · exact q1 s1 _ rfl o1 (Sit.Le.refl _) ((re.le ok l1).set hv) (by rw [List.getElem?_set_ne h1]; exact hi)
          · exact q1.elim
      | _ => cases h
    | _ => exact no_tf (dead_X h) rfl
  | sexp e0 _ =>
    refine ⟨fun st h => ?_, fun st h => no_tf (dead_Xs h) rfl⟩
    obtain ⟨j, e, rfl⟩ := x_shape h
    simp only [chkX] at h
    split at h
    · rename_i y py xn apos v pos p
      have h : (decide (xn = ("append" : Str)) && (apos.endLine == pos.line) && chkH X.N X.env.scope i (.var j) (.Name y py) && chkH X.N X.env.scope i e v && pl v) = true := h
      rw [Bool.and_eq_true, Bool.and_eq_true, Bool.and_eq_true, Bool.and_eq_true, decide_eq_true_eq] at h
      obtain ⟨⟨⟨⟨h1, h2⟩, h3⟩, h4⟩, h5⟩ := h
      subst h1
      have pA : PA (X.suite a ((a, oe) :: pn)) [v] _ := pa_cons ((ha e).1 v h4) pa_nil (star_pl h5)
      have pM := pe_bm PySem.F.plainAttrs_list PySem.F.slot_list_append PySem.F.type_list_append mt_append ((ha (.var j)).1 (.Name y py) h3) pA (at_pl rfl) (by rw [star_pl h5]; rfl) h2 (star_pl h5)
      refine PS.imp (ps_expr (X := X.suite a ((a, oe) :: pn)) pM (sw_pl rfl rfl)) fun D σ H ⟨s, env, eH, ok, re, hi, dk, q⟩ => ?_
      subst eH
      have q0 : PostH X.K C dd ag s a i ((hv x ag (.var j) env s.st).thenS env fun l st1 => match lstOf st1 l with
        | none => .err
        | some _ => (hv x ag e env st1).thenS env fun d st2 => (mthF .append l [d] st2).thenS env fun _ st3 => .nx env st3) D := q
      refine ⟨s, env, rfl, ok, re, hi, dk, (q0.split (cA := fun _ => none) (σ := σ)).mono fun l s1 o1 l1 q1 xv rx => ?_⟩
      cases hl : lstOf s1.st l with
      | none => rw [hl] at q1; exact q1.elim
      | some ys =>
        rw [hl] at q1
        obtain ⟨b, ws, rfl, hb, _⟩ := lstOf_ok o1 rx hl
        refine ⟨.inl ⟨rfl, _, SqL.of hb⟩, s1, env, rfl, o1, re.le ok l1, hi, dk.le l1, (PostH.split (cA := fun _ => none) (σ := σ) q1).mono fun d s2 o2 l2 q2 v2 r2 => ?_⟩
        have q3 := PostH.split (cA := fun _ => none) (σ := σ) q2
        have rx2 := rx.le o1 l2
        cases rx2 with
        | ref ha2 =>
          rename_i lx
          have q4 : Post X.K (fun _ => none) s2 σ W0 (match s2.st[lx]? with
            | some (some (.lst xs)) => if d.isRef = false ∧ xs.length < sizeLine then (Res.ok Zn.D.non (s2.st.set lx (some (.lst (xs ++ [d])))) : Res Zn.D) else .err
            | _ => .err) (fun d s1 => PostH X.K C dd ag s1 a i (.nx env s1.st) D) := q3
          split at q4
          · rename_i zs hc
            split at q4
            · rename_i hz
              obtain ⟨vs, k1, r1⟩ := o2.cell _ _ _ hc ha2
              refine ⟨_, vs, v2, rfl, rfl, k1, by rw [← r1.length]; exact hz.2, ?_⟩
              have := chg_post (K := X.K) (Q := fun _ H => D.nx σ H) o2 hc ha2 (r1.snoc (r2.rd hz.1)) .non (q4.mono fun d s3 o3 l3 q3 v3 _ => q3 s3 σ rfl o3 (Sit.Le.refl _) (((re.le ok l1).le o1 l2).le o2 l3) hi)
              exact this
            · exact q4.elim
          · exact q4.elim
        | dat rx => cases rx <;> exact q3.elim
        | ins => exact q3.elim
        | lr => exact q3.elim
    · cases h
  | sif c u b _ iu ib =>
    refine ⟨fun st h => ?_, fun st h => no_tf (dead_Xs h) rfl⟩
    cases c with
    | isx cs =>
      simp only [chkX] at h
      split at h
      · rename_i t l r p
        simp only [Bool.and_eq_true] at h
        obtain ⟨⟨h1, h2⟩, h3⟩ := h
        have h1' : chkH X.N X.env.scope i (.isx cs) t = true := by simp only [chkH]; exact h1
        have pt : plT t = true := by
          cases t with
          | Call _ _ _ _ => rfl
          | _ => cases h1'
        refine PS.imp (ps_if (pt_val ((ha (.isx cs)).1 t h1') (isT_plain pt)) (iu.2 l h2) (ib.2 r h3)) fun D σ H ⟨s, env, eH, ok, re, hi, dk, q⟩ => ?_
        subst eH
        have q0 : PostH X.K C dd ag s a i (if cs.any (subC x) = true then hs x ag u env s.st else hs x ag b env s.st) D := q
        refine ⟨s, env, rfl, ok, re, hi, dk, ?_⟩
        show Post X.K _ s σ W0 (Res.ok (Zn.D.bl (cs.any (subC x))) s.st) _
        intro s1 e1 o1 l1 v hv
        cases rep_bl hv
        refine ⟨_, rfl, ?_⟩
        cases hb : cs.any (subC x) with
        | true =>
          rw [hb, if_pos rfl] at q0
          rw [if_pos rfl]
          exact ⟨s1, env, rfl, o1, re.le ok l1, hi, dk.le l1, by rw [e1]; exact q0.le l1⟩
        | false =>
          rw [hb, if_neg Bool.false_ne_true] at q0
          rw [if_neg Bool.false_ne_true]
          exact ⟨s1, env, rfl, o1, re.le ok l1, hi, dk.le l1, by rw [e1]; exact q0.le l1⟩
      · cases h
    | _ => exact no_tf (dead_X h) rfl
  | nil =>
    refine ⟨fun st h => no_tf (dead_X h) rfl, fun st h => ?_⟩
    cases st with
    | nil =>
      refine PSs.imp pss_nil fun D σ H ⟨s, env, eH, ok, re, hi, dk, q⟩ => ?_
      subst eH
      have q0 : PostH X.K C dd ag s a i (.nx env s.st) D := q
      exact q0 s σ rfl ok (Sit.Le.refl _) re hi
    | cons _ _ => cases h
  | cons t ts it its =>
    refine ⟨fun st h => no_tf (dead_X h) rfl, fun st h => ?_⟩
    cases st with
    | nil => cases h
    | cons y l =>
      have h : (chkX X.N X.env.scope i t y && chkXs X.N X.env.scope i ts l) = true := h
      rw [Bool.and_eq_true] at h
      refine PSs.imp (pss_cons (it.1 y h.1) (its.2 l h.2)) fun D σ H ⟨s, env, eH, ok, re, hi, dk, q⟩ => ?_
      subst eH
      refine ⟨s, env, rfl, ok, re, hi, dk, ?_⟩
      have q0 : PostH X.K C dd ag s a i ((hs x ag t env s.st).andThen fun env1 st1 => hs x ag ts env1 st1) D := q
      cases r : hs x ag t env s.st with
      | nx env1 st1 =>
        rw [r] at q0
        have q0 : PostH X.K C dd ag s a i (hs x ag ts env1 st1) D := q0
        intro s1 σ1 e1 o1 l1 re1 hi1
        exact ⟨s1, env1, rfl, o1, re1, hi1, dk.le l1, by rw [e1]; exact q0.le l1⟩
      | bk env1 st1 => rw [r] at q0; exact q0
      | ct env1 st1 => rw [r] at q0; exact q0
      | rt d st1 => rw [r] at q0; exact q0
      | exc z env1 st1 => rw [r] at q0; exact q0
      | err => rw [r] at q0; exact q0
  | _ => exact ⟨fun st h => no_tf (dead_X h) rfl, fun st h => no_tf (dead_Xs h) rfl⟩
end
theorem RE.wipe1 {K : PySem.W.Frag} {s : Sit} {env : Env} {σ : L2.St} (r : RE K s env σ) (i : Nat) (v : Option V) : RE K s (env.set i none) (σ.set i v) := by
  refine ⟨by rw [List.length_set, List.length_set]; exact r.len, fun j d h => ?_⟩
  by_cases e : i = j
  · subst e
    by_cases hi : i < env.length
    · rw [List.getElem?_set_self hi] at h; cases h
    · rw [List.getElem?_eq_none (by simpa using hi)] at h; cases h
  · rw [List.getElem?_set_ne e] at h
    rw [List.getElem?_set_ne e]
    exact r.at_ j d h
theorem Cs.tr (g : Cs Fs cA n X W) {W' : WX} {pn : List (Addr × Obj)} {xe : Value → Shared → Prop} (tk : Takes (X.tr pn xe) W') (po : PassesOwn (model X.prog X.w) X.A X.env xe) : Cs Fs cA n (X.tr pn xe) W' :=
  ⟨⟨g.calm, g.nd, g.room, g.bl, tk, TakesF.of g.frm tk, g.fr, g.gi, g.gs, g.ex, g.rz, g.al, g.me, g.mkI, g.fn⟩, po, g.fnT, g.stk, g.frm, g.exn⟩
theorem s_try (g : Cs Fs cA n X W) {b : T} (ib : ∀ {X' : Cx} {W' : WX}, Cs Fs cA n X' W' → ∀ st, chkSs X'.N Fs X'.env.scope b st = true → PSs X' st (tS X'.K cA (cf Fs n) W' b)) {c i : Nat} {h : T} {st : Stmt} (z : chkS X.N Fs X.env.scope (.stry b c i h) st = true) :
    PS X st (tS X.K cA (cf Fs n) W (.stry b c i h)) := by
  simp only [chkS] at z
  split at z
  · skip
    · rename_i body x px m s0 ss p2 p
      have z : (chkSs X.N Fs X.env.scope b body && decide (cn c = x) && glB X.env.scope x && nmOk x && decide (c < 7) && (List.range 7).any (rzB Fs) && decide (X.N[i]? = some m) && decide (X.env.scope.names.lookup m = some .local) && chkXs X.N X.env.scope i h (s0 :: ss)) = true := z
      simp only [Bool.and_eq_true, decide_eq_true_eq] at z
      obtain ⟨⟨⟨⟨⟨⟨⟨⟨z1, z2⟩, z3⟩, z4⟩, z5⟩, z6⟩, z7⟩, z8⟩, z9⟩ := z
      subst z2
      obtain ⟨r0, _, hr0⟩ := List.any_eq_true.mp z6
      obtain ⟨C0, hC0⟩ := g.rz r0 hr0
      obtain ⟨Cc, _, hCc, _, _⟩ := (g.ex r0 C0 hC0).at_ c z5
      refine PS.imp (ps_try_as (i := i) (c := .ref Cc) g.stk g.frm g.nd z7 z8 ⟨glB_ok z3, (nmOk_ok z4).1, .inl hCc⟩ g.takes (tb := fun W' => tS X.K cA (cf Fs n) W' b)
        (ts := fun a cls d D σ H => ∃ xc C ag, cls = .ref C ∧ cA xc = some C ∧ tX X.K C a i xc d ag h D σ H)
        (fun W' pn xe tk po => ib (g.tr tk po) body z1) (fun a oe cls d pn hz hf => ⟨fun pins s σ H D I hw => ?_⟩)) fun D σ H ⟨s, env, eH, ok, re, q⟩ => ?_
      · obtain ⟨xc, C, ag, rfl, hC, hw⟩ := hw
        exact ((x_all (by have := g.toCg.hu; omega) g.bl g.nd g.fnT (g.ex xc C hC) hz hf h).2 (s0 :: ss) z9).run pins s σ H D I hw
      · subst eH
        refine ⟨s, env, rfl, ok, re, ?_⟩
        have q0 : PostS X.K cA s W (tryK i c h (ex (cf Fs n) b env s.st)) D := q
        cases r : ex (cf Fs n) b env s.st with
        | exc y env1 st1 =>
          rw [r] at q0
          obtain ⟨yc, ya⟩ := y
          intro s' σ' cls dd e1 o1 l1 re1 rx
          have rx0 := rx
          obtain ⟨C, hC, rfl, hdd⟩ := rx
          have E := g.ex yc C hC
          obtain ⟨C', _, hC', _, hx⟩ := E.at_ c z5
          rw [hCc] at hC'
          cases hC'
          have q1 : PostS X.K cA s W (if i < env1.length then (if subC yc c = true then (match argI ya with
            | some ag => wipeH i (hs yc ag h (env1.set i none) st1)
            | none => .err) else .exc ⟨yc, ya⟩ env1 st1) else .err) D := q0
          have hi : i < env1.length := by
            by_cases hi : i < env1.length
            · exact hi
            · rw [if_neg hi] at q1
              exact q1.elim
          rw [if_pos hi] at q1
          rw [re1.len] at hi
          refine ⟨subC yc c, hx, fun hb a na => ?_, fun hb => ?_⟩
          · rw [if_pos hb] at q1
            obtain ⟨ag, hag, dk⟩ : ∃ ag, argI ya = some ag ∧ DOk X.K C s' dd ag := by
              cases ya with
              | none =>
                have hdd : dd = none := hdd
                exact ⟨none, rfl, .inl ⟨hdd, rfl⟩⟩
              | some y =>
                obtain ⟨ad, v, h1, h2, h3, h4, h5⟩ := hdd
                cases y with
                | int k => cases h5; exact ⟨some k, rfl, .inr ⟨ad, k, h1, rfl, h2, h3, h4⟩⟩
                | _ => exact q1.elim
            rw [hag] at q1
            have q1 : PostS X.K cA s W (wipeH i (hs yc ag h (env1.set i none) st1)) D := q1
            refine ⟨yc, C, ag, rfl, hC, s', env1.set i none, rfl, o1, re1.wipe1 i _, by rw [List.getElem?_set_self hi], dk, ?_⟩
            rw [e1]
            cases r2 : hs yc ag h (env1.set i none) st1 with
            | nx env2 st2 =>
              rw [r2] at q1
              have q1 : PostS X.K cA s W (.nx (env2.set i none) st2) D := q1
              intro s2 σ2 e2 o2 l2 re2 _
              exact q1 s2 _ e2 o2 (l1.trans l2) (re2.wipe1 i none)
            | _ => rw [r2] at q1; exact q1.elim
          · rw [hb, if_neg Bool.false_ne_true] at q1
            exact q1 s' σ' _ _ e1 o1 l1 re1 rx0
        | nx env1 st1 => rw [r] at q0; exact q0
        | bk env1 st1 => rw [r] at q0; exact q0
        | ct env1 st1 => rw [r] at q0; exact q0
        | rt d st1 => rw [r] at q0; exact q0
        | err => rw [r] at q0; exact q0
  · cases z
theorem s_tryv (g : Cs Fs cA n X W) {b : T} (ib : ∀ {X' : Cx} {W' : WX}, Cs Fs cA n X' W' → ∀ st, chkSs X'.N Fs X'.env.scope b st = true → PSs X' st (tS X'.K cA (cf Fs n) W' b)) {c i j : Nat} {st : Stmt} (z : chkS X.N Fs X.env.scope (.stryv b c i j) st = true) :
    PS X st (tS X.K cA (cf Fs n) W (.stryv b c i j)) := by
  simp only [chkS] at z
  split at z
  · rename_i body x px m y py m2 p3 p4 p2 p
    · have z : (chkSs X.N Fs X.env.scope b body && decide (cn c = x) && glB X.env.scope x && nmOk x && decide (c < 7) && (List.range 7).any (rzB Fs) && decide (X.N[i]? = some m) && decide (X.env.scope.names.lookup m = some .local) && decide (m2 = m) && nmOk m && decide (i ≠ j) && decide (X.N[j]? = some y) && wrB X.env.scope y) = true := z
      simp only [Bool.and_eq_true, decide_eq_true_eq] at z
      obtain ⟨⟨⟨⟨⟨⟨⟨⟨⟨⟨⟨⟨z1, z2⟩, z3⟩, z4⟩, z5⟩, z6⟩, z7⟩, z8⟩, z9⟩, z10⟩, z11⟩, z12⟩, z13⟩ := z
      subst z2
      subst z9
      obtain ⟨Cc, _, hCc⟩ := known_of g.toCg z6 c z5
      refine PS.imp (ps_try_keep (i := i) (j := j) (c := .ref Cc) g.exn g.stk g.frm g.nd z7 z12 z11 z8 (wrB_ok z13) (.inl (g.fnT y)) ⟨(nmOk_ok z10).1, (nmOk_ok z10).2.1⟩ ⟨glB_ok z3, (nmOk_ok z4).1, .inl hCc⟩ g.takes (tb := fun W' => tS X.K cA (cf Fs n) W' b)
        (fun W' pn xe tk po => ib (g.tr tk po) body z1)) fun D σ H ⟨s, env, eH, ok, re, q⟩ => ?_
      subst eH
      refine ⟨s, env, rfl, ok, re, ?_⟩
      have q0 : PostS X.K cA s W (tryV i j c (ex (cf Fs n) b env s.st)) D := q
      cases r : ex (cf Fs n) b env s.st with
      | exc y env1 st1 =>
        rw [r] at q0
        obtain ⟨yc, ya⟩ := y
        intro s' σ' cls dd e1 o1 l1 re1 rx
        have rx0 := rx
        obtain ⟨C, hC, rfl, hdd⟩ := rx
        have E := g.ex yc C hC
        obtain ⟨C', _, hC', _, hx⟩ := E.at_ c z5
        rw [hCc] at hC'
        cases hC'
        have q1 : PostS X.K cA s W (if i < env1.length ∧ j < env1.length then (if subC yc c = true then (match argI ya with
          | some n => .nx (((env1.set i none).set j (some (.exn yc n))).set i none) st1
          | none => .err) else .exc ⟨yc, ya⟩ env1 st1) else .err) D := q0
        have hi : i < env1.length ∧ j < env1.length := by
          by_cases hi : i < env1.length ∧ j < env1.length
          · exact hi
          · rw [if_neg hi] at q1
            exact q1.elim
        rw [if_pos hi] at q1
        refine ⟨subC yc c, hx, fun hb a na => ⟨C, rfl, ?_⟩, fun hb => ?_⟩
        · rw [if_pos hb] at q1
          have fin : ∀ n : Option Int, argI ya = some n → D.nx (((σ'.set i (some (.ref a))).set j (some (.ref a))).set i none) (upd s'.H a (exV a C dd)) := by
            intro n hn
            rw [hn] at q1
            have o2 : (s'.put a (exV a C dd)).Ok X.K := Sit.put_ok o1 na
            have l2 : s'.Le (s'.put a (exV a C dd)) := Sit.put_le na
            have re2 := ((re1.le o1 l2).wipe1 i (some (.ref a)))
            have rep : Rep X.K (s'.put a (exV a C dd)) (.exn yc n) (.ref a) := by
              refine .dat (.exn (C := C) (dd := dd) upd_same (Sit.notM o1 na) E.exK (fun d hd => ?_) fun hd => ?_)
              · cases ya with
                | none =>
                  have hdd : dd = none := hdd
                  rw [hdd] at hd; cases hd
                | some y =>
                  obtain ⟨ad, v, h1, h2, h3, h4, h5⟩ := hdd
                  rw [h1] at hd
                  cases hd
                  cases y with
                  | int k =>
                    cases hn
                    cases h5
                    exact ⟨(l2.keep _ _ h2 h3).2, k, rfl, (l2.keep _ _ h2 h3).1, h4⟩
                  | _ => cases hn
              · cases ya with
                | none => cases hn; rfl
                | some y =>
                  obtain ⟨ad, v, h1, _⟩ := hdd
                  rw [h1] at hd; cases hd
            exact q1 (s'.put a (exV a C dd)) _ e1 o2 (l1.trans l2) ((re2.set rep).wipe1 i none)
          cases hn : argI ya with
          | none => rw [hn] at q1; exact q1.elim
          | some n => exact fin n hn
        · rw [hb, if_neg Bool.false_ne_true] at q1
          exact q1 s' σ' _ _ e1 o1 l1 re1 rx0
      | nx env1 st1 => rw [r] at q0; exact q0
      | bk env1 st1 => rw [r] at q0; exact q0
      | ct env1 st1 => rw [r] at q0; exact q0
      | rt d st1 => rw [r] at q0; exact q0
      | err => rw [r] at q0; exact q0
  · cases z
end
end Zn

/-! Zn, part C: every statement; every def. -/
namespace Zn
open PySem PySem.Spec PyProof.Rows L2
section
variable {Fs : List Fn} {cA : Nat → Option Addr} {n : Nat} {X : Cx} {W : WX}

theorem asg_imp {tg e : T} : ∀ D σ H, tS X.K cA (cf Fs n) W (.sset tg e) D σ H → tAsg (tE X.K cA (cf Fs n) W e) (tG X.K cA (cf Fs n) tg) D σ H := by
  intro Dn σ H ⟨s, env, eH, ok, re, q⟩
  subst eH
  have q0 : PostS X.K cA s W ((ev (cf Fs n) e env s.st).thenS env fun d st1 => match asg (cf Fs n) tg d env st1 with
    | some (env2, st2) => .nx env2 st2
    | none => .err) Dn := q
  refine ⟨s, env, rfl, ok, re, (q0.split ok re).mono fun d s1 o1 l1 q1 v hv => ?_⟩
  cases ha : asg (cf Fs n) tg d env s1.st with
  | none => rw [ha] at q1; exact q1.elim
  | some p =>
    obtain ⟨env2, st2⟩ := p
    rw [ha] at q1
    exact ⟨s1, env, d, env2, st2, rfl, o1, re.le ok l1, hv, ha, q1⟩
theorem name_of {i : Nat} : ∀ D σ H, tS X.K cA (cf Fs n) W (.sset (.tnm i) e) D σ H → tAsg (tE X.K cA (cf Fs n) W e) (gName i) D σ H := by
  intro Dn σ H ⟨s, env, eH, ok, re, q⟩
  subst eH
  have q0 : PostS X.K cA s W ((ev (cf Fs n) e env s.st).thenS env fun d st1 => match asg (cf Fs n) (.tnm i) d env st1 with
    | some (env2, st2) => .nx env2 st2
    | none => .err) Dn := q
  refine ⟨s, env, rfl, ok, re, (q0.split ok re).mono fun d s1 o1 l1 q1 v hv => ?_⟩
  cases ha : asg (cf Fs n) (.tnm i) d env s1.st with
  | none => rw [ha] at q1; exact q1.elim
  | some p =>
    obtain ⟨env2, st2⟩ := p
    rw [ha] at q1
    have ha : (if i < env.length then some (env.set i (some d), s1.st) else none) = some (env2, st2) := ha
    split at ha
    · cases ha
      exact q1 s1 _ rfl o1 (Sit.Le.refl _) ((re.le ok l1).set hv)
    · cases ha
theorem comp_tree {t : T} {e' : Expr} {gs : List Comprehension} {scope : Scope} {p : Pos} (h : chkE X.N Fs X.env.scope t (.ListComp e' gs scope p) = true) : ∃ m src tg own cond elt, t = .comp m src tg own cond elt := by
  cases t with
  | comp m src tg own cond elt => exact ⟨m, src, tg, own, cond, elt, rfl⟩
  | frz a =>
    have h : (chkE X.N Fs X.env.scope a (.ListComp e' gs scope p) && !true) = true := h
    simp at h
  | _ => cases h
theorem s_set (g : Cs Fs cA n X W) {tg e : T} {tg' v : Expr} {p : Pos} (h1 : chkG X.N Fs X.env.scope tg tg' = true) (h2 : chkE X.N Fs X.env.scope e v = true) (h3 : pl v = true) (h4 : (!swapped tg v || noSw X.env.scope tg') = true) :
    PS X (.Assign [tg'] v p) (tS X.K cA (cf Fs n) W (.sset tg e)) := by
  have ge := p_all (cA := cA) e n X W g.toCg
  cases tg with
  | tnm i =>
    cases tg' with
    | Name x px =>
      have h0 := h1
      have h1 : (decide (X.N[i]? = some x) && wrB X.env.scope x) = true := h1
      rw [Bool.and_eq_true, decide_eq_true_eq] at h1
      cases hc : isComp v with
      | false => exact PS.imp (ps_set g.nd h1.1 (wrB_ok h1.2) (ge.e v h2) (sw_pl h3 hc) (.inl (g.fnT x))) name_of
      | true =>
        cases v with
        | ListComp e' gs scope pv =>
          obtain ⟨m, src, tg2, own, cond, elt, rfl⟩ := comp_tree h2
          obtain ⟨e2, tg'', iter, ifs, sc2, p2, eq, c⟩ := comp_parts g.toCg m own (p_all src n X W g.toCg) (fun X' W' g' => p_all cond n X' W' g') (fun X' W' g' => p_all elt n X' W' g') h2
          cases eq
          obtain ⟨b, hb⟩ : ∃ b, b = (X.env.blockKind == .function && X.env.kindOf x == some .local && px.line == pv.line && !(scope.names.any fun (n, k) => n == x && (k == .local || k == .cell))) := ⟨_, rfl⟩
          have hs : swapsWith (.ListComp e' [⟨tg'', iter, ifs, 0⟩] scope pv) (some (.Name x px)) p.line X.env = pure b := by rw [hb]; rfl
          cases b with
          | false => exact PS.imp (ps_set g.nd h1.1 (wrB_ok h1.2) (ge.e _ h2) hs (.inl (g.fnT x))) name_of
          | true =>
            have hl : X.env.scope.names.lookup x = some .local := by
              have := hb.symm
              rw [Bool.and_eq_true, Bool.and_eq_true, Bool.and_eq_true] at this
              exact beq_iff_eq.mp this.1.1.2
            exact PS.imp (ps_setLcE g.fr g.tkF g.calm g.nd h1.1 hl hs c.pi c.blk c.pg c.pc c.pt (fold_pl c.hpl)) fun D σ H hh => comp_imp m own c.sl _ _ _ (name_of D σ H hh)
        | _ => cases hc
    | _ => cases h1
  | tix a i =>
    cases tg' with
    | Subscript l r px =>
      refine PS.imp (ps_asg (ge.e v h2) ((g_all g _).1 _ h1).1 ?_ ?_ ?_) asg_imp
      · show swapsWith v (some (.Subscript l r px)) p.line X.env = pure false
        cases v <;> first | rfl | cases h3
      · cases v <;> first | rfl | cases h3
      · rfl
    | _ => cases h1
  | ttp ts =>
    cases tg' with
    | Tuple es k px =>
      refine PS.imp (ps_asg (ge.e v h2) ((g_all g _).1 _ h1).1 ?_ ?_ ?_) asg_imp
      · show swapsWith v (some (.Tuple es k px)) p.line X.env = pure false
        cases v <;> first | rfl | cases h3
      · cases v with
        | Tuple _ _ _ =>
          have h5 : noSw X.env.scope (.Tuple es k px) = true := h4
          unfold noSw at h5
          split at h5
          · rename_i x0 px0 y0 py0 kk pp heq
            cases heq
            exact no_stores h5
          · cases h5
        | _ => first | rfl | cases h3
      · rfl
    | _ => cases h1
  | _ => exact no_tf (dead_G h1) rfl

theorem rds_at {K : PySem.W.Frag} {H : Hp} {M : Addr → Prop} {xs : List D} {vs : List V} {k : Int} {d : D} (r : RDs K H M xs vs) (h : atI xs k = some d) : ∃ v, atI vs k = some v ∧ RD K H M d v := by
  unfold atI at h ⊢
  obtain ⟨j, hj, hx⟩ := Option.bind_eq_some_iff.mp h
  obtain ⟨v, h1, h2⟩ := r.get hx
  exact ⟨v, by rw [← r.length, hj]; exact h1, h2⟩
theorem get_list {X : Cx} : PGet X (rIxL X.K) := by
  intro pins s σ H x y v u Q I rx ry h
  obtain ⟨p, xs, i, z, rfl, rfl, hq, he, q⟩ := h
  cases rx
  obtain ⟨t, rfl⟩ := ry
  obtain ⟨its, r, pl, hz⟩ := I.list hq
  obtain ⟨j, h1, h2, h3, h4, h5⟩ := atI_get he
  obtain ⟨w, ew, rw'⟩ := r.get h2
  have hl := r.length
  have hn := line63
  have fin : EP X pins σ Q w s := ⟨z, H, I, rw', q⟩
  by_cases h0 : 0 ≤ i
  · have hj : i.toNat = j := by
      rw [seqIndex_of h0 h5] at h1
      exact Option.some.inj h1
    exact wpAny_getItem_list pl.isList (by omega) (by omega) (by rw [hj]; simpa using ew) fin
  · have hj : (i + (its.toArray.size : Int)).toNat = j := by
      rw [seqIndex_neg (by omega) h4] at h1
      rw [List.size_toArray, ← hl]
      exact Option.some.inj h1
    exact wpAny_getItem_list_neg pl.isList (by omega) (by rw [List.size_toArray] <;> omega) (by omega) (by rw [hj]; simpa using ew) fin
theorem aug_imp {a i e : T} {s : Sit} {σ : L2.St} {env : Env} {Dn : Ends} {K : PySem.W.Frag} (ok : s.Ok K) (re : RE K s env σ) (q : PostS K cA s W (ex (cf Fs n) (.saug a i e) env s.st) Dn) :
    tAugS (tE K cA (cf Fs n) W a) (tE K cA (cf Fs n) W i) (tE K cA (cf Fs n) W e) (rIxL K) (ipI fun i j => i + j) rSetL Dn σ s.H := by
  have q0 : PostS K cA s W ((ev (cf Fs n) a env s.st).thenS env fun x st1 => (ev (cf Fs n) i env st1).thenS env fun y st2 => match augG x y st2 with
    | some v => (ev (cf Fs n) e env st2).thenS env fun d st3 => match d with
      | .int w => match setFl x y (.int (v + w)) st3 with
        | some st4 => .nx env st4
        | none => .err
      | _ => .err
    | none => .err) Dn := q
  refine ⟨s, env, rfl, ok, re, (q0.split ok re).mono fun d1 s1 o1 l1 q1 v1 hv1 => ?_⟩
  refine ⟨s1, env, rfl, o1, re.le ok l1, (q1.split o1 (re.le ok l1)).mono fun d2 s2 o2 l2 q2 v2 hv2 => ?_⟩
  split at q2
  · rename_i v hv
    unfold augG at hv
    split at hv
    · rename_i l k
      cases rep_int hv2
      cases hv1 with
      | ref ha =>
        rename_i ad
        have ha2 := l2.pre _ _ ha
        split at hv
        · rename_i xs hc
          split at hv
          · rename_i v' hat
            cases hv
            obtain ⟨vs, c1, c2⟩ := o2.cell _ _ _ hc ha2
            obtain ⟨z, hz1, hz2⟩ := rds_at c2 hat
            cases hz2
            refine ⟨ad, vs, k, _, rfl, rfl, SqL.of c1, hz1, ?_⟩
            refine ⟨s2, env, rfl, o2, (re.le ok l1).le o1 l2, (q2.split o2 ((re.le ok l1).le o1 l2)).mono fun d3 s3 o3 l3 q3 v3 hv3 => ?_⟩
            split at q3
            · rename_i w
              cases rep_int hv3
              refine ⟨_, _, rfl, rfl, ?_⟩
              split at q3
              · rename_i st4 hs4
                unfold setFl at hs4
                simp only at hs4
                split at hs4
                · rename_i xs3 hc3
                  unfold setF at hs4
                  simp only [hc3] at hs4
                  split at hs4
                  · rename_i j hj
                    split at hs4
                    · rename_i hr
                      cases hs4
                      have ha3 := l3.pre _ _ ha2
                      obtain ⟨vs3, c3, c4⟩ := o3.cell _ _ _ hc3 ha3
                      refine ⟨ad, vs3, k, j, rfl, rfl, c3, by rw [← c4.length]; exact hj, ?_⟩
                      have rd : RD K s3.H s3.M (.int (v + w)) (.int (v + w)) := .int _
                      have o4 := Sit.chg_ok o3 hc3 ha3 (RDs.set rd j c4)
                      have l4 := Sit.chg_le o3 (xs := xs3.set j (.int (v + w))) (vs := vs3.set j (.int (v + w))) hc3 ha3
                      exact q3 (s3.chg l ad (xs3.set j (.int (v + w))) (vs3.set j (.int (v + w)))) σ rfl o4 l4 ((((re.le ok l1).le o1 l2).le o2 l3).le o3 l4)
                    · cases hs4
                  · cases hs4
                · cases hs4
              · exact q3.elim
            · exact q3.elim
          · cases hv
        · cases hv
      | dat r => cases r
    · cases hv
  · exact q2.elim
theorem s_all : ∀ (t : T) {X : Cx} {W : WX} (g : Cs Fs cA n X W), (∀ st, chkS X.N Fs X.env.scope t st = true → PS X st (tS X.K cA (cf Fs n) W t)) ∧ (∀ st, chkSs X.N Fs X.env.scope t st = true → PSs X st (tS X.K cA (cf Fs n) W t)) := by
  intro t
  induction t with
  | sset tg e _ _ =>
    intro X W g
    refine ⟨fun st h => ?_, fun st h => (by first | cases h | (cases st <;> cases h))⟩
    cases st with
    | Assign gs v p =>
      match gs, h with
      | [tg'], h =>
        have h : (chkG X.N Fs X.env.scope tg tg' && chkE X.N Fs X.env.scope e v && pl v && (!swapped tg v || noSw X.env.scope tg')) = true := h
        rw [Bool.and_eq_true, Bool.and_eq_true, Bool.and_eq_true] at h
        exact s_set g h.1.1.1 h.1.1.2 h.1.2 h.2
    | _ => cases h
  | saug a i e _ _ _ =>
    intro X W g
    refine ⟨fun st h => ?_, fun st h => (by first | cases h | (cases st <;> cases h))⟩
    simp only [chkS] at h
    split at h
    · rename_i l r p1 v p
      have h : (chkE X.N Fs X.env.scope a l && chkE X.N Fs X.env.scope i r && pl r && chkE X.N Fs X.env.scope e v && pl v) = true := h
      rw [Bool.and_eq_true, Bool.and_eq_true, Bool.and_eq_true, Bool.and_eq_true] at h
      obtain ⟨⟨⟨⟨h1, h2⟩, h3⟩, h4⟩, h5⟩ := h
      refine PS.imp (ps_augS ((p_all (cA := cA) a n X W g.toCg).e l h1) ((p_all (cA := cA) i n X W g.toCg).e r h2) get_list ((p_all (cA := cA) e n X W g.toCg).e v h4) ip_add set_list (by
        intro ov iv new
        cases r <;> first | rfl | cases h3)) fun Dn σ H ⟨s, env, eH, ok, re, q⟩ => ?_
      subst eH
      exact aug_imp ok re q
    · cases h
  | spar i j a b _ _ =>
    intro X W g
    refine ⟨fun st h => ?_, fun st h => (by first | cases h | (cases st <;> cases h))⟩
    simp only [chkS] at h
    split at h
    · rename_i x px y py kt pt v w k2 p2 p
      have h : (decide (i ≠ j) && decide (X.N[i]? = some x) && decide (X.N[j]? = some y) && chkE X.N Fs X.env.scope a v && pl v && chkE X.N Fs X.env.scope b w && pl w && swOk X.env.scope px py x y v w) = true := h
      rw [Bool.and_eq_true, Bool.and_eq_true, Bool.and_eq_true, Bool.and_eq_true, Bool.and_eq_true, Bool.and_eq_true, Bool.and_eq_true, decide_eq_true_eq, decide_eq_true_eq, decide_eq_true_eq] at h
      obtain ⟨⟨⟨⟨⟨⟨⟨h1, h2⟩, h3⟩, h4⟩, h5⟩, h6⟩, h7⟩, h8⟩ := h
      have h9 := h8
      unfold swOk at h9
      simp only [Bool.and_eq_true, beq_iff_eq] at h9
      have pA := pa_cons ((p_all (cA := cA) a n X W g.toCg).e v h4) (pa_cons ((p_all (cA := cA) b n X W g.toCg).e w h6) pa_nil (star_pl h7)) (star_pl h5)
      refine PS.imp (ps_par g.calm g.nd h2 h3 h1 h9.1.1.1.1.1.1.2 h9.1.1.1.1.1.2 pA (sw_stores h8) ?_) fun Dn σ H ⟨s, env, eH, ok, re, q⟩ => ?_
      · show swapsWith (.Tuple [v, w] k2 p2) (some (.Tuple [.Name x px, .Name y py] kt pt)) p.line X.env = pure false
        rfl
      subst eH
      have q0 : PostS X.K cA s W ((ev (cf Fs n) a env s.st).thenS env fun x st1 => (ev (cf Fs n) b env st1).thenS env fun y st2 => if i < env.length ∧ j < env.length then .nx ((env.set i (some x)).set j (some y)) st2 else .err) Dn := q
      refine ⟨s, env, rfl, ok, re, (q0.split ok re).mono fun d1 s1 o1 l1 q1 v1 hv1 => ?_⟩
      refine ⟨s1, env, rfl, o1, re.le ok l1, (q1.split o1 (re.le ok l1)).mono fun d2 s2 o2 l2 q2 v2 hv2 => ?_⟩
      split at q2
      · exact ⟨v1, v2, rfl, q2 s2 _ rfl o2 (Sit.Le.refl _) ((((re.le ok l1).le o1 l2).set (hv1.le o1 l2)).set hv2)⟩
      · exact q2.elim
    · cases h
  | sexp e _ =>
    intro X W g
    refine ⟨fun st h => ?_, fun st h => (by first | cases h | (cases st <;> cases h))⟩
    cases st with
    | Expr v p =>
      have h : (chkE X.N Fs X.env.scope e v && pl v && !isComp v) = true := h
      rw [Bool.and_eq_true, Bool.and_eq_true, Bool.not_eq_true'] at h
      refine PS.imp (ps_expr ((p_all e n X W g.toCg).e v h.1.1) (sw_pl h.1.2 h.2)) fun Dn σ H ⟨s, env, eH, ok, re, q⟩ => ?_
      subst eH
      have q0 : PostS X.K cA s W ((ev (cf Fs n) e env s.st).thenS env fun _ st1 => .nx env st1) Dn := q
      exact ⟨s, env, rfl, ok, re, (q0.split ok re).mono fun d s1 o1 l1 q1 v hv => q1 s1 σ rfl o1 (Sit.Le.refl _) (re.le ok l1)⟩
    | _ => cases h
  | sret e _ =>
    intro X W g
    refine ⟨fun st h => ?_, fun st h => (by first | cases h | (cases st <;> cases h))⟩
    cases st with
    | Return v p =>
      cases v with
      | some v =>
        have h : chkE X.N Fs X.env.scope e v = true := h
        refine PS.imp (ps_ret ((p_all e n X W g.toCg).e v h)) fun Dn σ H ⟨s, env, eH, ok, re, q⟩ => ?_
        subst eH
        have q0 : PostS X.K cA s W ((ev (cf Fs n) e env s.st).thenS env fun d st1 => .rt d st1) Dn := q
        exact ⟨s, env, rfl, ok, re, (q0.split ok re).mono fun d s1 o1 l1 q1 v hv => q1 s1 v rfl o1 (Sit.Le.refl _) hv⟩
      | none => cases h
    | _ => cases h
  | sretn =>
    intro X W g
    refine ⟨fun st h => ?_, fun st h => (by first | cases h | (cases st <;> cases h))⟩
    cases st with
    | Return v p =>
      cases v with
      | some v => cases h
      | none =>
        refine PS.imp ps_retN fun Dn σ H ⟨s, env, eH, ok, re, q⟩ => ?_
        subst eH
        have q0 : PostS X.K cA s W (.rt .non s.st) Dn := q
        exact q0 s .non rfl ok (Sit.Le.refl _) .non
    | _ => cases h
  | sif c a b _ ia ib =>
    intro X W g
    refine ⟨fun st h => ?_, fun st h => (by first | cases h | (cases st <;> cases h))⟩
    cases st with
    | If t l r p =>
      have h : (chkE X.N Fs X.env.scope c t && tst c && chkSs X.N Fs X.env.scope a l && chkSs X.N Fs X.env.scope b r) = true := h
      rw [Bool.and_eq_true, Bool.and_eq_true, Bool.and_eq_true] at h
      obtain ⟨⟨⟨h1, h2⟩, h3⟩, h4⟩ := h
      refine PS.imp (ps_if ((p_all c n X W g.toCg).t t h1 h2) ((ia g).2 l h3) ((ib g).2 r h4)) fun Dn σ H ⟨s, env, eH, ok, re, q⟩ => ?_
      subst eH
      have q0 : PostS X.K cA s W ((ev (cf Fs n) c env s.st).thenS env fun x st1 => match x with
        | .bl true => ex (cf Fs n) a env st1
        | .bl false => ex (cf Fs n) b env st1
        | _ => .err) Dn := q
      refine ⟨s, env, rfl, ok, re, (q0.split ok re).mono fun d s1 o1 l1 q1 => ?_⟩
      cases d with
      | bl k =>
        refine ⟨k, rfl, ?_⟩
        cases k with
        | true => rw [if_pos rfl]; exact ⟨s1, env, rfl, o1, re.le ok l1, q1⟩
        | false => rw [if_neg Bool.false_ne_true]; exact ⟨s1, env, rfl, o1, re.le ok l1, q1⟩
      | _ => exact q1.elim
    | _ => cases h
  | swhile c b _ ib =>
    intro X W g
    refine ⟨fun st h => ?_, fun st h => (by first | cases h | (cases st <;> cases h))⟩
    cases st with
    | While t l r p =>
      cases r with
      | nil =>
        have h : (chkE X.N Fs X.env.scope c t && tst c && chkSs X.N Fs X.env.scope b l) = true := h
        rw [Bool.and_eq_true, Bool.and_eq_true] at h
        exact s_while g h.1.1 h.1.2 ((ib g).2 l h.2)
      | cons _ _ => cases h
    | _ => cases h
  | sfor src tg b _ _ ib =>
    intro X W g
    refine ⟨fun st h => ?_, fun st h => (by first | cases h | (cases st <;> cases h))⟩
    cases st with
    | For t it l r p =>
      cases r with
      | nil =>
        have h : (chkW X.N Fs X.env.scope src it && chkG X.N Fs X.env.scope tg t && chkSs X.N Fs X.env.scope b l && tgOk src t) = true := h
        rw [Bool.and_eq_true, Bool.and_eq_true, Bool.and_eq_true] at h
        exact s_for g h.1.1.1 h.1.1.2 ((ib g).2 l h.1.2) h.2
      | cons _ _ => cases h
    | _ => cases h
  | sbrk =>
    intro X W g
    refine ⟨fun st h => ?_, fun st h => (by first | cases h | (cases st <;> cases h))⟩
    cases st with
    | Break p =>
      refine PS.imp ps_break fun Dn σ H ⟨s, env, eH, ok, re, q⟩ => ?_
      subst eH
      have q0 : PostS X.K cA s W (.bk env s.st) Dn := q
      exact q0 s σ rfl ok (Sit.Le.refl _) re
    | _ => cases h
  | scnt =>
    intro X W g
    refine ⟨fun st h => ?_, fun st h => (by first | cases h | (cases st <;> cases h))⟩
    cases st with
    | Continue p =>
      refine PS.imp ps_continue fun Dn σ H ⟨s, env, eH, ok, re, q⟩ => ?_
      subst eH
      have q0 : PostS X.K cA s W (.ct env s.st) Dn := q
      exact q0 s σ rfl ok (Sit.Le.refl _) re
    | _ => cases h
  | spass =>
    intro X W g
    refine ⟨fun st h => ?_, fun st h => (by first | cases h | (cases st <;> cases h))⟩
    cases st with
    | Pass p =>
      refine PS.imp ps_pass fun Dn σ H ⟨s, env, eH, ok, re, q⟩ => ?_
      subst eH
      have q0 : PostS X.K cA s W (.nx env s.st) Dn := q
      exact q0 s σ rfl ok (Sit.Le.refl _) re
    | _ => cases h
  | sdead =>
    intro X W g
    exact ⟨fun st h => PS.imp ps_never fun Dn σ H ⟨s, env, eH, ok, re, q⟩ => q, fun st h => PSs.imp pss_never fun Dn σ H ⟨s, env, eH, ok, re, q⟩ => q⟩
  | nil =>
    intro X W g
    refine ⟨fun st h => (by first | cases h | (cases st <;> cases h)), fun st h => ?_⟩
    cases st with
    | nil =>
      refine PSs.imp pss_nil fun Dn σ H ⟨s, env, eH, ok, re, q⟩ => ?_
      subst eH
      have q0 : PostS X.K cA s W (.nx env s.st) Dn := q
      exact q0 s σ rfl ok (Sit.Le.refl _) re
    | cons _ _ => cases h
  | cons t ts it its =>
    intro X W g
    refine ⟨fun st h => (by first | cases h | (cases st <;> cases h)), fun st h => ?_⟩
    cases st with
    | nil => cases h
    | cons x l =>
      have h : (chkS X.N Fs X.env.scope t x && chkSs X.N Fs X.env.scope ts l) = true := h
      rw [Bool.and_eq_true] at h
      refine PSs.imp (pss_cons ((it g).1 x h.1) ((its g).2 l h.2)) fun Dn σ H ⟨s, env, eH, ok, re, q⟩ => ?_
      subst eH
      refine ⟨s, env, rfl, ok, re, ?_⟩
      have q0 : PostS X.K cA s W ((ex (cf Fs n) t env s.st).andThen fun env1 st1 => ex (cf Fs n) ts env1 st1) Dn := q
      cases r : ex (cf Fs n) t env s.st with
      | nx env1 st1 =>
        rw [r] at q0
        have q0 : PostS X.K cA s W (ex (cf Fs n) ts env1 st1) Dn := q0
        intro s1 σ1 e1 o1 l1 re1
        exact ⟨s1, env1, rfl, o1, re1, by rw [e1]; exact q0.le l1⟩
      | bk env1 st1 => rw [r] at q0; exact q0
      | ct env1 st1 => rw [r] at q0; exact q0
      | rt d st1 => rw [r] at q0; exact q0
      | exc z env1 st1 => rw [r] at q0; exact q0
      | err => rw [r] at q0; exact q0
  | sraise c =>
    intro X W g
    refine ⟨fun st h => s_raise g h, fun st h => (by first | cases h | (cases st <;> cases h))⟩
  | stry b c i h ib _ =>
    intro X W g
    refine ⟨fun st z => s_try g (fun {X' W'} g' => (ib g').2) z, fun st h => (by first | cases h | (cases st <;> cases h))⟩
  | sraiseN c e _ =>
    intro X W g
    refine ⟨fun st h => s_raiseN g h, fun st h => (by cases st <;> cases h)⟩
  | stryv b c i j ib =>
    intro X W g
    refine ⟨fun st z => s_tryv g (fun {X' W'} g' => (ib g').2) z, fun st h => (by first | cases h | (cases st <;> cases h))⟩
  | _ =>
    intro X W g
    exact ⟨fun st h => (by first | cases h | (cases st <;> cases h)), fun st h => (by first | cases h | (cases st <;> cases h))⟩
end

/-! ### the defs of a text -/
structure TabOk (K : PySem.W.Frag) (mg : Str → Option Value) (Fs : List Fn) : Prop where
  bl : ∀ x ∈ bltNames, mg x = none
  gi : ∀ (f : Nat) (fn : Fn) (x : Str) (i : Int), Fs[f]? = some fn → fn.isI x i = true → ∃ t, mg x = some (.int i t)
  gs : ∀ (f : Nat) (fn : Fn) (x s : Str), Fs[f]? = some fn → fn.isS x s = true → ∃ t, mg x = some (.str s t)
  ex : ∀ r, rzB Fs r = true → ∃ C, ExR K mg C r
  al : ∀ (fn : Fn) (x m : Str), fn ∈ Fs → fn.isAl x m = true → mg x = mg m
  me : ∀ (f : Nat) (fn : Fn), Fs[f]? = some fn → fn.isC = false → fn.isM = true → ∃ C fa fd st qual, InsK K C (clsM fn.name) ∧ Meth K C fn.name fa ∧ (∀ us : List Value, us.length = fn.ps.length → bindArgs fd ⟨us, []⟩ = pure (fn.ps.zip us)) ∧ Fun K fn.name qual st fa fd ∧ FnScope fn.N fn.ps (defScope st) ∧
    chkSs fn.N Fs (defScope st) fn.body (defBody st) = true
  mkI : ∀ c : Nat, c < 2 → usesC Fs c = true → ∃ C f fd, InsK K C c ∧ Mk K C f ∧ mg (clN c) = some (.ref C) ∧ Binds K fd ["self", "bounds"] [] ∧
    ∀ (P : Program) (w : World) (base : Heap), FnOk P w K mg base (L2.CX P w) (1 + 2 * c) f fd ["self", "bounds"] (spMI K c)
  fn : ∀ (f : Nat) (fn : Fn), Fs[f]? = some fn → fn.isC = false → fn.isM = false → ∃ fa fd st, mg fn.name = some (.ref fa) ∧ PySem.W.keepIn K (.ref fa) = true ∧ (∀ us : List Value, us.length = fn.ps.length → bindArgs fd ⟨us, []⟩ = pure (fn.ps.zip us)) ∧ Fun K fn.name fn.name st fa fd ∧ FnScope fn.N fn.ps (defScope st) ∧
    chkSs fn.N Fs (defScope st) fn.body (defBody st) = true
theorem isI_mk {y x : Str} {j i : Int} (h : (Fn.mk y [] [] (.con (.int j))).isI x i = true) : y = x ∧ j = i := by
  have h : (decide (y = x) && decide (j = i)) = true := h
  rw [Bool.and_eq_true, decide_eq_true_eq, decide_eq_true_eq] at h
  exact h
theorem isS_mk {y x : Str} {j i : Str} (h : (Fn.mk y [] [] (.con (.str j))).isS x i = true) : y = x ∧ j = i := by
  have h : (decide (y = x) && decide (j = i)) = true := h
  rw [Bool.and_eq_true, decide_eq_true_eq, decide_eq_true_eq] at h
  exact h
theorem re_start {K : PySem.W.Frag} {s : Sit} {ds : List D} {vs : List V} {N ps : List Str} (r : Reps K s ds vs) (hl : ds.length = ps.length) : RE K s (startE N.length ps.length ds) (L2.start N vs) := by
  have e : vs.length = ds.length := r.length.symm
  have main : ∀ {ds : List D} {vs : List V} (k : Nat), Reps K s ds vs → RE K s (ds.map some ++ List.replicate k none) (vs.map some ++ List.replicate k none) := by
    intro ds vs k r
    induction r with
    | nil =>
      refine ⟨by simp, fun i d h => ?_⟩
      exfalso
      rw [List.map_nil, List.nil_append, List.getElem?_replicate] at h
      split at h <;> cases h
    | cons a _ ih =>
      refine ⟨by have := ih.len; simpa using this, fun i d h => ?_⟩
      cases i with
      | zero =>
        cases h
        exact ⟨_, rfl, a⟩
      | succ i => exact ih.at_ i d h
  unfold startE L2.start
  rw [e, hl]
  exact main _ r
theorem exA {K : PySem.W.Frag} {mg : Str → Option Value} {Fs : List Fn} (tab : TabOk K mg Fs) (r : Nat) (C : Addr) (h : cAof Fs mg r = some C) : ExR K mg C r := by
  unfold cAof at h
  split at h
  · rename_i hr
    obtain ⟨C', E⟩ := tab.ex r hr
    rw [E.mg] at h
    cases h
    exact E
  · cases h
theorem rzA {K : PySem.W.Frag} {mg : Str → Option Value} {Fs : List Fn} (tab : TabOk K mg Fs) (r : Nat) (h : rzB Fs r = true) : ∃ C, cAof Fs mg r = some C := by
  obtain ⟨C', E⟩ := tab.ex r h
  exact ⟨C', by unfold cAof; rw [if_pos h, E.mg]⟩
theorem fn_step {P : Program} {w : World} {K : PySem.W.Frag} {mg : Str → Option Value} {Fs : List Fn} (tab : TabOk K mg Fs) {n f : Nat} {fn : Fn} {nm qual : Str} {fa : Addr} {fd : FuncData} {st : Stmt} (hf : Fs[f]? = some fn) (h4 : Fun K nm qual st fa fd) (h5 : FnScope fn.N fn.ps (defScope st)) (h6 : chkSs fn.N Fs (defScope st) fn.body (defBody st) = true)
    (me : ∀ (base : Heap) (f : Nat) (fn : Fn), Fs[f]? = some fn → fn.isC = false → fn.isM = true → ∃ C fa fd, InsK K C (clsM fn.name) ∧ Meth K C fn.name fa ∧ Binds K fd fn.ps [] ∧ FnOk P w K mg base (L2.CX P w) (4 + n) fa fd fn.ps (spF K (cAof Fs mg) (cf Fs n) f))
    (fm : ∀ (base : Heap) (f : Nat) (fn : Fn), Fs[f]? = some fn → fn.isC = false → fn.isM = false → ∃ fa fd, mg fn.name = some (.ref fa) ∧ PySem.W.keepIn K (.ref fa) = true ∧ Binds K fd fn.ps [] ∧ FnOk P w K mg base (L2.CX P w) (4 + n) fa fd fn.ps (spF K (cAof Fs mg) (cf Fs n) f)) (base : Heap) :
    FnOk P w K mg base (L2.CX P w) (4 + (n + 1)) fa fd fn.ps (spF K (cAof Fs mg) (cf Fs (n + 1)) f) := by
  have hcf : ∀ ds st, cf Fs (n + 1) f ds st = if ds.length = fn.ps.length then bodyEnd (ex (cf Fs n) fn.body (startE fn.N.length fn.ps.length ds) st) else .err := by
    intro ds st
    show (match Fs[f]? with
      | none => Res.err
      | some fn => if ds.length = fn.ps.length then bodyEnd (ex (cf Fs n) fn.body (startE fn.N.length fn.ps.length ds) st) else .err) = _
    rw [hf]
  have len : ∀ vs H Q E, spF K (cAof Fs mg) (cf Fs (n + 1)) f vs H Q E → vs.length = fn.ps.length := by
    intro vs H Q E ⟨s, ds, _, _, r, q⟩
    rw [hcf] at q
    split at q
    · rename_i hl
      rw [← r.length]
      exact hl
    · exact q.elim
  refine h4.okX h5 len fun cdv A outer s H vs Q E hr h => ?_
  obtain ⟨s1, ds, rfl, ok, r, q⟩ := h
  rw [hcf] at q
  split at q
  · rename_i hl
    have g : Cs Fs (cAof Fs mg) n (cxOf (L2.CX P w) P w K mg base fn.N qual (defScope st) fa cdv A outer s s1.H E) (fun cls d _ H => E cls d H) :=
      ⟨⟨rfl, h5.nd, hr, tab.bl, takes_of rfl rfl rfl rfl, TakesF.of rfl (takes_of rfl rfl rfl rfl), ⟨_, _, _, rfl, rfl, rfl⟩, tab.gi, tab.gs, exA tab, rzA tab, tab.al, me base, (fun c h1 h2 => let ⟨C, f, fd, a, b, c1, d, e⟩ := tab.mkI c h1 h2; ⟨C, f, fd, a, b, c1, d, e P w base⟩), fm base⟩, passes_of rfl, fun _ => rfl, rfl, rfl, rfl⟩
    refine ⟨_, (s_all fn.body g).2 (defBody st) h6, s1, _, rfl, ok, re_start r hl, ?_⟩
    cases rr : ex (cf Fs n) fn.body (startE fn.N.length fn.ps.length ds) s1.st with
    | nx env1 st1 =>
      rw [rr] at q
      intro s2 σ2 e2 o2 l2 _
      exact q s2 e2 o2 l2 _ .non
    | rt d st1 =>
      rw [rr] at q
      intro s2 v e2 o2 l2 rv
      exact q s2 e2 o2 l2 v rv
    | exc z env1 st1 =>
      rw [rr] at q
      intro s2 σ2 cls dd e2 o2 l2 _ rx
      exact q s2 cls dd e2 o2 l2 rx
    | bk env1 st1 => rw [rr] at q; exact q.elim
    | ct env1 st1 => rw [rr] at q; exact q.elim
    | err => rw [rr] at q; exact q.elim
  · exact q.elim
theorem fn_zero {P : Program} {w : World} {K : PySem.W.Frag} {mg : Str → Option Value} {Fs : List Fn} {f : Nat} {fa : Addr} {fd : FuncData} {ps : List Str} (base : Heap) : FnOk P w K mg base (L2.CX P w) (4 + 0) fa fd ps (spF K (cAof Fs mg) (cf Fs 0) f) := by
  refine ⟨fun vs H Q E h => ?_, fun A outer s H args us vs Q E _ _ _ _ h => ?_⟩
  · obtain ⟨s, ds, _, _, _, q⟩ := h
    exact q.elim
  · obtain ⟨s, ds, _, _, _, q⟩ := h
    exact q.elim
theorem fn_both {P : Program} {w : World} {K : PySem.W.Frag} {mg : Str → Option Value} {Fs : List Fn} (tab : TabOk K mg Fs) : ∀ (n : Nat),
    (∀ (base : Heap) (f : Nat) (fn : Fn), Fs[f]? = some fn → fn.isC = false → fn.isM = true → ∃ C fa fd, InsK K C (clsM fn.name) ∧ Meth K C fn.name fa ∧ Binds K fd fn.ps [] ∧ FnOk P w K mg base (L2.CX P w) (4 + n) fa fd fn.ps (spF K (cAof Fs mg) (cf Fs n) f)) ∧
    (∀ (base : Heap) (f : Nat) (fn : Fn), Fs[f]? = some fn → fn.isC = false → fn.isM = false → ∃ fa fd, mg fn.name = some (.ref fa) ∧ PySem.W.keepIn K (.ref fa) = true ∧ Binds K fd fn.ps [] ∧ FnOk P w K mg base (L2.CX P w) (4 + n) fa fd fn.ps (spF K (cAof Fs mg) (cf Fs n) f)) := by
  intro n
  induction n with
  | zero =>
    refine ⟨fun base f fn hf hC hM => ?_, fun base f fn hf hC hM => ?_⟩
    · obtain ⟨C, fa, fd, st, qual, h1, h2, h3, _⟩ := tab.me f fn hf hC hM
      exact ⟨C, fa, fd, h1, h2, .all h3, fn_zero base⟩
    · obtain ⟨fa, fd, st, h1, h2, h3, _⟩ := tab.fn f fn hf hC hM
      exact ⟨fa, fd, h1, h2, .all h3, fn_zero base⟩
  | succ n ih =>
    refine ⟨fun base f fn hf hC hM => ?_, fun base f fn hf hC hM => ?_⟩
    · obtain ⟨C, fa, fd, st, qual, h1, h2, h3, h4, h5, h6⟩ := tab.me f fn hf hC hM
      exact ⟨C, fa, fd, h1, h2, .all h3, fn_step tab hf h4 h5 h6 ih.1 ih.2 base⟩
    · obtain ⟨fa, fd, st, h1, h2, h3, h4, h5, h6⟩ := tab.fn f fn hf hC hM
      exact ⟨fa, fd, h1, h2, .all h3, fn_step tab hf h4 h5 h6 ih.1 ih.2 base⟩
theorem fn_all {P : Program} {w : World} {K : PySem.W.Frag} {mg : Str → Option Value} {Fs : List Fn} (tab : TabOk K mg Fs) (n f : Nat) (fn : Fn) (hf : Fs[f]? = some fn) (hC : fn.isC = false) (hM : fn.isM = false) :
    ∃ fa fd, mg fn.name = some (.ref fa) ∧ PySem.W.keepIn K (.ref fa) = true ∧ (∀ us : List Value, us.length = fn.ps.length → bindArgs fd ⟨us, []⟩ = pure (fn.ps.zip us)) ∧ ∀ base : Heap, FnOk P w K mg base (L2.CX P w) (4 + n) fa fd fn.ps (spF K (cAof Fs mg) (cf Fs n) f) := by
  obtain ⟨fa, fd, st, h1, h2, h3, h4, h5, h6⟩ := tab.fn f fn hf hC hM
  refine ⟨fa, fd, h1, h2, h3, fun base => ?_⟩
  cases n with
  | zero => exact fn_zero base
  | succ n => exact fn_step tab hf h4 h5 h6 (fn_both tab n).1 (fn_both tab n).2 base
theorem loose_int {lv : List (Str × PySem.W.WData)} {mg : Str → Option Value} {h : Heap} (r : PySem.W.LooseAre lv mg h) {x : Str} {i : Int} (hq : (x, PySem.W.WData.int i) ∈ lv) : ∃ t, mg x = some (.int i t) := by
  obtain ⟨v, a, b⟩ := r.val _ hq
  cases b
  exact ⟨_, a⟩
theorem walk_end {l : PySem.W.OpenLaw} {k : Nat} {q : Program} {loose : List Str} {XR : (Str → Option Value) → Heap → Prop} {YR : World → Heap → Prop} {d : DefRec} {Kf : Params → PySem.W.Frag} {Fs : List Fn} {f : Nat} {fn : Fn} {x : Str}
    (most : l.most = some 63) (noDef : d.params.defaults = []) (room : Room (4 + k) callerA) (inK : ∀ (w : World) (h : Heap), YR w h → (Kf w.params).In h) (hf : Fs[f]? = some fn) (hname : fn.name = d.name) (hC : fn.isC = false) (hps : fn.ps = [x])
    (table : ∀ (w : World) (mg : Str → Option Value) (h : Heap), (Kf w.params).In h → h.Ns mainGlobals mg → XR mg h → TabOk (Kf w.params) mg Fs)
    (law : ∀ ns : List Int, ns.length ≤ 63 → (∀ z ∈ ns, Builtin.Int.intBits z ≤ 1048576) → ∃ st', cf Fs k f [.scr ns] [] = .ok (.bl true) st') (hM : fn.isM = false := by rfl) :
    PySem.W.WalkO q loose XR YR l.row.toRowW d [] (fun g us => PySem.call g us) := by
  refine Att.attach_callB most noDef ?_
  intro w s₀ s₁ mg mb fa o pm cd doc a us ns G Y ho hd hcd hmg hobj hints hlen hbits gens
  have KX := inK w _ Y
  have tb := table w mg _ KX G.T.g G.X
  obtain ⟨fa', fd, h1, _, h3, h4⟩ := fn_all (P := l.prog) (w := w) tb k f fn hf hC hM
  obtain rfl : fa' = fa := by
    rw [hname, hmg] at h1
    cases h1
    rfl
  refine law_call (CX := L2.CX l.prog w) (sp := spF (Kf w.params) (cAof Fs mg) (cf Fs k) f) (x := x) (fd := fd) KX G.T.g G.T.b G.T.builtins G.T.nolimit gens hobj hints (by rw [sizeLine]; omega) room (fun base KB GB => ?_) (fun s u => .of_eq ?_) (fun H hO hS => ?_) (fun H e s' z => ?_)
  · have := h4 base
    rw [hps] at this
    exact this
  · have := h3 [u] (by rw [hps]; rfl)
    rw [hps] at this
    exact this
  · refine ⟨⟨[], [], H⟩, [.scr ns], rfl, ⟨rfl, .nil, fun a h => (by cases h), fun l c a h => (by simp at h)⟩, .cons (.dat (.scr ?_)) .nil, ?_⟩
    · rcases hS with (hS | ⟨o, hS⟩) | hS
      · rcases hO a with z | ⟨o, xs, z⟩
        · rw [hS] at z; cases z
        · rw [hS] at z; cases z
      · exact .inl ⟨o, hS⟩
      · exact .inr hS
    · obtain ⟨st', law'⟩ := law ns hlen hbits
      rw [law']
      intro s' e o le v hv
      exact rep_bl hv
  · obtain ⟨_, _, _, _, _, _, _, _, _, _, _, _, z⟩ := z
    exact z
end Zn

/-! ZnP: the plain side. How the little evaluator is stepped. -/
namespace Zn
open PySem PySem.Spec PyProof.Rows L2

theorem cf_at {Fs : List Fn} {n f : Nat} {fn : Fn} {ds : List D} {st : Store} (h : Fs[f]? = some fn) (hl : ds.length = fn.ps.length) :
    cf Fs (n + 1) f ds st = bodyEnd (ex (cf Fs n) fn.body (startE fn.N.length fn.ps.length ds) st) := by
  simp only [cf, h, if_pos hl]

section
variable (F : CallF) (env : Env) (st : Store)
/-! what comes next stands as a name, so that nothing is looked into before its time -/
def sifK (F : CallF) (a b : T) (env : Env) (x : D) (st1 : Store) : SRes := match x with
  | .bl true => ex F a env st1
  | .bl false => ex F b env st1
  | _ => .err
theorem sifK_t (a b : T) : sifK F a b env (.bl true) st = ex F a env st := rfl
theorem sifK_f (a b : T) : sifK F a b env (.bl false) st = ex F b env st := rfl
theorem x_sif (c a b : T) : ex F (.sif c a b) env st = (ev F c env st).thenS env (sifK F a b env) := by
  first | rfl | (simp only [ex]; congr 1) | (simp only [ex]; congr 1; funext x st1; cases x with | bl k => cases k <;> rfl | _ => rfl)
theorem x_nil : ex F .nil env st = .nx env st := rfl
theorem x_cons (s ss : T) : ex F (.cons s ss) env st = (ex F s env st).andThen (ex F ss) := rfl
def asgS (o : Option (Env × Store)) : SRes := match o with
  | some (e, s) => .nx e s
  | none => .err
@[simp] theorem asgS_some (e : Env) (s : Store) : asgS (some (e, s)) = .nx e s := rfl
theorem x_sset (tg e : T) : ex F (.sset tg e) env st = (ev F e env st).thenS env fun d st1 => asgS (asg F tg d env st1) := by
  rfl
def putK (i : Nat) (env : Env) (d : D) (st : Store) : SRes := if i < env.length then .nx (env.set i (some d)) st else .err
theorem putK_eq (i : Nat) (d : D) : putK i env d st = if i < env.length then .nx (env.set i (some d)) st else .err := rfl
theorem x_sset1 (i : Nat) (e : T) : ex F (.sset (.tnm i) e) env st = (ev F e env st).thenS env (putK i env) := by
  rw [x_sset]; congr 1; funext d st1
  simp only [asg, putK]
  by_cases h : i < env.length <;> simp [h, asgS]
def setK (F : CallF) (a i : T) (env : Env) (d : D) (st : Store) : SRes := asgS (asg F (.tix a i) d env st)
theorem x_sset2 (a i e : T) : ex F (.sset (.tix a i) e) env st = (ev F e env st).thenS env (setK F a i env) := x_sset F env st _ _
def Res.okS {α : Type} (r : Res α) (k : α → Store → SRes) : SRes := match r with
  | .ok a st => k a st
  | _ => .err
@[simp] theorem okS_ok {α : Type} (a : α) (st : Store) (k : α → Store → SRes) : (Res.ok a st).okS k = k a st := rfl
def asgO (o : Option Store) (env : Env) : SRes := match o with
  | some st => .nx env st
  | none => .err
@[simp] theorem asgO_some (st : Store) (env : Env) : asgO (some st) env = .nx env st := rfl
def setK2 (x d : D) (env : Env) (y : D) (st : Store) : SRes := asgO (setF x y d st) env
theorem setK2_eq (x d y : D) : setK2 x d env y st = asgO (setF x y d st) env := rfl
def setK1 (F : CallF) (i : T) (d : D) (env : Env) (x : D) (st : Store) : SRes := (ev F i env st).okS (setK2 x d env)
theorem setK1_eq (i : T) (d x : D) : setK1 F i d env x st = (ev F i env st).okS (setK2 x d env) := rfl
theorem setK_eq (a i : T) (d : D) : setK F a i env d st = (ev F a env st).okS (setK1 F i d env) := by
  simp only [setK, asg]
  rcases ev F a env st with ⟨x, st1⟩ | _ | _ <;> try rfl
  simp only [okS_ok, setK1]
  rcases ev F i env st1 with ⟨y, st2⟩ | _ | _ <;> try rfl
  simp only [okS_ok, setK2]
  cases setF x y d st2 <;> rfl
def setG (st : Store) (l : Nat) (c : Option Cell) (k : Int) (d : D) : Option Store := match c with
  | some (.lst xs) => (ixN xs.length k).bind fun j => if d.isRef = false then some (st.set l (some (.lst (xs.set j d)))) else none
  | some (.dk kvs) => match d with
    | .int v => if kvs.length < sizeLine then some (st.set l (some (.dk (putI kvs k v)))) else none
    | _ => none
  | _ => none
theorem setG_dk (l : Nat) (kvs : List (Int × Int)) (k v : Int) : setG st l (some (.dk kvs)) k (.int v) = if kvs.length < sizeLine then some (st.set l (some (.dk (putI kvs k v)))) else none := rfl
theorem setG_some (l : Nat) (xs : List D) (k : Int) (d : D) : setG st l (some (.lst xs)) k d = (ixN xs.length k).bind fun j => if d.isRef = false then some (st.set l (some (.lst (xs.set j d)))) else none := rfl
theorem setF_eq (l : Nat) (k : Int) (d : D) : setF (.ref l) (.int k) d st = setG st l st[l]?.join k d := by
  simp only [setF, setG]
  rcases st[l]? with _ | _ | ⟨xs⟩ | _ | kvs <;> try rfl
  simp only [Option.join_some]
  cases ixN xs.length k <;> rfl
def setGl (st : Store) (l : Nat) (c : Option Cell) (k : Int) (d : D) : Option Store := match c with
  | some (.lst xs) => setG st l (some (.lst xs)) k d
  | _ => none
theorem setGl_lst (l : Nat) (xs : List D) (k : Int) (d : D) : setGl st l (some (.lst xs)) k d = setG st l (some (.lst xs)) k d := rfl
theorem setFl_eq (l : Nat) (k : Int) (d : D) : setFl (.ref l) (.int k) d st = setGl st l st[l]?.join k d := by
  simp only [setFl, setGl]
  rcases h : st[l]? with _ | _ | ⟨xs⟩ | _ | kvs <;> try rfl
  simp only [Option.join_some]
  rw [setF_eq, h]
  rfl
def ttpK (F : CallF) (ts : T) (env : Env) (d : D) (st : Store) : SRes := asgS (asg F (.ttp ts) d env st)
theorem ttpK_eq (ts : T) (d : D) : ttpK F ts env d st = asgS (asg F (.ttp ts) d env st) := rfl
theorem x_ttp (ts e : T) : ex F (.sset (.ttp ts) e) env st = (ev F e env st).thenS env (ttpK F ts env) := x_sset F env st _ _
theorem as_ttp (ts : T) (xs : List D) : asg F (.ttp ts) (.tup xs) env st = asg.asgs F ts xs env st := rfl
theorem as_ttpl (ts : T) (xs : List D) : asg F (.ttp ts) (.lst xs) env st = asg.asgs F ts xs env st := rfl
theorem as_nil : asg.asgs F .nil [] env st = some (env, st) := rfl
theorem as_cons (i : Nat) (ts : T) (x : D) (xs : List D) : asg.asgs F (.cons (.tnm i) ts) (x :: xs) env st = if i < env.length then asg.asgs F ts xs (env.set i (some x)) st else none := by
  simp only [asg.asgs, asg]
  by_cases h : i < env.length <;> simp [h]
def expK (env : Env) (d : D) (st : Store) : SRes := .nx env st
theorem expK_eq (d : D) : expK env d st = .nx env st := rfl
theorem x_sexp (e : T) : ex F (.sexp e) env st = (ev F e env st).thenS env (expK env) := rfl
theorem x_sret (e : T) : ex F (.sret e) env st = (ev F e env st).thenS env SRes.rt := rfl
theorem x_sretn : ex F .sretn env st = .rt .non st := rfl
theorem x_sbrk : ex F .sbrk env st = .bk env st := rfl
theorem x_scnt : ex F .scnt env st = .ct env st := rfl
theorem x_spass : ex F .spass env st = .nx env st := rfl
def turn (F : CallF) (tg b : T) (x : D) (env : Env) (st : Store) : SRes := (asgS (asg F tg x env st)).andThen (ex F b)
def walkS (F : CallF) (tg b : T) (env : Env) (w : Wk) (st : Store) : SRes := match w with
  | .fix xs => forL (turn F tg b) xs env st
  | .live l => forR (turn F tg b) l fuel 0 env st
  | .zp xs l => forZ (turn F tg b) xs l fuel 0 env st
@[simp] theorem walkS_zp (tg b : T) (xs : List D) (l : Nat) : walkS F tg b env (.zp xs l) st = forZ (turn F tg b) xs l fuel 0 env st := rfl
@[simp] theorem walkS_fix (tg b : T) (xs : List D) : walkS F tg b env (.fix xs) st = forL (turn F tg b) xs env st := rfl
@[simp] theorem walkS_live (tg b : T) (l : Nat) : walkS F tg b env (.live l) st = forR (turn F tg b) l fuel 0 env st := rfl
theorem x_sfor (src tg b : T) : ex F (.sfor src tg b) env st = (evw F src env st).thenS env (walkS F tg b env) := by
  simp only [ex]; congr 1; funext w st1
  cases w with
  | fix xs =>
    show forL _ xs env st1 = forL (turn F tg b) xs env st1
    congr 1; funext x env st; unfold turn
    cases asg F tg x env st <;> rfl
  | live l =>
    show forR _ l fuel 0 env st1 = forR (turn F tg b) l fuel 0 env st1
    congr 1; funext x env st; unfold turn
    cases asg F tg x env st <;> rfl
  | zp xs l =>
    show forZ _ xs l fuel 0 env st1 = forZ (turn F tg b) xs l fuel 0 env st1
    congr 1; funext x env st; unfold turn
    cases asg F tg x env st <;> rfl
theorem x_swhile (c b : T) : ex F (.swhile c b) env st = whileL (ev F c) (ex F b) fuel env st := rfl

def optR (o : Option D) (st : Store) : Res D := match o with
  | some d => .ok d st
  | none => .err
@[simp] theorem optR_some (d : D) (st : Store) : optR (some d) st = .ok d st := rfl
theorem v_var (i : Nat) : ev F (.var i) env st = optR (env[i]?).join st := by
  simp only [ev]
  rcases env[i]? with _ | _ | _ <;> rfl
theorem v_gsv (f : Nat) (s : Str) : ev F (.gsv f s) env st = .ok (.str s) st := rfl
theorem v_gi (f : Nat) (i : Int) : ev F (.gi f i) env st = .ok (.int i) st := rfl
theorem v_con (d : D) : ev F (.con d) env st = .ok d st := rfl
def binK2 (m : Bool) (op : Operator) (x y : D) (st : Store) : Res D := binF m op x y st
theorem binK2_eq (m : Bool) (op : Operator) (x y : D) : binK2 m op x y st = binF m op x y st := rfl
def binK (F : CallF) (m : Bool) (op : Operator) (b : T) (env : Env) (x : D) (st : Store) : Res D := (ev F b env st).bind (binK2 m op x)
theorem binK_eq (m : Bool) (op : Operator) (b : T) (x : D) : binK F m op b env x st = (ev F b env st).bind (binK2 m op x) := rfl
theorem v_bin (m : Bool) (op : Operator) (a b : T) : ev F (.bin m op a b) env st = (ev F a env st).bind (binK F m op b env) := rfl
def negF (x : D) (st : Store) : Res D := match x with
  | .int i => .ok (.int (-i)) st
  | _ => .err
@[simp] theorem negF_int (i : Int) (st : Store) : negF (.int i) st = .ok (.int (-i)) st := rfl
theorem v_neg (a : T) : ev F (.neg a) env st = (ev F a env st).bind negF := by
  simp only [ev]; congr 1
def cmpK2 (op : CmpOp) (x y : D) (st : Store) : Res D := optB (cmpF op x y st) st
theorem cmpK2_eq (op : CmpOp) (x y : D) : cmpK2 op x y st = optB (cmpF op x y st) st := rfl
def cmpK (F : CallF) (op : CmpOp) (b : T) (env : Env) (x : D) (st : Store) : Res D := (ev F b env st).bind (cmpK2 op x)
theorem cmpK_eq (op : CmpOp) (b : T) (x : D) : cmpK F op b env x st = (ev F b env st).bind (cmpK2 op x) := rfl
theorem v_cmp (op : CmpOp) (a b : T) : ev F (.cmp op a b) env st = (ev F a env st).bind (cmpK F op b env) := rfl
def cmp3K (F : CallF) (op : CmpOp) (c : T) (env : Env) (y : D) (o : Option Bool) (st : Store) : Res D := match o with
  | some true => (ev F c env st).bind (cmpK2 op y)
  | some false => .ok (.bl false) st
  | none => .err
theorem cmp3K_t (op : CmpOp) (c : T) (y : D) : cmp3K F op c env y (some true) st = (ev F c env st).bind (cmpK2 op y) := rfl
theorem cmp3K_f (op : CmpOp) (c : T) (y : D) : cmp3K F op c env y (some false) st = .ok (.bl false) st := rfl
def cmp2K2 (F : CallF) (op op' : CmpOp) (c : T) (env : Env) (x y : D) (st : Store) : Res D := cmp3K F op' c env y (cmpF op x y st) st
theorem cmp2K2_eq (op op' : CmpOp) (c : T) (x y : D) : cmp2K2 F op op' c env x y st = cmp3K F op' c env y (cmpF op x y st) st := rfl
def cmp2K (F : CallF) (op op' : CmpOp) (b c : T) (env : Env) (x : D) (st : Store) : Res D := (ev F b env st).bind (cmp2K2 F op op' c env x)
theorem cmp2K_eq (op op' : CmpOp) (b c : T) (x : D) : cmp2K F op op' b c env x st = (ev F b env st).bind (cmp2K2 F op op' c env x) := rfl
theorem v_cmp2 (op op' : CmpOp) (a b c : T) : ev F (.cmp2 op op' a b c) env st = (ev F a env st).bind (cmp2K F op op' b c env) := by
  first | rfl | (simp only [ev]; congr 1; funext x st1; unfold cmp2K; congr 1; funext y st2; unfold cmp2K2; rcases cmpF op x y st2 with _ | b; rfl; cases b <;> rfl)
theorem v_bop (o : BoolOp) (es : T) : ev F (.bop o es) env st = evB F o es env st := rfl
theorem vB_one (o : BoolOp) (e : T) : evB F o (.cons e .nil) env st = ev F e env st := rfl
def andK (F : CallF) (es : T) (env : Env) (x : D) (st : Store) : Res D := match x with
  | .bl true => evB F .And es env st
  | .bl false => .ok (.bl false) st
  | _ => .err
theorem andK_t (es : T) : andK F es env (.bl true) st = evB F .And es env st := rfl
theorem andK_f (es : T) : andK F es env (.bl false) st = .ok (.bl false) st := rfl
theorem vB_and (e e' es : T) : evB F .And (.cons e (.cons e' es)) env st = (ev F e env st).bind (andK F (.cons e' es) env) := by
  simp only [evB]; congr 1; funext x st1
  cases x with
  | bl b => cases b <;> rfl
  | _ => rfl
def orK (F : CallF) (es : T) (env : Env) (x : D) (st : Store) : Res D := match x with
  | .bl false => evB F .Or es env st
  | .bl true => .ok (.bl true) st
  | _ => .err
theorem orK_f (es : T) : orK F es env (.bl false) st = evB F .Or es env st := rfl
theorem orK_t (es : T) : orK F es env (.bl true) st = .ok (.bl true) st := rfl
theorem vB_or (e e' es : T) : evB F .Or (.cons e (.cons e' es)) env st = (ev F e env st).bind (orK F (.cons e' es) env) := by
  simp only [evB]; congr 1; funext x st1
  cases x with
  | bl b => cases b <;> rfl
  | _ => rfl
def ntK (x : D) (st : Store) : Res D := match x with
  | .bl b => .ok (.bl (!b)) st
  | _ => .err
theorem ntK_bl (b : Bool) : ntK (.bl b) st = .ok (.bl (!b)) st := rfl
theorem v_nt (a : T) : ev F (.nt a) env st = (ev F a env st).bind ntK := by
  simp only [ev]; congr 1
def iteK (F : CallF) (a b : T) (env : Env) (x : D) (st : Store) : Res D := match x with
  | .bl true => ev F a env st
  | .bl false => ev F b env st
  | _ => .err
theorem iteK_t (a b : T) : iteK F a b env (.bl true) st = ev F a env st := rfl
theorem iteK_f (a b : T) : iteK F a b env (.bl false) st = ev F b env st := rfl
theorem v_ite (c a b : T) : ev F (.ite c a b) env st = (ev F c env st).bind (iteK F a b env) := by
  simp only [ev]; congr 1; funext x st1
  cases x with
  | bl b => cases b <;> rfl
  | _ => rfl
theorem v_tup (es : T) : ev F (.tup es) env st = (evs F es env st).bind tupF := rfl
theorem v_lst (m : Bool) (es : T) : ev F (.lst m es) env st = (evs F es env st).bind (lstF m) := rfl
def dctK2 (x y : D) (st : Store) : Res D := dctF x y st
theorem dctK2_eq (x y : D) : dctK2 x y st = dctF x y st := rfl
def dctK (F : CallF) (v : T) (env : Env) (x : D) (st : Store) : Res D := (ev F v env st).bind (dctK2 x)
theorem dctK_eq (v : T) (x : D) : dctK F v env x st = (ev F v env st).bind (dctK2 x) := rfl
theorem v_dct1 (k v : T) : ev F (.dct1 k v) env st = (ev F k env st).bind (dctK F v env) := rfl
def subK2 (x y : D) (st : Store) : Res D := subIx x y st
theorem subK2_eq (x y : D) : subK2 x y st = subIx x y st := rfl
def subK (F : CallF) (i : T) (env : Env) (x : D) (st : Store) : Res D := (ev F i env st).bind (subK2 x)
theorem subK_eq (i : T) (x : D) : subK F i env x st = (ev F i env st).bind (subK2 x) := rfl
theorem v_sub (a i : T) : ev F (.sub a i) env st = (ev F a env st).bind (subK F i env) := rfl
def slcK3 (m : Bool) (x : D) (l h : Option Int) (st : Store) : Res D := slcF m x l h st
theorem slcK3_eq (m : Bool) (x : D) (l h : Option Int) : slcK3 m x l h st = slcF m x l h st := rfl
def slcK2 (F : CallF) (m : Bool) (x : D) (hi : T) (env : Env) (l : Option Int) (st : Store) : Res D := (evo F hi env st).bind (slcK3 m x l)
theorem slcK2_eq (m : Bool) (x : D) (hi : T) (l : Option Int) : slcK2 F m x hi env l st = (evo F hi env st).bind (slcK3 m x l) := rfl
def slcK (F : CallF) (m : Bool) (lo hi : T) (env : Env) (x : D) (st : Store) : Res D := (evo F lo env st).bind (slcK2 F m x hi env)
theorem slcK_eq (m : Bool) (lo hi : T) (x : D) : slcK F m lo hi env x st = (evo F lo env st).bind (slcK2 F m x hi env) := rfl
theorem v_slc (m : Bool) (a lo hi : T) : ev F (.slc m a lo hi) env st = (ev F a env st).bind (slcK F m lo hi env) := rfl
def callK (F : CallF) (f : Nat) (m : Bool) (ds : List D) (st : Store) : Res D := (F f ds st).bind (callEnd m st.length)
theorem callK_eq (f : Nat) (m : Bool) (ds : List D) : callK F f m ds st = (F f ds st).bind (callEnd m st.length) := rfl
theorem v_call (f : Nat) (m : Bool) (es : T) : ev F (.call f m es) env st = (evs F es env st).bind (callK F f m) := rfl
theorem v_fld (c k : Nat) (a : T) : ev F (.fld c k a) env st = (ev F a env st).bind (fldF c k) := rfl
def methK2 (F : CallF) (f : Nat) (m : Bool) (x : D) (ds : List D) (st : Store) : Res D := (F f (x :: ds) st).bind (callEnd m st.length)
theorem methK2_eq (f : Nat) (m : Bool) (x : D) (ds : List D) : methK2 F f m x ds st = (F f (x :: ds) st).bind (callEnd m st.length) := rfl
def methK1 (F : CallF) (f : Nat) (m : Bool) (es : T) (env : Env) (x : D) (b : Bool) (st : Store) : Res D := match b with
  | true => (evs F es env st).bind (methK2 F f m x)
  | false => .err
theorem methK1_t (f : Nat) (m : Bool) (es : T) (x : D) : methK1 F f m es env x true st = (evs F es env st).bind (methK2 F f m x) := rfl
def methK (F : CallF) (c f : Nat) (m : Bool) (es : T) (env : Env) (x : D) (st : Store) : Res D := methK1 F f m es env x (isIns c x) st
theorem methK_eq (c f : Nat) (m : Bool) (es : T) (x : D) : methK F c f m es env x st = methK1 F f m es env x (isIns c x) st := rfl
theorem v_meth (c f : Nat) (m : Bool) (o es : T) : ev F (.meth c f m o es) env st = (ev F o env st).bind (methK F c f m es env) := by
  simp only [ev]; congr 1; funext x st1; unfold methK methK1
  cases isIns c x <;> rfl
theorem v_mkI (c : Nat) (a : T) : ev F (.mkI c a) env st = (ev F a env st).bind (mkIF c) := rfl
def smK (F : CallF) (k : Nat) (m : Bool) (e : T) (env : Env) (x : D) (st : Store) : Res D := if isStr x = true then (ev F e env st).bind (smF k m x) else .err
theorem v_smth (k : Nat) (m : Bool) (o e : T) : ev F (.smth k m o e) env st = (ev F o env st).bind (smK F k m e env) := rfl
theorem smK_str (k : Nat) (m : Bool) (e : T) (a : Str) : smK F k m e env (.str a) st = (ev F e env st).bind (smF k m (.str a)) := rfl
theorem v_lrs (es : T) : ev F (.lrs es) env st = (evs F es env st).bind lrF := rfl
theorem v_blt (b : Blt) (m : Bool) (es : T) : ev F (.blt b m es) env st = (evs F es env st).bind (bltF b m) := rfl
def isiK1 (ty : String) (x : D) (st : Store) : Res D := isiF x ty st
theorem isiK1_eq (ty : String) (x : D) : isiK1 ty x st = isiF x ty st := rfl
theorem v_isi (a : T) (ty : String) : ev F (.isi a ty) env st = (ev F a env st).bind (isiK1 ty) := rfl
def isxK (cs : List Nat) (x : D) (st : Store) : Res D := isxvF cs x st
theorem isxK_eq (cs : List Nat) (x : D) : isxK cs x st = isxvF cs x st := rfl
theorem v_isxv (a : T) (cs : List Nat) : ev F (.isxv a cs) env st = (ev F a env st).bind (isxK cs) := rfl
theorem v_fldn (a : T) : ev F (.fldn a) env st = (ev F a env st).bind fldnF := rfl
theorem v_frz (a : T) : ev F (.frz a) env st = (ev F a env st).bind frzF := rfl
def mthK2 (k : Mth) (x : D) (ds : List D) (st : Store) : Res D := mthF k x ds st
theorem mthK2_eq (k : Mth) (x : D) (ds : List D) : mthK2 k x ds st = mthF k x ds st := rfl
def mthK1 (F : CallF) (k : Mth) (es : T) (env : Env) (x : D) (o : Option (List D)) (st : Store) : Res D := match o with
  | some _ => (evs F es env st).bind (mthK2 k x)
  | none => .err
theorem mthK1_some (k : Mth) (es : T) (x : D) (xs : List D) : mthK1 F k es env x (some xs) st = (evs F es env st).bind (mthK2 k x) := rfl
def mthK (F : CallF) (k : Mth) (es : T) (env : Env) (x : D) (st : Store) : Res D := mthK1 F k es env x (lstOf st x) st
theorem mthK_eq (k : Mth) (es : T) (x : D) : mthK F k es env x st = mthK1 F k es env x (lstOf st x) st := rfl
theorem v_mth (k : Mth) (o es : T) : ev F (.mth k o es) env st = (ev F o env st).bind (mthK F k es env) := by
  simp only [ev]; congr 1; funext x st1; unfold mthK mthK1
  rcases lstOf st1 x with _ | _ <;> rfl
theorem vs_nil : evs F .nil env st = .ok [] st := rfl
def consK2 (d : D) (ds : List D) (st : Store) : Res (List D) := .ok (d :: ds) st
theorem consK2_eq (d : D) (ds : List D) : consK2 d ds st = .ok (d :: ds) st := rfl
def consK (F : CallF) (es : T) (env : Env) (d : D) (st : Store) : Res (List D) := (evs F es env st).bind (consK2 d)
theorem consK_eq (es : T) (d : D) : consK F es env d st = (evs F es env st).bind (consK2 d) := rfl
theorem vs_cons (e es : T) : evs F (.cons e es) env st = (ev F e env st).bind (consK F es env) := rfl
theorem vo_no : evo F .no env st = .ok none st := rfl
def oI (x : D) (st : Store) : Res (Option Int) := match x with
  | .int i => .ok (some i) st
  | _ => .err
@[simp] theorem oI_int (i : Int) (st : Store) : oI (.int i) st = .ok (some i) st := rfl
theorem vo_so (e : T) : evo F (.so e) env st = (ev F e env st).bind oI := by
  simp only [evo]; congr 1
theorem vt_no : evt F .no env st = .ok true st := rfl
def bK (x : D) (st : Store) : Res Bool := match x with
  | .bl b => .ok b st
  | _ => .err
theorem bK_bl (b : Bool) : bK (.bl b) st = .ok b st := rfl
theorem vt_so (e : T) : evt F (.so e) env st = (ev F e env st).bind bK := by
  simp only [evt]; congr 1
theorem vw_sit (e : T) : evw F (.sit e) env st = (ev F e env st).bind wkOf := rfl
theorem vw_srng (k : Nat) (es : T) : evw F (.srng k es) env st = (evs F es env st).bind (rngF k) := rfl
def enW (x : D) (st : Store) : Res Wk := match x with
  | .tup xs => .ok (.fix (enumD xs)) st
  | .lst xs => .ok (.fix (enumD xs)) st
  | _ => .err
@[simp] theorem enW_tup (xs : List D) (st : Store) : enW (.tup xs) st = .ok (.fix (enumD xs)) st := rfl
@[simp] theorem enW_lst (xs : List D) (st : Store) : enW (.lst xs) st = .ok (.fix (enumD xs)) st := rfl
def rvW (x : D) (st : Store) : Res Wk := match x with
  | .lst xs => .ok (.fix xs.reverse) st
  | _ => .err
theorem rvW_lst (xs : List D) : rvW (.lst xs) st = .ok (.fix xs.reverse) st := rfl
theorem vw_srev (e : T) : evw F (.srev e) env st = (ev F e env st).bind rvW := by
  simp only [evw]; congr 1
def zipK2 (x y : D) (st : Store) : Res Wk := zipF x y st
theorem zipK2_eq (x y : D) : zipK2 x y st = zipF x y st := rfl
def zipK (F : CallF) (b : T) (env : Env) (x : D) (st : Store) : Res Wk := (ev F b env st).bind (zipK2 x)
theorem zipK_eq (b : T) (x : D) : zipK F b env x st = (ev F b env st).bind (zipK2 x) := rfl
theorem vw_szip (a b : T) : evw F (.szip a b) env st = (ev F a env st).bind (zipK F b env) := by
  simp only [evw]; congr 1
theorem vw_senum (e : T) : evw F (.senum e) env st = (ev F e env st).bind enW := by
  simp only [evw]; congr 1
def someK (d : D) (st : Store) : Res (Option D) := .ok (some d) st
theorem someK_eq (d : D) : someK d st = .ok (some d) st := rfl
def eltK (F : CallF) (elt : T) (env : Env) (b : Bool) (st : Store) : Res (Option D) := match b with
  | true => (ev F elt env st).bind someK
  | false => .ok none st
theorem eltK_t (elt : T) : eltK F elt env true st = (ev F elt env st).bind someK := rfl
theorem eltK_f (elt : T) : eltK F elt env false st = .ok none st := rfl
def cturnO (F : CallF) (cond elt : T) (o : Option Env) (st : Store) : Res (Option D) := match o with
  | none => .err
  | some env2 => (evt F cond env2 st).bind (eltK F elt env2)
theorem cturnO_some (cond elt : T) (env2 : Env) : cturnO F cond elt (some env2) st = (evt F cond env2 st).bind (eltK F elt env2) := rfl
def cturn (F : CallF) (tg cond elt : T) (env : Env) (x : D) (st : Store) : Res (Option D) := cturnO F cond elt (asgN tg x env) st
theorem cturn_eq (tg cond elt : T) (x : D) : cturn F tg cond elt env x st = cturnO F cond elt (asgN tg x env) st := rfl
theorem asgN_tnm (i : Nat) (d : D) : asgN (.tnm i) d env = if i < env.length then some (env.set i (some d)) else none := rfl
theorem asgN_ttp (ts : T) (xs : List D) : asgN (.ttp ts) (.tup xs) env = asgN.asgNs ts xs env := rfl
theorem asgN_nil : asgN.asgNs .nil [] env = some env := rfl
theorem asgN_cons (i : Nat) (ts : T) (x : D) (xs : List D) : asgN.asgNs (.cons (.tnm i) ts) (x :: xs) env = if i < env.length then asgN.asgNs ts xs (env.set i (some x)) else none := rfl
theorem wipe_nil : wipeE env [] = env := rfl
theorem wipe_cons (v : Nat) (vs : List Nat) : wipeE env (v :: vs) = (wipeE env vs).set v none := rfl
def compS (F : CallF) (m : Bool) (tg cond elt : T) (env : Env) (w : Wk) (st : Store) : Res D := match w with
  | .fix xs => (compL (cturn F tg cond elt env) st.length xs (st ++ [some (.lst [])])).bind fun _ st2 => compEnd m st.length st2
  | .live l => (compR (cturn F tg cond elt env) st.length l fuel 0 (st ++ [some (.lst [])])).bind fun _ st2 => compEnd m st.length st2
  | .zp _ _ => .err
theorem compS_fix (m : Bool) (tg cond elt : T) (xs : List D) : compS F m tg cond elt env (.fix xs) st = (compL (cturn F tg cond elt env) st.length xs (st ++ [some (.lst [])])).bind fun _ st2 => compEnd m st.length st2 := rfl
theorem v_comp (m : Bool) (src tg : T) (own : List (Str × Nat)) (cond elt : T) :
    ev F (.comp m src tg own cond elt) env st = (evw F src env st).bind (compS F m tg cond elt (wipeE env (own.map (·.2)))) := by
  simp only [ev]; congr 1; funext w st1
  cases w with
  | fix xs =>
    show (compL _ st1.length xs _).bind _ = (compL (cturn F tg cond elt (wipeE env (own.map (·.2)))) st1.length xs _).bind _
    congr 2; funext x st; unfold cturn
    cases asgN tg x (wipeE env (own.map (·.2))) with
    | none => rfl
    | some env2 => simp only [cturnO]; congr 1; funext b st3; cases b <;> rfl
  | live l =>
    show (compR _ st1.length l fuel 0 _).bind _ = (compR (cturn F tg cond elt (wipeE env (own.map (·.2)))) st1.length l fuel 0 _).bind _
    congr 2; funext x st; unfold cturn
    cases asgN tg x (wipeE env (own.map (·.2))) with
    | none => rfl
    | some env2 => simp only [cturnO]; congr 1; funext b st3; cases b <;> rfl
  | zp xs l => rfl
end
section
variable {F : CallF} {env : Env} {st : Store}
theorem as_tnm (i : Nat) (d : D) : asg F (.tnm i) d env st = if i < env.length then some (env.set i (some d), st) else none := rfl
end

/-! ### numbers -/
section
variable (st : Store) (i j : Int)
theorem add_int (m : Bool) : binF m .Add (.int i) (.int j) st = .ok (.int (i + j)) st := rfl
theorem sub_int (m : Bool) : binF m .Sub (.int i) (.int j) st = .ok (.int (i - j)) st := rfl
theorem mul_int (m : Bool) (h : mulOk i j = true) : binF m .Mult (.int i) (.int j) st = .ok (.int (i * j)) st := by simp only [binF, mulF, if_pos h]
theorem div_int (m : Bool) (h : divOk j = true) : binF m .FloorDiv (.int i) (.int j) st = .ok (.int (i / j)) st := by simp only [binF, divF, if_pos h]
theorem mod_int (m : Bool) (h : 0 < j) : binF m .Mod (.int i) (.int j) st = .ok (.int (i % j)) st := by simp only [binF, modF, if_pos h]
theorem pow_int (m : Bool) (h : powOk i j = true) : binF m .Pow (.int i) (.int j) st = .ok (.int (i ^ j.toNat)) st := by simp only [binF, powF, if_pos h]
theorem shl_int (m : Bool) (h : powOk i j = true) : binF m .LShift (.int i) (.int j) st = .ok (.int (i * 2 ^ j.toNat)) st := by simp only [binF, shlF, if_pos h]
theorem shr_int (m : Bool) (h : 0 ≤ j) : binF m .RShift (.int i) (.int j) st = .ok (.int (i / 2 ^ j.toNat)) st := by simp only [binF, shrF, if_pos h]
theorem lt_int : cmpF .Lt (.int i) (.int j) st = some (decide (i < j)) := rfl
theorem le_int : cmpF .LtE (.int i) (.int j) st = some (decide (i ≤ j)) := rfl
theorem gt_int : cmpF .Gt (.int i) (.int j) st = some (decide (j < i)) := rfl
theorem ge_int : cmpF .GtE (.int i) (.int j) st = some (decide (j ≤ i)) := rfl
end
theorem log2_lt_of {a e : Nat} (h : a < 2 ^ e) (he : 0 < e) : a.log2 < e := by
  by_cases h0 : a = 0
  · subst h0; simpa using he
  · exact (Nat.log2_lt h0).mpr h
theorem mulOk_of {i j : Int} (h1 : -10 ^ 100 < i) (h2 : i < 10 ^ 100) (h3 : -10 ^ 100 < j) (h4 : j < 10 ^ 100) : mulOk i j = true := by
  have a : i.natAbs < 2 ^ 400 := by omega
  have b : j.natAbs < 2 ^ 400 := by omega
  have := log2_lt_of a (by omega)
  have := log2_lt_of b (by omega)
  simp only [mulOk, decide_eq_true_eq]; omega
theorem divOk_of {j : Int} (h1 : 0 < j) (h2 : j < 10 ^ 100) : divOk j = true := by
  have b : j.natAbs < 2 ^ 400 := by omega
  have := log2_lt_of b (by omega)
  simp only [divOk, Bool.and_eq_true, decide_eq_true_eq]; omega
theorem powOk_of {i j : Int} (h0 : 0 ≤ j) (h1 : j ≤ 1000000) (h2 : -2 ^ 64 < i) (h3 : i < 2 ^ 64) : powOk i j = true := by
  simp only [powOk, Bool.and_eq_true, decide_eq_true_eq]; omega

section
variable (st : Store) (i j : Int) (m : Bool)
theorem mul_o (h1 : -10 ^ 100 < i) (h2 : i < 10 ^ 100) (h3 : -10 ^ 100 < j) (h4 : j < 10 ^ 100) : binF m .Mult (.int i) (.int j) st = .ok (.int (i * j)) st := mul_int st i j m (mulOk_of h1 h2 h3 h4)
theorem div_o (h1 : 0 < j) (h2 : j < 10 ^ 100) : binF m .FloorDiv (.int i) (.int j) st = .ok (.int (i / j)) st := div_int st i j m (divOk_of h1 h2)
theorem mod_o (h1 : 0 < j) : binF m .Mod (.int i) (.int j) st = .ok (.int (i % j)) st := mod_int st i j m h1
theorem pow_o (h0 : 0 ≤ j) (h1 : j ≤ 1000000) (h2 : -2 ^ 64 < i) (h3 : i < 2 ^ 64) : binF m .Pow (.int i) (.int j) st = .ok (.int (i ^ j.toNat)) st := pow_int st i j m (powOk_of h0 h1 h2 h3)
theorem shl_o (h0 : 0 ≤ j) (h1 : j ≤ 1000000) (h2 : -2 ^ 64 < i) (h3 : i < 2 ^ 64) : binF m .LShift (.int i) (.int j) st = .ok (.int (i * 2 ^ j.toNat)) st := shl_int st i j m (powOk_of h0 h1 h2 h3)
theorem shr_o (h0 : 0 ≤ j) : binF m .RShift (.int i) (.int j) st = .ok (.int (i / 2 ^ j.toNat)) st := shr_int st i j m h0
end

/-! ### what stands in lists, and other things -/
theorem atI_of {α : Type} {xs : List α} {i : Int} (h0 : 0 ≤ i) (h : i < xs.length) : ∃ x, atI xs i = some x ∧ xs[i.toNat]? = some x := by
  have hl : i.toNat < xs.length := by omega
  refine ⟨xs[i.toNat], ?_, by simp [hl]⟩
  simp only [atI, ixN, if_pos h0, if_pos h, Option.bind_some]
  simp [hl]
theorem atI_ofNat {α : Type} (xs : List α) (k : Nat) : atI xs (k : Int) = xs[k]? := by
  simp only [atI, ixN, if_pos (Int.natCast_nonneg k)]
  by_cases h : (k : Int) < xs.length
  · have h2 : k < xs.length := by omega
    simp [h2]
  · simp only [if_neg h, Option.bind_none]
    exact (List.getElem?_eq_none (by omega)).symm
theorem atI_zero {α : Type} (xs : List α) : atI xs 0 = xs[0]? := atI_ofNat xs 0
theorem atI_one {α : Type} (xs : List α) : atI xs 1 = xs[1]? := atI_ofNat xs 1
theorem ixN_ofNat (n k : Nat) : ixN n (k : Int) = if k < n then some k else none := by
  simp only [ixN, if_pos (Int.natCast_nonneg k)]
  by_cases h : k < n
  · rw [if_pos h, if_pos (by omega)]; simp
  · rw [if_neg h, if_neg (by omega)]
theorem ixN_0 (n : Nat) : ixN n 0 = if 0 < n then some 0 else none := ixN_ofNat n 0
theorem ixN_1 (n : Nat) : ixN n 1 = if 1 < n then some 1 else none := ixN_ofNat n 1
theorem ixN_2 (n : Nat) : ixN n 2 = if 2 < n then some 2 else none := ixN_ofNat n 2
theorem ixN_3 (n : Nat) : ixN n 3 = if 3 < n then some 3 else none := ixN_ofNat n 3
theorem atI_2 {α : Type} (xs : List α) : atI xs 2 = xs[2]? := atI_ofNat xs 2
theorem atI_3 {α : Type} (xs : List α) : atI xs 3 = xs[3]? := atI_ofNat xs 3
theorem atI_4 {α : Type} (xs : List α) : atI xs 4 = xs[4]? := atI_ofNat xs 4
theorem atI_5 {α : Type} (xs : List α) : atI xs 5 = xs[5]? := atI_ofNat xs 5
theorem atI_6 {α : Type} (xs : List α) : atI xs 6 = xs[6]? := atI_ofNat xs 6
theorem atI_7 {α : Type} (xs : List α) : atI xs 7 = xs[7]? := atI_ofNat xs 7
theorem atI_8 {α : Type} (xs : List α) : atI xs 8 = xs[8]? := atI_ofNat xs 8
theorem atI_9 {α : Type} (xs : List α) : atI xs 9 = xs[9]? := atI_ofNat xs 9
def subO {α : Type} (f : α → D) (o : Option α) (st : Store) : Res D := match o with
  | some d => .ok (f d) st
  | none => .err
@[simp] theorem subO_some {α : Type} (f : α → D) (d : α) (st : Store) : subO f (some d) st = .ok (f d) st := rfl
section
variable (st : Store) (i : Int)
theorem sub_tup (xs : List D) : subIx (.tup xs) (.int i) st = subO id (atI xs i) st := by
  simp only [subIx]; cases atI xs i <;> rfl
theorem sub_lst (xs : List D) : subIx (.lst xs) (.int i) st = subO id (atI xs i) st := by
  simp only [subIx, lstOf]; cases atI xs i <;> rfl
theorem sub_scr (xs : List Int) : subIx (.scr xs) (.int i) st = subO D.int (atI xs i) st := by
  simp only [subIx]; cases atI xs i <;> rfl
theorem sub_lr (xs : List D) : subIx (.lr xs) (.int i) st = subO id (atI xs i) st := by
  simp only [subIx]; cases atI xs i <;> rfl
theorem isIns_ins (c : Nat) (ds : List D) : isIns c (.ins c ds) = true := by simp [isIns]
theorem fld_ins (c k : Nat) (ds : List D) : fldF c k (.ins c ds) st = subO id ds[k]? st := by
  simp only [fldF, if_true]; cases ds[k]? <;> rfl
theorem mkI0_tup (xs : List D) : mkIF 0 (.tup xs) st = .ok (.ins 0 [.tup xs, .ref st.length, .ref (st.length + 1)]) (st ++ [some (.lst [.non]), some (.lst [.lst []])]) := rfl
theorem mkI1_tup (xs : List D) : mkIF 1 (.tup xs) st = .ok (.ins 1 [.ins 0 [.tup xs, .ref st.length, .ref (st.length + 1)], .tup xs]) (st ++ [some (.lst [.non]), some (.lst [.lst []])]) := rfl
theorem isNon_ins (c : Nat) (ds : List D) : isNon (.ins c ds) = false := rfl
theorem isNon_lr (ds : List D) : isNon (.lr ds) = false := rfl
def dkO : Option Cell → Option (List (Int × Int))
  | some (.dk kvs) => some kvs
  | _ => none
theorem dkO_dk (kvs : List (Int × Int)) : dkO (some (.dk kvs)) = some kvs := rfl
theorem dkOf_rf (l : Nat) : dkOf st (.ref l) = dkO st[l]?.join := by
  simp only [dkOf, dkO]
  rcases st[l]? with _ | _ | _ | _ | _ <;> rfl
def subKD (o : Option (List (Int × Int))) (i : Int) (st : Store) : Res D := match o.bind fun kvs => getI kvs i with
  | some v => .ok (.int v) st
  | none => .err
def subL (o : Option (List D)) (k : Option (List (Int × Int))) (i : Int) (st : Store) : Res D := match o with
  | some xs => subO id (atI xs i) st
  | none => subKD k i st
theorem subL_some (xs : List D) (k : Option (List (Int × Int))) : subL (some xs) k i st = subO id (atI xs i) st := rfl
theorem subL_none (k : Option (List (Int × Int))) : subL none k i st = subKD k i st := rfl
theorem sub_rf (l : Nat) : subIx (.ref l) (.int i) st = subL (lstOf st (.ref l)) (dkOf st (.ref l)) i st := by
  simp only [subIx, subL, subKD]
  cases lstOf st (.ref l) with
  | none => rfl
  | some xs => simp only; cases atI xs i <;> rfl
def lenO (o : Option (List D)) (st : Store) : Res D := match o with
  | some xs => .ok (.int xs.length) st
  | none => .err
theorem lenO_some (xs : List D) : lenO (some xs) st = .ok (.int xs.length) st := rfl
theorem len_rf (m : Bool) (l : Nat) : bltF .len m [.ref l] st = lenO (lstOf st (.ref l)) st := by
  simp only [bltF, lenL, lenF, lenO] <;> cases lstOf st (.ref l) <;> rfl
theorem lstOf_ref (l : Nat) : lstOf st (.ref l) = st[l]?.join.bind Cell.xs := by
  simp only [lstOf]; rcases st[l]? with _ | _ | _ <;> rfl
theorem lstOf_lst (xs : List D) : lstOf st (.lst xs) = some xs := rfl
theorem xs_lst (xs : List D) : Cell.xs (.lst xs) = some xs := rfl
theorem xs_fz (xs : List D) : Cell.xs (.fz xs) = some xs := rfl
theorem xs_dk (kvs : List (Int × Int)) : Cell.xs (.dk kvs) = none := rfl
theorem len_tup (m : Bool) (xs : List D) : bltF .len m [.tup xs] st = .ok (.int xs.length) st := rfl
theorem len_lst (m : Bool) (xs : List D) : bltF .len m [.lst xs] st = .ok (.int xs.length) st := rfl
theorem len_scr (m : Bool) (xs : List Int) : bltF .len m [.scr xs] st = .ok (.int xs.length) st := rfl
end
section
variable (m : Bool) (n : Nat) (st : Store)
theorem ce_non : callEnd m n .non st = .ok .non (st.take n) := rfl
theorem ce_bl (b : Bool) : callEnd m n (.bl b) st = .ok (.bl b) (st.take n) := rfl
theorem ce_int (i : Int) : callEnd m n (.int i) st = .ok (.int i) (st.take n) := rfl
theorem ce_str (i : Str) : callEnd m n (.str i) st = .ok (.str i) (st.take n) := rfl
theorem ce_tup (xs : List D) : callEnd m n (.tup xs) st = .ok (.tup xs) (st.take n) := rfl
theorem ce_lst (xs : List D) : callEnd m n (.lst xs) st = .ok (.lst xs) (st.take n) := rfl
theorem ce_dat {d : D} (h : d.isRef = false) : callEnd m n d st = .ok d (st.take n) := by
  cases d with
  | ref l => cases h
  | ins _ _ => cases h
  | lr _ => cases h
  | _ => rfl
theorem be_nx (e : Env) : bodyEnd (.nx e st) = .ok .non st := rfl
theorem be_rt (d : D) : bodyEnd (.rt d st) = .ok d st := rfl
end
/-! ### are two things alike -/
def val (st : Store) (d : D) : D := match lstOf st d with
  | some xs => .lst xs
  | none => d
def eqD (x y : D) : Option Bool := match x.py, y.py with
  | some p, some q => if shp p && shp q then some (PyData.eqv p q) else none
  | _, _ => none
theorem pyOf_val (st : Store) (d : D) : pyOf st d = (val st d).py := by
  unfold pyOf val
  cases lstOf st d with
  | none => rfl
  | some xs => simp only [D.py]
theorem eqF_val (st : Store) (x y : D) : eqF st x y = eqD (val st x) (val st y) := by
  simp only [eqF, eqD, pyOf_val] <;> rcases (val st x).py with _ | p <;> rcases (val st y).py with _ | q <;> rfl
section
variable (st : Store)
theorem eq_val (x y : D) : cmpF .Eq x y st = eqD (val st x) (val st y) := eqF_val st x y
theorem ne_val (x y : D) : cmpF .NotEq x y st = (eqD (val st x) (val st y)).map (!·) := by simp only [cmpF, eqF_val]
theorem val_non : val st .non = .non := rfl
theorem val_bl (b : Bool) : val st (.bl b) = .bl b := rfl
theorem val_int (b : Int) : val st (.int b) = .int b := rfl
theorem val_str (b : Str) : val st (.str b) = .str b := rfl
theorem val_tup (b : List D) : val st (.tup b) = .tup b := rfl
theorem val_lst (b : List D) : val st (.lst b) = .lst b := rfl
def valO (l : Nat) (o : Option (List D)) : D := match o with
  | some xs => .lst xs
  | none => .ref l
theorem valO_some (l : Nat) (xs : List D) : valO l (some xs) = .lst xs := rfl
theorem val_rf (l : Nat) : val st (.ref l) = valO l (lstOf st (.ref l)) := by
  unfold val valO
  cases lstOf st (.ref l) <;> rfl
theorem val_dat {d : D} (h : d.isRef = false) : val st d = d := by
  cases d with
  | ref l => cases h
  | ins _ _ => cases h
  | lr _ => cases h
  | _ => rfl
end
theorem eqD_int (i j : Int) : eqD (.int i) (.int j) = some (decide (i = j)) := by
  show some (i == j) = _
  congr 1
theorem eqD_bl (i j : Bool) : eqD (.bl i) (.bl j) = some (decide (i = j)) := by cases i <;> cases j <;> rfl
def Pl (k : Nat) (d : D) : Prop := ∃ p, d.py = some p ∧ p.canLay0 = true ∧ p.depth ≤ k
def Pls (k : Nat) (ds : List D) : Prop := ∃ ps, pys ds = some ps ∧ PyData.canLayAll0 ps = true ∧ PyData.depthAll ps ≤ k
theorem Pl.le {k k' : Nat} {d : D} (h : Pl k d) (hk : k ≤ k') : Pl k' d := let ⟨p, a, b, c⟩ := h; ⟨p, a, b, Nat.le_trans c hk⟩
theorem Pl.int {k : Nat} (i : Int) : Pl k (.int i) := ⟨.int i, rfl, rfl, Nat.zero_le _⟩
theorem Pl.bl {k : Nat} (i : Bool) : Pl k (.bl i) := ⟨.bool i, rfl, rfl, Nat.zero_le _⟩
theorem Pl.non {k : Nat} : Pl k .non := ⟨.none, rfl, rfl, Nat.zero_le _⟩
theorem Pl.str {k : Nat} {s : Str} (h : PyData.strOk s = true) : Pl k (.str s) := ⟨.str s, rfl, by simpa [PyData.canLay0] using h, Nat.zero_le _⟩
theorem Pls.nil {k : Nat} : Pls k [] := ⟨[], rfl, rfl, Nat.zero_le _⟩
theorem Pls.cons {k : Nat} {d : D} {ds : List D} (h : Pl k d) (r : Pls k ds) : Pls k (d :: ds) := by
  obtain ⟨p, a, b, c⟩ := h
  obtain ⟨ps, a2, b2, c2⟩ := r
  refine ⟨p :: ps, by simp only [pys, a, a2], by simp only [PyData.canLayAll0, b, b2, Bool.and_self], ?_⟩
  simp only [PyData.depthAll]
  omega
theorem Pls.of {k : Nat} : ∀ {ds : List D}, (∀ d ∈ ds, Pl k d) → Pls k ds
  | [], _ => .nil
  | d :: ds, h => .cons (h d (by simp)) (Pls.of fun x hx => h x (by simp [hx]))
theorem Pl.tup {k : Nat} {ds : List D} (h : ∀ d ∈ ds, Pl k d) : Pl (k + 1) (.tup ds) := by
  obtain ⟨ps, a, b, c⟩ := Pls.of h
  exact ⟨.tuple ps, by simp only [D.py, a, Option.map_some], by simpa only [PyData.canLay0] using b, by simp only [PyData.depth]; omega⟩
theorem Pl.lst {k : Nat} {ds : List D} (h : ∀ d ∈ ds, Pl k d) : Pl (k + 1) (.lst ds) := by
  obtain ⟨ps, a, b, c⟩ := Pls.of h
  exact ⟨.list ps, by simp only [D.py, a, Option.map_some], by simpa only [PyData.canLay0] using b, by simp only [PyData.depth]; omega⟩
mutual
theorem eqv_refl : ∀ (p : PyData), p.canLay0 = true → PyData.eqv p p = true
  | .none, _ => rfl
  | .bool b, _ => by simp [PyData.eqv]
  | .int i, _ => by simp [PyData.eqv]
  | .str x, _ => by simp [PyData.eqv]
  | .list xs, h => by simp only [PyData.eqv]; exact eqvAll_refl xs (by simpa only [PyData.canLay0] using h)
  | .tuple xs, h => by simp only [PyData.eqv]; exact eqvAll_refl xs (by simpa only [PyData.canLay0] using h)
  | .dict _, h => by simp [PyData.canLay0] at h
theorem eqvAll_refl : ∀ (ps : List PyData), PyData.canLayAll0 ps = true → PyData.eqvAll ps ps = true
  | [], _ => rfl
  | p :: ps, h => by
    simp only [PyData.canLayAll0, Bool.and_eq_true] at h
    simp only [PyData.eqvAll, eqv_refl p h.1, eqvAll_refl ps h.2, Bool.and_self]
end
theorem eqD_of' {x y : D} {p q : PyData} (hx : x.py = some p) (hy : y.py = some q) (lx : p.canLay0 = true) (ly : q.canLay0 = true) (dx : p.depth ≤ 150) (dy : q.depth ≤ 150) :
    eqD x y = some (PyData.eqv p q) := by
  simp only [eqD, hx, hy, shp, lx, ly, dx, dy, decide_true, Bool.and_self, if_true]
theorem eqD_of {x y : D} {p q : PyData} (hx : x.py = some p) (hy : y.py = some q) (lx : p.canLay0 = true) (ly : q.canLay0 = true) (dx : p.depth ≤ 64) (dy : q.depth ≤ 64) :
    eqD x y = some (PyData.eqv p q) := eqD_of' hx hy lx ly (by omega) (by omega)
theorem eqD_refl' {d : D} (h : Pl 150 d) : eqD d d = some true := by
  obtain ⟨p, a, b, c⟩ := h
  rw [eqD_of' a a b b c c, eqv_refl p b]
theorem eqD_refl {d : D} (h : Pl 64 d) : eqD d d = some true := by
  obtain ⟨p, a, b, c⟩ := h
  rw [eqD_of a a b b c c, eqv_refl p b]
theorem Pl.ints {k : Nat} (ns : List Int) : Pl (k + 1) (.lst (ns.map .int)) := .lst fun d hd => by
  obtain ⟨n, _, rfl⟩ := List.mem_map.mp hd
  exact .int n
section
variable (st : Store)
def tupleO (o : Option (List D)) (st : Store) : Res D := match o with
  | some xs => .ok (.tup xs) st
  | none => .err
theorem tupleO_some (xs : List D) : tupleO (some xs) st = .ok (.tup xs) st := rfl
theorem tuple_rf (m : Bool) (l : Nat) : bltF .tuple m [.ref l] st = tupleO (lstOf st (.ref l)) st := by
  simp only [bltF, tupleL, tupleO] <;> cases lstOf st (.ref l) <;> rfl
theorem tuple_lst (m : Bool) (xs : List D) : bltF .tuple m [.lst xs] st = .ok (.tup xs) st := rfl
theorem tuple_tup (m : Bool) (xs : List D) : bltF .tuple m [.tup xs] st = .ok (.tup xs) st := rfl
def listO (m : Bool) (o : Option (List D)) (st : Store) : Res D := match o with
  | some xs => mk m xs st
  | none => .err
theorem listO_some (m : Bool) (xs : List D) : listO m (some xs) st = mk m xs st := rfl
theorem list_rf (m : Bool) (l : Nat) : bltF .list m [.ref l] st = listO m (lstOf st (.ref l)) st := by
  simp only [bltF, listL, listO] <;> cases lstOf st (.ref l) <;> rfl
theorem list_lst (m : Bool) (xs : List D) : bltF .list m [.lst xs] st = mk m xs st := rfl
theorem list_tup (m : Bool) (xs : List D) : bltF .list m [.tup xs] st = mk m xs st := rfl
theorem int_int (m : Bool) (i : Int) : bltF .int m [.int i] st = .ok (.int i) st := rfl
theorem str_str (m : Bool) (z : Str) : bltF .str m [.str z] st = .ok (.str z) st := rfl
theorem str_o (m : Bool) (i : Int) (h1 : -10 ^ 500 < i) (h2 : i < 10 ^ 500) : bltF .str m [.int i] st = .ok (.str (toString i)) st := by
  have a : i.natAbs < 2 ^ 1900 := by omega
  have := log2_lt_of a (by omega)
  simp only [bltF, strL, if_pos (show i.natAbs.log2 < 1920 by omega)]
theorem int_bl (m : Bool) (b : Bool) : bltF .int m [.bl b] st = .ok (.int (if b then 1 else 0)) st := rfl
def frzO (st : Store) (l : Nat) (o : Option Cell) : Res D := match o with
  | some (.lst xs) => .ok (.lst xs) (st.set l (some (.fz xs)))
  | some (.fz xs) => .ok (.lst xs) st
  | _ => .err
theorem frzO_lst (l : Nat) (xs : List D) : frzO st l (some (.lst xs)) = .ok (.lst xs) (st.set l (some (.fz xs))) := rfl
theorem frzO_fz (l : Nat) (xs : List D) : frzO st l (some (.fz xs)) = .ok (.lst xs) st := rfl
theorem frz_rf (l : Nat) : frzF (.ref l) st = frzO st l st[l]?.join := by
  simp only [frzF, frzO]; rcases st[l]? with _ | _ | _ | _ <;> rfl
end
theorem mid_get {α : Type} (R X : List α) (c : α) : (R ++ c :: X)[R.length]? = some c := by simp
theorem mid_set {α : Type} (R X : List α) (c d : α) : (R ++ c :: X).set R.length d = R ++ d :: X := by simp
theorem app_nil {α : Type} (R X : List α) (c : α) : (R ++ [c]) ++ X = R ++ c :: X := by simp
theorem mapnot (b : Bool) : Option.map (!·) (some b) = some (!b) := rfl

/-! ### loops -/
section
variable {body : D → Store → Res (Option D)} {n : Nat}
theorem compL_map {g : D → Option D} {st : Store} (hn : st.length = n) : ∀ (xs : List D) (acc : List D),
    (∀ x ∈ xs, ∀ acc, body x (st ++ [some (.lst acc)]) = .ok (g x) (st ++ [some (.lst acc)])) → (∀ x ∈ xs, ∀ d, g x = some d → d.isRef = false) →
    acc.length + xs.length ≤ sizeLine → compL body n xs (st ++ [some (.lst acc)]) = .ok () (st ++ [some (.lst (acc ++ xs.filterMap g))])
  | [], acc, _, _, _ => by simp [compL]
  | x :: xs, acc, h, hr, hs => by
    have h1 := h x (by simp) acc
    simp only [List.length_cons] at hs
    cases hg : g x with
    | none =>
      rw [hg] at h1
      simp only [compL, h1, List.filterMap_cons, hg]
      exact compL_map hn xs acc (fun y hy => h y (by simp [hy])) (fun y hy => hr y (by simp [hy])) (by omega)
    | some d =>
      rw [hg] at h1
      have e : (st ++ [some (Cell.lst acc)])[n]? = some (some (.lst acc)) := by rw [← hn]; simp
      have c : d.isRef = false ∧ acc.length < sizeLine := ⟨hr x (by simp) d hg, by omega⟩
      simp only [compL, h1, e, if_pos c, List.filterMap_cons, hg]
      have e2 : (st ++ [some (Cell.lst acc)]).set n (some (.lst (acc ++ [d]))) = st ++ [some (.lst (acc ++ [d]))] := by rw [← hn]; simp
      rw [e2, compL_map hn xs (acc ++ [d]) (fun y hy => h y (by simp [hy])) (fun y hy => hr y (by simp [hy])) (by simp; omega)]
      simp
theorem compL_inv (P : Nat → List D → Store → Prop) : ∀ (xs ys : List D) (acc : List D) (st : Store), st.length = n →
    (∀ x i acc st1, ys[i]? = some x → P i acc st1 → st1.length = n →
      ∃ o st2, body x (st1 ++ [some (.lst acc)]) = .ok o (st2 ++ [some (.lst acc)]) ∧ st2.length = n ∧ (∀ d, o = some d → d.isRef = false) ∧ P (i + 1) (acc ++ o.toList) st2) →
    acc.length + xs.length ≤ sizeLine → ∀ i, ys.drop i = xs → P i acc st →
    ∃ zs st2, compL body n xs (st ++ [some (.lst acc)]) = .ok () (st2 ++ [some (.lst zs)]) ∧ st2.length = n ∧ P (i + xs.length) zs st2
  | [], ys, acc, st, hn, _, _, i, _, hp => ⟨acc, st, by simp [compL], hn, by simpa using hp⟩
  | x :: xs, ys, acc, st, hn, step, hs, i, hd, hp => by
    have hi : ys[i]? = some x := by
      have := congrArg (fun l => l[0]?) hd
      simpa using this
    have hd2 : ys.drop (i + 1) = xs := by
      have := congrArg List.tail hd
      simpa using this
    obtain ⟨o, st2, h1, h2, h3, h4⟩ := step x i acc st hi hp hn
    simp only [List.length_cons] at hs
    have ei : i + (x :: xs).length = i + 1 + xs.length := by simp only [List.length_cons]; omega
    rw [ei]
    cases o with
    | none =>
      obtain ⟨zs, st3, e, h5, h6⟩ := compL_inv P xs ys acc st2 h2 step (by omega) (i + 1) hd2 (by simpa using h4)
      exact ⟨zs, st3, by simp only [compL, h1, e], h5, h6⟩
    | some d =>
      have e1 : (st2 ++ [some (Cell.lst acc)])[n]? = some (some (.lst acc)) := by rw [← h2]; simp
      have c : d.isRef = false ∧ acc.length < sizeLine := ⟨h3 d rfl, by omega⟩
      have e2 : (st2 ++ [some (Cell.lst acc)]).set n (some (.lst (acc ++ [d]))) = st2 ++ [some (.lst (acc ++ [d]))] := by rw [← h2]; simp
      obtain ⟨zs, st3, e, h5, h6⟩ := compL_inv P xs ys (acc ++ [d]) st2 h2 step (by simp; omega) (i + 1) hd2 (by simpa using h4)
      exact ⟨zs, st3, by simp only [compL, h1, e1, if_pos c, e2, e], h5, h6⟩
end
theorem compEnd_mk (m : Bool) (st : Store) (zs : List D) : compEnd m st.length (st ++ [some (.lst zs)]) = mk m zs st := by
  simp only [compEnd, callEnd]
  rw [if_neg (by omega)]
  simp
theorem compS_map {F : CallF} {m : Bool} {tg cond elt : T} {env : Env} {st : Store} {xs : List D} (g : D → Option D)
    (h : ∀ x ∈ xs, ∀ acc, cturn F tg cond elt env x (st ++ [some (.lst acc)]) = .ok (g x) (st ++ [some (.lst acc)]))
    (hr : ∀ x ∈ xs, ∀ d, g x = some d → d.isRef = false) (hs : xs.length ≤ sizeLine) :
    compS F m tg cond elt env (.fix xs) st = mk m (xs.filterMap g) st := by
  rw [compS_fix, compL_map rfl xs [] h hr (by simpa using hs), bind_ok, compEnd_mk]
  simp
theorem compS_inv {F : CallF} {m : Bool} {tg cond elt : T} {env : Env} {st : Store} {xs : List D} (P : Nat → List D → Store → Prop)
    (step : ∀ x i acc st1, xs[i]? = some x → P i acc st1 → st1.length = st.length →
      ∃ o st2, cturn F tg cond elt env x (st1 ++ [some (.lst acc)]) = .ok o (st2 ++ [some (.lst acc)]) ∧ st2.length = st.length ∧ (∀ d, o = some d → d.isRef = false) ∧ P (i + 1) (acc ++ o.toList) st2)
    (hs : xs.length ≤ sizeLine) (h0 : P 0 [] st) :
    ∃ zs st2, compS F m tg cond elt env (.fix xs) st = mk m zs st2 ∧ st2.length = st.length ∧ P xs.length zs st2 := by
  obtain ⟨zs, st2, e, hl, hp⟩ := compL_inv (body := cturn F tg cond elt env) P xs xs [] st rfl step (by simpa using hs) 0 rfl h0
  refine ⟨zs, st2, ?_, hl, by simpa using hp⟩
  rw [compS_fix, e, bind_ok, ← hl, compEnd_mk]
theorem forL_nil (body : D → Env → Store → SRes) (env : Env) (st : Store) : forL body [] env st = .nx env st := by simp only [forL]
theorem forL_nx {body : D → Env → Store → SRes} {x : D} {xs : List D} {env env' : Env} {st st' : Store} (h : body x env st = .nx env' st') : forL body (x :: xs) env st = forL body xs env' st' := by
  simp only [forL, h]
theorem compS_mapT {F : CallF} {m : Bool} {tg cond elt : T} {env : Env} {st : Store} {xs : List D} (g : D → D)
    (h : ∀ x ∈ xs, ∀ acc, cturn F tg cond elt env x (st ++ [some (.lst acc)]) = .ok (some (g x)) (st ++ [some (.lst acc)]))
    (hr : ∀ x ∈ xs, (g x).isRef = false) (hs : xs.length ≤ sizeLine) :
    compS F m tg cond elt env (.fix xs) st = mk m (xs.map g) st := by
  rw [compS_map (fun x => some (g x)) h (fun x hx d e => by cases e; exact hr x hx) hs, List.filterMap_eq_map']
theorem boolsOf_map {α : Type} (xs : List α) (f : α → Bool) : boolsOf (xs.map fun x => D.bl (f x)) = some (xs.map f) := by
  induction xs with
  | nil => rfl
  | cons x xs ih => simp only [List.map_cons, boolsOf, ih, Option.map_some]
theorem intsOf_map {α : Type} (xs : List α) (f : α → Int) : intsOf (xs.map fun x => D.int (f x)) = some (xs.map f) := by
  induction xs with
  | nil => rfl
  | cons x xs ih => simp only [List.map_cons, intsOf, ih, Option.map_some]
theorem all_map {α : Type} (xs : List α) (f : α → Bool) (m : Bool) (st : Store) : bltF .all m [.lst (xs.map fun x => D.bl (f x))] st = .ok (.bl (xs.all f)) st := by
  simp only [bltF, allL, lstOf, Option.bind_some, boolsOf_map]
  simp [List.all_map]
theorem sum_map {α : Type} (xs : List α) (f : α → Int) (m : Bool) (st : Store) : bltF .sum m [.lst (xs.map fun x => D.int (f x))] st = .ok (.int (xs.map f).sum) st := by
  simp only [bltF, sumL, seqOf, lstOf, Option.bind_some, intsOf_map]
theorem isi_non_int (st : Store) : isiF .non "int" st = .ok (.bl false) st := rfl
theorem isi_non_bool (st : Store) : isiF .non "bool" st = .ok (.bl false) st := rfl
theorem isi_non_str (st : Store) : isiF .non "str" st = .ok (.bl false) st := rfl
theorem isi_non_tuple (st : Store) : isiF .non "tuple" st = .ok (.bl false) st := rfl
theorem isi_non_list (st : Store) : isiF .non "list" st = .ok (.bl false) st := rfl
theorem isi_bl_int (b : Bool) (st : Store) : isiF (.bl b) "int" st = .ok (.bl true) st := rfl
theorem isi_bl_bool (b : Bool) (st : Store) : isiF (.bl b) "bool" st = .ok (.bl true) st := rfl
theorem isi_bl_str (b : Bool) (st : Store) : isiF (.bl b) "str" st = .ok (.bl false) st := rfl
theorem isi_bl_tuple (b : Bool) (st : Store) : isiF (.bl b) "tuple" st = .ok (.bl false) st := rfl
theorem isi_bl_list (b : Bool) (st : Store) : isiF (.bl b) "list" st = .ok (.bl false) st := rfl
theorem isi_int_int (b : Int) (st : Store) : isiF (.int b) "int" st = .ok (.bl true) st := rfl
theorem isi_int_bool (b : Int) (st : Store) : isiF (.int b) "bool" st = .ok (.bl false) st := rfl
theorem isi_int_str (b : Int) (st : Store) : isiF (.int b) "str" st = .ok (.bl false) st := rfl
theorem isi_int_tuple (b : Int) (st : Store) : isiF (.int b) "tuple" st = .ok (.bl false) st := rfl
theorem isi_int_list (b : Int) (st : Store) : isiF (.int b) "list" st = .ok (.bl false) st := rfl
theorem isi_str_int (b : Str) (st : Store) : isiF (.str b) "int" st = .ok (.bl false) st := rfl
theorem isi_str_bool (b : Str) (st : Store) : isiF (.str b) "bool" st = .ok (.bl false) st := rfl
theorem isi_str_str (b : Str) (st : Store) : isiF (.str b) "str" st = .ok (.bl true) st := rfl
theorem isi_str_tuple (b : Str) (st : Store) : isiF (.str b) "tuple" st = .ok (.bl false) st := rfl
theorem isi_str_list (b : Str) (st : Store) : isiF (.str b) "list" st = .ok (.bl false) st := rfl
theorem isi_tup_int (b : List D) (st : Store) : isiF (.tup b) "int" st = .ok (.bl false) st := rfl
theorem isi_tup_bool (b : List D) (st : Store) : isiF (.tup b) "bool" st = .ok (.bl false) st := rfl
theorem isi_tup_str (b : List D) (st : Store) : isiF (.tup b) "str" st = .ok (.bl false) st := rfl
theorem isi_tup_tuple (b : List D) (st : Store) : isiF (.tup b) "tuple" st = .ok (.bl true) st := rfl
theorem isi_tup_list (b : List D) (st : Store) : isiF (.tup b) "list" st = .ok (.bl false) st := rfl
theorem isi_lst_int (b : List D) (st : Store) : isiF (.lst b) "int" st = .ok (.bl false) st := rfl
theorem isi_lst_bool (b : List D) (st : Store) : isiF (.lst b) "bool" st = .ok (.bl false) st := rfl
theorem isi_lst_str (b : List D) (st : Store) : isiF (.lst b) "str" st = .ok (.bl false) st := rfl
theorem isi_lst_tuple (b : List D) (st : Store) : isiF (.lst b) "tuple" st = .ok (.bl false) st := rfl
theorem isi_lst_list (b : List D) (st : Store) : isiF (.lst b) "list" st = .ok (.bl true) st := rfl
theorem isi_scr_int (b : List Int) (st : Store) : isiF (.scr b) "int" st = .ok (.bl false) st := rfl
theorem isi_scr_bool (b : List Int) (st : Store) : isiF (.scr b) "bool" st = .ok (.bl false) st := rfl
theorem isi_scr_str (b : List Int) (st : Store) : isiF (.scr b) "str" st = .ok (.bl false) st := rfl
theorem isi_scr_tuple (b : List Int) (st : Store) : isiF (.scr b) "tuple" st = .ok (.bl false) st := rfl
theorem isi_scr_list (b : List Int) (st : Store) : isiF (.scr b) "list" st = .ok (.bl true) st := rfl
theorem isi_dct_int (st : Store) : isiF .dct "int" st = .ok (.bl false) st := rfl
theorem isi_dct_bool (st : Store) : isiF .dct "bool" st = .ok (.bl false) st := rfl
theorem isi_dct_str (st : Store) : isiF .dct "str" st = .ok (.bl false) st := rfl
theorem isi_dct_tuple (st : Store) : isiF .dct "tuple" st = .ok (.bl false) st := rfl
theorem isi_dct_list (st : Store) : isiF .dct "list" st = .ok (.bl false) st := rfl
section
variable (st : Store)
theorem is_bl (a b : Bool) : cmpF .Is (.bl a) (.bl b) st = some (decide (a = b)) := rfl
theorem isn_bl (a b : Bool) : cmpF .IsNot (.bl a) (.bl b) st = some (!decide (a = b)) := rfl
theorem is_non (x : D) : cmpF .Is x .non st = some (isNon x) := by cases x <;> rfl
theorem isn_non (x : D) : cmpF .IsNot x .non st = some (!isNon x) := by cases x <;> rfl
theorem isNon_non : isNon .non = true := rfl
theorem isNon_bl (a : Bool) : isNon (.bl a) = false := rfl
theorem isNon_int (a : Int) : isNon (.int a) = false := rfl
theorem isNon_str (a : Str) : isNon (.str a) = false := rfl
theorem isNon_tup (a : List D) : isNon (.tup a) = false := rfl
theorem isNon_lst (a : List D) : isNon (.lst a) = false := rfl
theorem isNon_ref (a : Nat) : isNon (.ref a) = false := rfl
theorem add_tup (m : Bool) (a b : List D) (h : a.length + b.length ≤ 16777216) : binF m .Add (.tup a) (.tup b) st = .ok (.tup (a ++ b)) st := by
  simp only [binF, addF, sizeLine]; exact if_pos h
theorem add_lst (m : Bool) (a b : List D) (h : a.length + b.length ≤ 16777216) : binF m .Add (.lst a) (.lst b) st = mk m (a ++ b) st := by
  simp only [binF, addF, lstOf, sizeLine]; exact if_pos h
end
theorem slc_tup (m : Bool) (xs : List D) (lo hi : Option Int) (st : Store) : slcF m (.tup xs) lo hi st = .ok (.tup (cutD xs lo hi)) st := rfl
theorem slc_lst (m : Bool) (xs : List D) (lo hi : Option Int) (st : Store) : slcF m (.lst xs) lo hi st = mk m (cutD xs lo hi) st := rfl
section
variable (st : Store)
def appO (l : Nat) (e : D) (c : Option Cell) : Res D := match c with
  | some (.lst xs) => if e.isRef = false ∧ xs.length < sizeLine then .ok .non (st.set l (some (.lst (xs ++ [e])))) else .err
  | _ => .err
theorem appO_lst (l : Nat) (e : D) (xs : List D) : appO st l e (some (.lst xs)) = if e.isRef = false ∧ xs.length < sizeLine then .ok .non (st.set l (some (.lst (xs ++ [e])))) else .err := rfl
theorem app_rf (l : Nat) (e : D) : mthF .append (.ref l) [e] st = appO st l e st[l]?.join := by
  simp only [mthF, appO] <;> rcases st[l]? with _ | _ | _ | _ <;> rfl
def revO (l : Nat) (c : Option Cell) : Res D := match c with
  | some (.lst xs) => .ok .non (st.set l (some (.lst xs.reverse)))
  | _ => .err
theorem revO_lst (l : Nat) (xs : List D) : revO st l (some (.lst xs)) = .ok .non (st.set l (some (.lst xs.reverse))) := rfl
theorem rev_rf (l : Nat) : mthF .reverse (.ref l) [] st = revO st l st[l]?.join := by
  simp only [mthF, revO] <;> rcases st[l]? with _ | _ | _ | _ <;> rfl
def pop2O (l : Nat) (i : Int) (c : Option Cell) : Res D := match c with
  | some (.lst xs) => match xs[i.toNat]? with
    | some d => if 0 ≤ i ∧ i < 1000000000 then .ok d (st.set l (some (.lst (xs.eraseIdx i.toNat)))) else .err
    | none => .err
  | _ => .err
theorem pop2_rf (l : Nat) (i : Int) : mthF .popAt (.ref l) [.int i] st = pop2O st l i st[l]?.join := by
  simp only [mthF, pop2O] <;> rcases st[l]? with _ | _ | _ | _ <;> rfl
theorem isNon_exn (c : Nat) (n : Option Int) : isNon (.exn c n) = false := rfl
theorem ce_exn (m : Bool) (n c : Nat) (k : Option Int) : callEnd m n (.exn c k) st = .ok (.exn c k) (st.take n) := rfl
theorem exn_exn (cs : List Nat) (c : Nat) (n : Option Int) : isxvF cs (.exn c n) st = .ok (.bl (cs.any (subC c))) st := rfl
theorem fld_exn (c : Nat) (i : Int) : fldnF (.exn c (some i)) st = .ok (.int i) st := rfl
theorem min_int (m : Bool) (i j : Int) : bltF .min m [.int i, .int j] st = .ok (.int (if j < i then j else i)) st := rfl
theorem max_int (m : Bool) (i j : Int) : bltF .max m [.int i, .int j] st = .ok (.int (if j > i then j else i)) st := rfl
theorem sorted_lst (m : Bool) (ns : List Int) : bltF .sorted m [.lst (ns.map D.int)] st = mk m ((srtI ns).map .int) st := by
  have := intsOf_map ns (fun x => x)
  rw [List.map_id'] at this
  simp only [bltF, sortedL, lstOf, this]
end
section
variable (F : CallF) (env : Env) (st : Store)
theorem x_sraise (c : Nat) : ex F (.sraise c) env st = .exc ⟨c, none⟩ env st := rfl
theorem x_stry (b h : T) (c i : Nat) : ex F (.stry b c i h) env st = tryK i c h (ex F b env st) := rfl
theorem x_stryv (b : T) (c i j : Nat) : ex F (.stryv b c i j) env st = tryV i j c (ex F b env st) := rfl
theorem trv_nx (i j c : Nat) : tryV i j c (.nx env st) = .nx env st := rfl
theorem trv_rt (i j c : Nat) (d : D) : tryV i j c (.rt d st) = .rt d st := rfl
theorem trv_exc (i j c x : Nat) : tryV i j c (.exc ⟨x, none⟩ env st) = if i < env.length ∧ j < env.length then (if subC x c = true then .nx (((env.set i none).set j (some (.exn x none))).set i none) st else .exc ⟨x, none⟩ env st) else .err := rfl
theorem trv_exn (i j c x : Nat) (k : Int) : tryV i j c (.exc ⟨x, some (.int k)⟩ env st) = if i < env.length ∧ j < env.length then (if subC x c = true then .nx (((env.set i none).set j (some (.exn x (some k)))).set i none) st else .exc ⟨x, some (.int k)⟩ env st) else .err := rfl
theorem try_nx (i c : Nat) (h : T) : tryK i c h (.nx env st) = .nx env st := rfl
theorem try_rt (i c : Nat) (h : T) (d : D) : tryK i c h (.rt d st) = .rt d st := rfl
theorem try_exc (i c x : Nat) (h : T) : tryK i c h (.exc ⟨x, none⟩ env st) = if i < env.length then (if subC x c = true then wipeH i (hs x none h (env.set i none) st) else .exc ⟨x, none⟩ env st) else .err := rfl
theorem try_exn (i c x : Nat) (k : Int) (h : T) : tryK i c h (.exc ⟨x, some (.int k)⟩ env st) = if i < env.length then (if subC x c = true then wipeH i (hs x (some k) h (env.set i none) st) else .exc ⟨x, some (.int k)⟩ env st) else .err := rfl
theorem wipeH_nx (i : Nat) : wipeH i (.nx env st) = .nx (env.set i none) st := rfl
def rsN (c : Nat) (env : Env) (d : D) (st : Store) : SRes := match d with
  | .int i => .exc ⟨c, some (.int i)⟩ env st
  | _ => .err
theorem rsN_int (c : Nat) (i : Int) : rsN c env (.int i) st = .exc ⟨c, some (.int i)⟩ env st := rfl
theorem x_sraiseN (c : Nat) (e : T) : ex F (.sraiseN c e) env st = (ev F e env st).thenS env (rsN c env) := rfl
theorem hs_nil (x : Nat) (ag : Option Int) : hs x ag .nil env st = .nx env st := rfl
theorem hs_cons (x : Nat) (ag : Option Int) (s ss : T) : hs x ag (.cons s ss) env st = (hs x ag s env st).andThen (hs x ag ss) := rfl
theorem hs_set (x : Nat) (ag : Option Int) (i : Nat) (e : T) : hs x ag (.sset (.tnm i) e) env st = (hv x ag e env st).thenS env (putK i env) := rfl
theorem hs_sif (x : Nat) (ag : Option Int) (cs : List Nat) (a b : T) : hs x ag (.sif (.isx cs) a b) env st = if cs.any (subC x) = true then hs x ag a env st else hs x ag b env st := rfl
def hap2 (l : D) (env : Env) (d : D) (st : Store) : SRes := (mthF .append l [d] st).thenS env (expK env)
theorem hap2_eq (l d : D) : hap2 l env d st = (mthF .append l [d] st).thenS env (expK env) := rfl
def hap1 (x : Nat) (ag : Option Int) (e : T) (env : Env) (l : D) (o : Option (List D)) (st : Store) : SRes := match o with
  | none => .err
  | some _ => (hv x ag e env st).thenS env (hap2 l env)
theorem hap1_some (x : Nat) (ag : Option Int) (e : T) (l : D) (xs : List D) : hap1 x ag e env l (some xs) st = (hv x ag e env st).thenS env (hap2 l env) := rfl
def hap0 (x : Nat) (ag : Option Int) (e : T) (env : Env) (l : D) (st : Store) : SRes := hap1 x ag e env l (lstOf st l) st
theorem hap0_eq (x : Nat) (ag : Option Int) (e : T) (l : D) : hap0 x ag e env l st = hap1 x ag e env l (lstOf st l) st := rfl
theorem hs_app (x : Nat) (ag : Option Int) (i : Nat) (e : T) : hs x ag (.sexp (.mth .append (.var i) (.cons e .nil))) env st = (hv x ag (.var i) env st).thenS env (hap0 x ag e env) := by
  simp only [hs]; congr 1
theorem hv_isx (x : Nat) (ag : Option Int) (cs : List Nat) : hv x ag (.isx cs) env st = .ok (.bl (cs.any (subC x))) st := by simp only [hv]
theorem hv_fld (x : Nat) (k : Int) : hv x (some k) .hfld env st = .ok (.int k) st := by simp only [hv]
theorem hv_con (x : Nat) (ag : Option Int) (d : D) : hv x ag (.con d) env st = .ok d st := by simp only [hv]
theorem hv_var (x : Nat) (ag : Option Int) (i : Nat) : hv x ag (.var i) env st = optR (env[i]?).join st := by
  simp only [hv]
  rcases env[i]? with _ | _ | _ <;> rfl
theorem hv_lst (x : Nat) (ag : Option Int) (m : Bool) (es : T) : hv x ag (.lst m es) env st = (hvs x ag es env st).bind (lstF m) := by simp only [hv]
theorem hv_tup (x : Nat) (ag : Option Int) (es : T) : hv x ag (.tup es) env st = (hvs x ag es env st).bind tupF := by simp only [hv]
def hsK (k : Int) (d : D) (st : Store) : Res D := subIx d (.int k) st
theorem hsK_eq (k : Int) (d : D) : hsK k d st = subIx d (.int k) st := rfl
theorem hv_sub (x : Nat) (ag : Option Int) (a : T) (k : Int) : hv x ag (.sub a (.con (.int k))) env st = (hv x ag a env st).bind (hsK k) := by simp only [hv]; rfl
theorem hvs_nil (x : Nat) (ag : Option Int) : hvs x ag .nil env st = .ok [] st := by simp only [hvs]
def hcK (x : Nat) (ag : Option Int) (es : T) (env : Env) (d : D) (st : Store) : Res (List D) := (hvs x ag es env st).bind (consK2 d)
theorem hcK_eq (x : Nat) (ag : Option Int) (es : T) (d : D) : hcK x ag es env d st = (hvs x ag es env st).bind (consK2 d) := rfl
theorem hvs_cons (x : Nat) (ag : Option Int) (e es : T) : hvs x ag (.cons e es) env st = (hv x ag e env st).bind (hcK x ag es env) := by simp only [hvs]; rfl
theorem be_exc (x : Exn) : bodyEnd (.exc x env st) = .exc x st := rfl
def rvK (m : Bool) (o : Option (List D)) (st : Store) : Res D := match o with
  | some xs => mk m xs.reverse st
  | none => .err
theorem rvK_some (m : Bool) (xs : List D) : rvK m (some xs) st = mk m xs.reverse st := rfl
def rvK1 (m : Bool) (x : D) (st : Store) : Res D := revF m x st
theorem rvK1_lst (m : Bool) (xs : List D) : rvK1 m (.lst xs) st = rvK m (some xs) st := rfl
theorem rvK1_ref (m : Bool) (l : Nat) : rvK1 m (.ref l) st = rvK m (lstOf st (.ref l)) st := by
  simp only [rvK1, revF, rvK] <;> cases lstOf st (.ref l) <;> rfl
theorem rvK1_tup (m : Bool) (xs : List D) : rvK1 m (.tup xs) st = .ok (.tup xs.reverse) st := rfl
theorem v_rev (m : Bool) (a : T) : ev F (.rev m a) env st = (ev F a env st).bind (rvK1 m) := by
  simp only [ev]; congr 1
end
/-! ### two names at once; list(range(..)); clear; tuples put in order -/
section
variable (F : CallF) (env : Env) (st : Store)
def parK2 (i j : Nat) (x : D) (env : Env) (y : D) (st : Store) : SRes := if i < env.length then (if j < env.length then .nx ((env.set i (some x)).set j (some y)) st else .err) else .err
theorem parK2_eq (i j : Nat) (x y : D) : parK2 i j x env y st = if i < env.length then (if j < env.length then .nx ((env.set i (some x)).set j (some y)) st else .err) else .err := rfl
def parK1 (F : CallF) (i j : Nat) (b : T) (env : Env) (x : D) (st : Store) : SRes := (ev F b env st).thenS env (parK2 i j x env)
theorem parK1_eq (i j : Nat) (b : T) (x : D) : parK1 F i j b env x st = (ev F b env st).thenS env (parK2 i j x env) := rfl
theorem x_spar (i j : Nat) (a b : T) : ex F (.spar i j a b) env st = (ev F a env st).thenS env (parK1 F i j b env) := by
  simp only [ex]
  congr 1
  funext x st1
  simp only [parK1]
  congr 1
  funext y st2
  simp only [parK2]
  by_cases hi : i < env.length <;> by_cases hj : j < env.length <;> simp [hi, hj]
theorem v_suq (m : Bool) (a : T) : ev F (.suq m a) env st = (ev F a env st).bind (suqF m) := by
  simp only [ev]
theorem v_mmd (g : Bool) (a : T) : ev F (.mmd g a) env st = (ev F a env st).bind (mmdF g) := by
  simp only [ev]
def cmp4D (op'' : CmpOp) (z u : D) (st : Store) : Res D := optB (cmpF op'' z u st) st
def cmp4C (F : CallF) (op'' : CmpOp) (d : T) (env : Env) (z : D) (o : Option Bool) (st : Store) : Res D := match o with
  | some true => (ev F d env st).bind (cmpK2 op'' z)
  | some false => .ok (.bl false) st
  | none => .err
theorem cmp4C_t (op'' : CmpOp) (d : T) (z : D) : cmp4C F op'' d env z (some true) st = (ev F d env st).bind (cmpK2 op'' z) := rfl
theorem cmp4C_f (op'' : CmpOp) (d : T) (z : D) : cmp4C F op'' d env z (some false) st = .ok (.bl false) st := rfl
def cmp4B2 (F : CallF) (op' op'' : CmpOp) (d : T) (env : Env) (y z : D) (st : Store) : Res D := cmp4C F op'' d env z (cmpF op' y z st) st
theorem cmp4B2_eq (op' op'' : CmpOp) (d : T) (y z : D) : cmp4B2 F op' op'' d env y z st = cmp4C F op'' d env z (cmpF op' y z st) st := rfl
def cmp4B (F : CallF) (op' op'' : CmpOp) (c d : T) (env : Env) (y : D) (o : Option Bool) (st : Store) : Res D := match o with
  | some true => (ev F c env st).bind (cmp4B2 F op' op'' d env y)
  | some false => .ok (.bl false) st
  | none => .err
theorem cmp4B_t (op' op'' : CmpOp) (c d : T) (y : D) : cmp4B F op' op'' c d env y (some true) st = (ev F c env st).bind (cmp4B2 F op' op'' d env y) := rfl
theorem cmp4B_f (op' op'' : CmpOp) (c d : T) (y : D) : cmp4B F op' op'' c d env y (some false) st = .ok (.bl false) st := rfl
def cmp4A2 (F : CallF) (op op' op'' : CmpOp) (c d : T) (env : Env) (x y : D) (st : Store) : Res D := cmp4B F op' op'' c d env y (cmpF op x y st) st
theorem cmp4A2_eq (op op' op'' : CmpOp) (c d : T) (x y : D) : cmp4A2 F op op' op'' c d env x y st = cmp4B F op' op'' c d env y (cmpF op x y st) st := rfl
def cmp4A (F : CallF) (op op' op'' : CmpOp) (b c d : T) (env : Env) (x : D) (st : Store) : Res D := (ev F b env st).bind (cmp4A2 F op op' op'' c d env x)
theorem cmp4A_eq (op op' op'' : CmpOp) (b c d : T) (x : D) : cmp4A F op op' op'' b c d env x st = (ev F b env st).bind (cmp4A2 F op op' op'' c d env x) := rfl
theorem v_cmp4 (op op' op'' : CmpOp) (a b c d : T) : ev F (.cmp4 op op' op'' a b c d) env st = (ev F a env st).bind (cmp4A F op op' op'' b c d env) := by
  simp only [ev]; congr 1
theorem v_lrng (m : Bool) (a : T) : ev F (.lrng m a) env st = (ev F a env st).bind (lrngF m) := by
  simp only [ev]
def clrO (l : Nat) (c : Option Cell) : Res D := match c with
  | some (.lst _) => .ok .non (st.set l (some (.lst [])))
  | _ => .err
theorem clrO_lst (l : Nat) (xs : List D) : clrO st l (some (.lst xs)) = .ok .non (st.set l (some (.lst []))) := rfl
theorem clr_rf (l : Nat) : mthF .clear (.ref l) [] st = clrO st l st[l]?.join := by
  simp only [mthF, clrO] <;> rcases st[l]? with _ | _ | _ | _ <;> rfl
end
section
variable (F : CallF) (env : Env) (st : Store)
def isi2K (ty ty' : String) (x : D) (st : Store) : Res D := isi2F x ty ty' st
theorem isi2K_eq (ty ty' : String) (x : D) : isi2K ty ty' x st = isi2F x ty ty' st := rfl
theorem v_isi2 (a : T) (ty ty' : String) : ev F (.isi2 a ty ty') env st = (ev F a env st).bind (isi2K ty ty') := by
  simp only [ev]; congr 1
theorem is2_non : isi2F .non "int" "str" st = .ok (.bl false) st := rfl
theorem is2_bl (b : Bool) : isi2F (.bl b) "int" "str" st = .ok (.bl true) st := rfl
theorem is2_int (b : Int) : isi2F (.int b) "int" "str" st = .ok (.bl true) st := rfl
theorem is2_str (b : Str) : isi2F (.str b) "int" "str" st = .ok (.bl true) st := rfl
theorem is2_tup (b : List D) : isi2F (.tup b) "int" "str" st = .ok (.bl false) st := rfl
theorem is2_lst (b : List D) : isi2F (.lst b) "int" "str" st = .ok (.bl false) st := rfl
def insO (l : Nat) (i : Int) (e : D) (c : Option Cell) : Res D := match c with
  | some (.lst xs) => if e.isRef = false ∧ xs.length < sizeLine ∧ 0 ≤ i ∧ i < 2 ^ 62 then .ok .non (st.set l (some (.lst (xs.take i.toNat ++ [e] ++ xs.drop i.toNat)))) else .err
  | _ => .err
theorem insO_lst (l : Nat) (i : Int) (e : D) (xs : List D) : insO st l i e (some (.lst xs)) = if e.isRef = false ∧ xs.length < sizeLine ∧ 0 ≤ i ∧ i < 2 ^ 62 then .ok .non (st.set l (some (.lst (xs.take i.toNat ++ [e] ++ xs.drop i.toNat)))) else .err := rfl
theorem ins_rf (l : Nat) (i : Int) (e : D) : mthF .insert (.ref l) [.int i, e] st = insO st l i e st[l]?.join := by
  simp only [mthF, insO] <;> rcases st[l]? with _ | _ | _ | _ <;> rfl
end
section
variable (F : CallF) (env : Env) (st : Store)
def augO (x y : D) (o : Option Store) (env : Env) : SRes := match o with
  | some st4 => .nx env st4
  | none => .err
theorem augO_some (x y : D) (st4 : Store) : augO x y (some st4) env = .nx env st4 := rfl
def augK3 (x y : D) (v : Int) (env : Env) (d : D) (st : Store) : SRes := match d with
  | .int w => augO x y (setFl x y (.int (v + w)) st) env
  | _ => .err
theorem augK3_int (x y : D) (v w : Int) : augK3 x y v env (.int w) st = augO x y (setFl x y (.int (v + w)) st) env := rfl
def augK2 (F : CallF) (e : T) (x y : D) (env : Env) (o : Option Int) (st : Store) : SRes := match o with
  | some v => (ev F e env st).thenS env (augK3 x y v env)
  | none => .err
theorem augK2_some (e : T) (x y : D) (v : Int) : augK2 F e x y env (some v) st = (ev F e env st).thenS env (augK3 x y v env) := rfl
def augK1 (F : CallF) (e : T) (x : D) (env : Env) (y : D) (st : Store) : SRes := augK2 F e x y env (augG x y st) st
theorem augK1_eq (e : T) (x y : D) : augK1 F e x env y st = augK2 F e x y env (augG x y st) st := rfl
def augK0 (F : CallF) (i e : T) (env : Env) (x : D) (st : Store) : SRes := (ev F i env st).thenS env (augK1 F e x env)
theorem augK0_eq (i e : T) (x : D) : augK0 F i e env x st = (ev F i env st).thenS env (augK1 F e x env) := rfl
theorem x_saug (a i e : T) : ex F (.saug a i e) env st = (ev F a env st).thenS env (augK0 F i e env) := rfl
def augC (c : Option Cell) (k : Int) : Option Int := match c with
  | some (.lst xs) => match atI xs k with
    | some (.int v) => some v
    | _ => none
  | _ => none
theorem augG_rf (l : Nat) (k : Int) : augG (.ref l) (.int k) st = augC st[l]?.join k := by
  simp only [augG, augC] <;> rcases st[l]? with _ | _ | _ | _ <;> rfl
end
theorem while_t {c : Env → Store → Res D} {b : Env → Store → SRes} {n : Nat} {env env' : Env} {st st1 st' : Store} (h : c env st = .ok (.bl true) st1) (hb : b env st1 = .nx env' st') : whileL c b (n + 1) env st = whileL c b n env' st' := by
  simp only [whileL, h, thenS_ok, hb]
theorem while_f {c : Env → Store → Res D} {b : Env → Store → SRes} {n : Nat} {env : Env} {st st1 : Store} (h : c env st = .ok (.bl false) st1) : whileL c b (n + 1) env st = .nx env st1 := by
  simp only [whileL, h, thenS_ok]
/-! ### dicts -/
section
variable (F : CallF) (env : Env) (st : Store)
theorem v_dnew : ev F .dnew env st = .ok (.ref st.length) (st ++ [some (.dk [])]) := by simp only [ev]
theorem v_dct0 : ev F .dct0 env st = .ok .dct st := by simp only [ev]
def dgetK3 (x y d : D) (st : Store) : Res D := dgetF x y d st
theorem dgetK3_eq (x y d : D) : dgetK3 x y d st = dgetF x y d st := rfl
def dgetK2 (F : CallF) (z : T) (env : Env) (x y : D) (st : Store) : Res D := (ev F z env st).bind (dgetK3 x y)
theorem dgetK2_eq (z : T) (x y : D) : dgetK2 F z env x y st = (ev F z env st).bind (dgetK3 x y) := rfl
def dgetK1 (F : CallF) (k z : T) (env : Env) (x : D) (b : Bool) (st : Store) : Res D := if b = true then (ev F k env st).bind (dgetK2 F z env x) else .err
theorem dgetK1_t (k z : T) (x : D) : dgetK1 F k z env x true st = (ev F k env st).bind (dgetK2 F z env x) := rfl
def dgetK (F : CallF) (k z : T) (env : Env) (x : D) (st : Store) : Res D := dgetK1 F k z env x (isDk x st) st
theorem dgetK_eq (k z : T) (x : D) : dgetK F k z env x st = dgetK1 F k z env x (isDk x st) st := rfl
theorem v_dget (o k z : T) : ev F (.dget o k z) env st = (ev F o env st).bind (dgetK F k z env) := by
  simp only [ev]
  rfl
theorem isDk_rf (l : Nat) : isDk (.ref l) st = (dkOf st (.ref l)).isSome := rfl
def dgO (o : Option (List (Int × Int))) (k v : Int) (st : Store) : Res D := match o with
  | some kvs => .ok (.int ((getI kvs k).getD v)) st
  | none => .err
theorem dgO_some (kvs : List (Int × Int)) (k v : Int) : dgO (some kvs) k v st = .ok (.int ((getI kvs k).getD v)) st := rfl
theorem dget_rf (l : Nat) (k v : Int) : dgetF (.ref l) (.int k) (.int v) st = dgO (dkOf st (.ref l)) k v st := by
  simp only [dgetF, dgO]
  cases dkOf st (.ref l) <;> rfl
def dgtK2 (x y : D) (st : Store) : Res D := dgt1F x y st
theorem dgtK2_eq (x y : D) : dgtK2 x y st = dgt1F x y st := rfl
def dgtK (F : CallF) (k : T) (env : Env) (x : D) (st : Store) : Res D := if isDT x = true then (ev F k env st).bind (dgtK2 x) else .err
theorem dgtK_dcT (k : T) (ks : List (List Int)) (vs : List D) : dgtK F k env (.dcT ks vs) st = (ev F k env st).bind (dgtK2 (.dcT ks vs)) := rfl
theorem v_dgt1 (o k : T) : ev F (.dgt1 o k) env st = (ev F o env st).bind (dgtK F k env) := by
  simp only [ev]
  rfl
theorem intsOf_self (ns : List Int) : intsOf (ns.map .int) = some ns := by
  induction ns with
  | nil => rfl
  | cons n ns ih => simp only [List.map_cons, intsOf, ih, Option.map_some]
theorem keyT_ints (ns : List Int) : keyT (.tup (ns.map .int)) = some ns := intsOf_self ns
theorem dgt_dcT (ks : List (List Int)) (vs : List D) (ns : List Int) : dgt1F (.dcT ks vs) (.tup (ns.map .int)) st = .ok ((getK ks vs ns).getD .non) st := by
  simp only [dgt1F, keyT_ints]
theorem v_dof (a : T) : ev F (.dof a) env st = (ev F a env st).bind dofF := by
  simp only [ev]
def dofO (o : Option (List (List Int) × List D)) (st : Store) : Res D := match o with
  | some (ks, vs) => if ks.Nodup then .ok (.dcT ks vs) st else .err
  | none => .err
def ditK (m : Bool) (x : D) (st : Store) : Res D := ditF m x st
theorem v_ditems (m : Bool) (a : T) : ev F (.ditems m a) env st = (ev F a env st).bind (ditK m) := by
  simp only [ev]
  rfl
def ditO (m : Bool) (o : Option (List (Int × Int))) (st : Store) : Res D := match o with
  | some kvs => if kvs.length ≤ sizeLine then mk m ((srtT (kvs.map fun p => [p.1, p.2])).map tupD) st else .err
  | none => .err
theorem ditK_rf (m : Bool) (l : Nat) : ditK m (.ref l) st = ditO m (dkOf st (.ref l)) st := rfl
theorem ce_dcT (m : Bool) (n : Nat) (ks : List (List Int)) (vs : List D) : callEnd m n (.dcT ks vs) st = .ok (.dcT ks vs) (st.take n) := rfl
theorem isNon_dcT (ks : List (List Int)) (vs : List D) : isNon (.dcT ks vs) = false := rfl
end
theorem in_sgn (c : Nat) (z : Str) (st : Store) : cmpF .In (.str ⟨#[c]⟩) (.str z) st = some (decide (c ∈ z.cps.toList)) := rfl
theorem int_txt {z : Str} {k : Int} (h : PySem.intText? z = some k) (hz : z.length ≤ 640) (m : Bool) (st : Store) : bltF .int m [.str z] st = .ok (.int k) st := by
  show intL [.str z] st = _
  simp only [intL, h, if_pos hz]
theorem strsOf_map : ∀ ys : List Str, strsOf (ys.map D.str) = some ys
  | [] => rfl
  | y :: ys => by simp only [List.map_cons, strsOf, strsOf_map ys, Option.map_some]
theorem join_lst (m : Bool) (a : Str) (ys : List Str) (st : Store) (h : (ys.map (·.length)).sum + ys.length * a.length ≤ 16777216) : smF 0 m (.str a) (.lst (ys.map .str)) st = .ok (.str (Txt.join a ys)) st := by
  simp only [smF, lstOf, Option.bind_some, strsOf_map, if_pos h, if_pos]
theorem split_txt (m : Bool) (a b : Str) (st : Store) (hb : (b.length == 0) = false) (h : a.length + 2 ≤ 16777216) : smF 1 m (.str a) (.str b) st = mk m ((Txt.split a b).map .str) st := by
  simp only [smF]
  rw [if_neg (by decide), if_pos ⟨hb, h⟩]
end Zn

local macro_rules | `(tactic| simp! [$ts,*]) => `(tactic| (try simp -implicitDefEqProofs only [Int.reduceToNat, Int.reducePow, Int.reduceMul, Int.reduceAdd, Int.reduceSub, Int.reduceNeg, Int.reduceLT, Int.reduceLE, Zn.x_nil, Zn.x_cons, Zn.x_sif, Zn.sifK_t, Zn.sifK_f, Zn.x_sset1, Zn.putK_eq, Zn.x_sset2, Zn.setK_eq, Zn.setK1_eq, Zn.setK2_eq, Zn.x_ttp, Zn.ttpK_eq, Zn.okS_ok, Zn.setF_eq, Zn.setG_some, Zn.setG_dk, Zn.setFl_eq, Zn.setGl_lst, Zn.subL_some, Zn.subL_none, Zn.dkOf_rf, Zn.dkO_dk, Option.isSome_some, Zn.v_dnew, Zn.v_dct0, Zn.v_dget, Zn.dgetK_eq, Zn.isDk_rf, Zn.dgetK1_t, Zn.dgetK2_eq, Zn.dgetK3_eq, Zn.dget_rf, Zn.dgO_some, Zn.v_dgt1, Zn.dgtK_dcT, Zn.dgtK2_eq, Zn.dgt_dcT, Zn.v_dof, Zn.v_ditems, Zn.ditK_rf, Zn.isRef_dcT, Zn.ce_dcT, Zn.isNon_dcT, Zn.xs_dk, Zn.x_sexp, Zn.expK_eq, Zn.x_sret, Zn.x_sretn, Zn.x_sbrk, Zn.x_scnt, Zn.x_spass, Zn.x_sfor, Zn.walkS_fix, Zn.walkS_live, Zn.v_fld, Zn.v_meth, Zn.methK_eq, Zn.methK1_t, Zn.methK2_eq, Zn.v_mkI, Zn.v_lrs, Zn.v_smth, Zn.smK_str, Zn.lrF, Zn.sub_lr, Zn.isIns_ins, Zn.fld_ins, Zn.mkI0_tup, Zn.mkI1_tup, Zn.isNon_ins, Zn.isNon_lr, Zn.isRef_ins, Zn.isRef_lr, Zn.v_var, Zn.v_con, Zn.v_gi, Zn.v_gsv, Zn.v_bin, Zn.binK_eq, Zn.binK2_eq, Zn.v_neg, Zn.v_cmp, Zn.cmpK_eq, Zn.cmpK2_eq, Zn.v_cmp2, Zn.cmp2K_eq, Zn.cmp2K2_eq, Zn.cmp3K_t, Zn.cmp3K_f, Zn.v_bop, Zn.vB_one, Zn.vB_and, Zn.andK_t, Zn.andK_f, Zn.vB_or, Zn.orK_t, Zn.orK_f, Zn.v_nt, Zn.ntK_bl, Zn.v_ite, Zn.iteK_t, Zn.iteK_f, Zn.v_tup, Zn.v_lst, Zn.v_dct1, Zn.dctK_eq, Zn.dctK2_eq, Zn.v_sub, Zn.subK_eq, Zn.subK2_eq, Zn.v_slc, Zn.slcK_eq, Zn.slcK2_eq, Zn.slcK3_eq, Zn.v_call, Zn.callK_eq, Zn.v_blt, Zn.v_isi, Zn.isiK1_eq, Zn.v_frz, Zn.v_mth, Zn.mthK_eq, Zn.mthK1_some, Zn.mthK2_eq, Zn.vs_nil, Zn.vs_cons, Zn.consK_eq, Zn.consK2_eq, Zn.vo_no, Zn.vo_so, Zn.vt_no, Zn.vt_so, Zn.bK_bl, Zn.vw_sit, Zn.vw_srng, Zn.vw_senum, Zn.vw_srev, Zn.rvW_lst, Zn.vw_szip, Zn.zipK_eq, Zn.zipK2_eq, Zn.walkS_zp, Zn.str_str, Zn.v_comp, Zn.cturn_eq, Zn.cturnO_some, Zn.eltK_t, Zn.eltK_f, Zn.someK_eq, Zn.asgN_tnm, Zn.asgN_ttp, Zn.asgN_nil, Zn.asgN_cons, Zn.wipe_nil, Zn.wipe_cons, Zn.as_tnm, Zn.bind_ok, Zn.bind_exc, Zn.bind_err, Zn.thenS_ok, Zn.thenS_exc, Zn.thenS_err, Zn.andThen_nx, Zn.andThen_rt, Zn.andThen_bk, Zn.andThen_ct, Zn.andThen_exc, Zn.andThen_err, Zn.optB_some, Zn.optR_some, Zn.subO_some, Zn.asgS_some, Zn.asgO_some, Zn.negF_int, Zn.oI_int, Zn.enW_tup, Zn.enW_lst, Option.bind_some, if_true, if_false, ite_true, ite_false, Zn.as_ttp, Zn.as_ttpl, Zn.as_nil, Zn.as_cons, Zn.isRef_non, Zn.isRef_bl, Zn.isRef_int, Zn.isRef_str, Zn.isRef_tup, Zn.isRef_lst, Zn.isRef_scr, Zn.isRef_dct, Zn.isRef_ref, Zn.sub_rf, Zn.subL_some, Zn.len_rf, Zn.lenO_some, Zn.ixN_0, Zn.ixN_1, Zn.ixN_2, Zn.ixN_3, Zn.ixN_ofNat, Zn.atI_2, Zn.atI_3, Zn.atI_4, Zn.atI_5, Zn.atI_6, Zn.atI_7, Zn.atI_8, Zn.atI_9, Zn.add_int, Zn.sub_int, Zn.lt_int, Zn.le_int, Zn.gt_int, Zn.ge_int, Zn.sub_tup, Zn.sub_lst, Zn.sub_scr, Zn.len_tup, Zn.len_lst, Zn.len_scr, Zn.lstOf_ref, Zn.lstOf_lst, Zn.xs_lst, Zn.xs_fz, Zn.ce_non, Zn.ce_bl, Zn.ce_int, Zn.ce_str, Zn.ce_tup, Zn.ce_lst, Zn.be_nx, Zn.be_rt, Zn.isi_non_int, Zn.isi_non_bool, Zn.isi_non_str, Zn.isi_non_tuple, Zn.isi_non_list, Zn.isi_bl_int, Zn.isi_bl_bool, Zn.isi_bl_str, Zn.isi_bl_tuple, Zn.isi_bl_list, Zn.isi_int_int, Zn.isi_int_bool, Zn.isi_int_str, Zn.isi_int_tuple, Zn.isi_int_list, Zn.isi_str_int, Zn.isi_str_bool, Zn.isi_str_str, Zn.isi_str_tuple, Zn.isi_str_list, Zn.isi_tup_int, Zn.isi_tup_bool, Zn.isi_tup_str, Zn.isi_tup_tuple, Zn.isi_tup_list, Zn.isi_lst_int, Zn.isi_lst_bool, Zn.isi_lst_str, Zn.isi_lst_tuple, Zn.isi_lst_list, Zn.isi_scr_int, Zn.isi_scr_bool, Zn.isi_scr_str, Zn.isi_scr_tuple, Zn.isi_scr_list, Zn.isi_dct_int, Zn.isi_dct_bool, Zn.isi_dct_str, Zn.isi_dct_tuple, Zn.isi_dct_list, Zn.eq_val, Zn.ne_val, Zn.val_non, Zn.val_bl, Zn.val_int, Zn.val_str, Zn.val_tup, Zn.val_lst, Zn.val_rf, Zn.valO_some, Zn.eqD_int, Zn.eqD_bl, Zn.mapnot, Zn.tuple_rf, Zn.tupleO_some, Zn.tuple_lst, Zn.tuple_tup, Zn.list_rf, Zn.listO_some, Zn.list_lst, Zn.list_tup, Zn.int_int, Zn.int_bl, Zn.frz_rf, Zn.frzO_lst, Zn.frzO_fz, Zn.mid_get, Zn.mid_set, Zn.app_nil, List.take_left, Zn.mk_true, Zn.mk_false, Zn.tupF, Zn.lstF, Zn.dctF, PySem.sizeLine, Nat.reducePow, Nat.reduceLeDiff, List.all_cons, List.all_nil, Bool.and_self, Bool.and_true, Bool.true_and, and_self, and_true, true_and, Zn.x_sraise, Zn.v_isxv, Zn.isxK_eq, Zn.v_fldn, Zn.exn_exn, Zn.fld_exn, Zn.x_stryv, Zn.trv_nx, Zn.trv_rt, Zn.trv_exc, Zn.trv_exn, Zn.isRef_exn, Zn.isNon_exn, Zn.ce_exn, Zn.pop2_rf, Zn.x_stry, Zn.try_nx, Zn.try_rt, Zn.try_exc, Zn.try_exn, Zn.rsN_int, Zn.x_sraiseN, Zn.hs_sif, Zn.hv_fld, Zn.hv_con, Zn.hv_tup, Zn.hsK_eq, Zn.hv_sub, Zn.wipeH_nx, Zn.hs_nil, Zn.hs_cons, Zn.hs_set, Zn.hs_app, Zn.hap0_eq, Zn.hap1_some, Zn.hap2_eq, Zn.hv_isx, Zn.hv_var, Zn.hv_lst, Zn.hvs_nil, Zn.hcK_eq, Zn.hvs_cons, Zn.be_exc, Zn.rvK_some, Zn.rvK1_lst, Zn.rvK1_ref, Zn.rvK1_tup, Zn.v_rev, Zn.slc_tup, Zn.slc_lst, Zn.app_rf, Zn.appO_lst, Zn.rev_rf, Zn.revO_lst, Zn.v_isi2, Zn.isi2K_eq, Zn.is2_non, Zn.is2_bl, Zn.is2_int, Zn.is2_str, Zn.is2_tup, Zn.is2_lst, Zn.ins_rf, Zn.insO_lst, Zn.x_saug, Zn.augK0_eq, Zn.augK1_eq, Zn.augK2_some, Zn.augK3_int, Zn.augO_some, Zn.augG_rf, Zn.x_spar, Zn.parK1_eq, Zn.parK2_eq, Zn.v_lrng, Zn.v_suq, Zn.v_mmd, Zn.v_cmp4, Zn.cmp4A_eq, Zn.cmp4A2_eq, Zn.cmp4B_t, Zn.cmp4B_f, Zn.cmp4B2_eq, Zn.cmp4C_t, Zn.cmp4C_f, Zn.clr_rf, Zn.clrO_lst, Zn.min_int, Zn.max_int, Zn.sorted_lst, Zn.is_bl, Zn.isn_bl, Zn.is_non, Zn.isn_non, Zn.isNon_non, Zn.isNon_bl, Zn.isNon_int, Zn.isNon_str, Zn.isNon_tup, Zn.isNon_lst, Zn.isNon_ref, List.cons_append, List.nil_append, id, List.getElem?_cons_zero, List.getElem?_cons_succ, List.set_cons_zero, List.set_cons_succ, List.length_cons, List.length_nil, List.length_set, Option.join_some, Option.map_some, Zn.startE, List.map_cons, List.map_nil, List.replicate_succ, List.replicate_zero, List.cons_append, List.nil_append, List.take_succ_cons, List.take_zero, List.take_length, Zn.atI_zero, Zn.atI_one, Zn.atI_ofNat, Nat.reduceAdd, Nat.reduceSub, Nat.reduceLT, Nat.reduceLeDiff, Nat.zero_lt_succ, Nat.lt_add_one, decide_true, decide_false, Bool.not_true, Bool.not_false, $ts,*]))
local macro_rules | `(tactic| walk_at "zl") => `(tactic| ((try simp only [List.length_append, List.length_cons, List.length_nil, List.length_map, List.length_replicate, List.length_range]); omega))
local macro_rules | `(tactic| walk_at "zo") => `(tactic| first | (rw [Zn.mod_o]; rotate_left; omega) | (rw [Zn.mul_o]; rotate_left; omega; omega; omega; omega) | (rw [Zn.div_o]; rotate_left; omega; omega) | (rw [Zn.shl_o]; rotate_left; omega; omega; omega; omega) | (rw [Zn.shr_o]; rotate_left; omega) | (rw [Zn.add_tup]; rotate_left; walk_at "zl") | (rw [Zn.add_lst]; rotate_left; walk_at "zl") | (rw [Zn.pow_o]; rotate_left; omega; omega; omega; omega) | (rw [Zn.str_o]; rotate_left; omega; omega))

namespace Zn
open PySem PySem.Spec PyProof.Rows L2
namespace PA
def t_cell : T :=
  (.cons (.sif (.cmp .Lt (.var 1) (.blt .len false (.cons (.var 0) .nil))) (.cons (.sret (.sub (.var 0) (.var 1))) .nil) .nil) (.cons (.sset (.tnm 2) (.bin false .Add (.bin false .Mult (.con (.int 31)) (.var 1)) (.con (.int 5)))) (.cons (.sif (.cmp .Gt (.blt .len false (.cons (.var 0) .nil)) (.con (.int 0))) (.cons (.sset (.tnm 2) (.bin false .Add (.var 2) (.bin false .Mult (.bin false .Mod (.sub (.var 0) (.bin false .Mod (.bin false .Add (.bin false .Mult (.con (.int 7)) (.var 1)) (.con (.int 3))) (.blt .len false (.cons (.var 0) .nil)))) (.con (.int 2147483629))) (.con (.int 48271))))) .nil) .nil) (.cons (.sret (.bin false .Mod (.bin false .Mult (.var 2) (.var 2)) (.con (.int 2147483587)))) .nil))))
def f_cell : Fn := ⟨"_law_cell", ["_law_script", "_law_k"], ["_law_script", "_law_k", "_law_number"], t_cell⟩
def t_take (i_cell : Nat) : T :=
  (.cons (.sif (.cmp .Gt (.sub (.var 0) (.con (.int 2))) (.con (.int 0))) (.cons (.sset (.tnm 4) (.bin false .Mod (.sub (.var 0) (.con (.int 2))) (.var 1))) (.cons (.sset (.tix (.var 0) (.con (.int 2))) (.bin false .FloorDiv (.sub (.var 0) (.con (.int 2))) (.var 1))) (.cons (.sret (.var 4)) .nil))) .nil) (.cons (.sset (.tnm 2) (.call i_cell false (.cons (.sub (.var 0) (.con (.int 0))) (.cons (.sub (.var 0) (.con (.int 1))) .nil)))) (.cons (.sset (.tix (.var 0) (.con (.int 1))) (.bin false .Add (.sub (.var 0) (.con (.int 1))) (.con (.int 1)))) (.cons (.sif (.cmp .GtE (.var 2) (.bin false .Pow (.con (.int 10)) (.con (.int 18)))) (.cons (.sset (.tix (.var 0) (.con (.int 2))) (.bin false .FloorDiv (.var 2) (.var 1))) (.cons (.sret (.bin false .Mod (.var 2) (.var 1))) .nil)) .nil) (.cons (.sset (.tnm 3) (.bin false .Mod (.bin false .Mult (.bin false .Add (.bin false .Add (.bin false .Mod (.var 2) (.con (.int 2147483629))) (.bin false .Mult (.con (.int 7919)) (.sub (.var 0) (.con (.int 1))))) (.con (.int 1))) (.con (.int 48271))) (.con (.int 2147483647)))) (.cons (.sset (.tnm 3) (.bin false .Mod (.bin false .Mult (.bin false .Add (.var 3) (.sub (.var 0) (.con (.int 1)))) (.bin false .Add (.bin false .Mod (.var 3) (.con (.int 65521))) (.con (.int 3)))) (.con (.int 2147483629)))) (.cons (.sif (.cmp .Gt (.var 1) (.bin false .Pow (.con (.int 10)) (.con (.int 8)))) (.cons (.sret (.bin false .Mod (.bin false .Pow (.bin false .FloorDiv (.var 3) (.con (.int 11))) (.con (.int 6))) (.var 1))) .nil) .nil) (.cons (.sret (.bin false .Mod (.bin false .FloorDiv (.var 3) (.con (.int 11))) (.var 1))) .nil))))))))
def f_take (i_cell : Nat) : Fn := ⟨"_law_take", ["_law_pen", "_law_size"], ["_law_pen", "_law_size", "_law_cell_here", "_law_number", "_law_found"], t_take i_cell⟩

def pen (ns : List Int) (k : Nat) (p : Int) : Option Cell := some (.lst [.scr ns, .int k, .int p])
def t__law_bounds (i__law_take : Nat) : T :=
  (.cons (.sset (.tnm 1) (.sub (.lst false (.cons (.call i__law_take false (.cons (.var 0) (.cons (.con (.int 41)) .nil))) (.cons (.con (.int 0)) (.cons (.con (.int 1)) (.cons (.con (.int 2)) (.cons (.con (.int 3)) (.cons (.con (.int 4)) (.cons (.con (.int 5)) (.cons (.con (.int 8)) .nil))))))))) (.call i__law_take false (.cons (.var 0) (.cons (.con (.int 8)) .nil))))) (.cons (.sset (.tnm 2) (.call i__law_take false (.cons (.var 0) (.cons (.con (.int 4)) .nil)))) (.cons (.sif (.cmp .Eq (.var 2) (.con (.int 0))) (.cons (.sret (.tup (.cons (.bin false .Add (.bin false .Sub (.call i__law_take false (.cons (.var 0) (.cons (.bin false .Sub (.bin false .Mult (.con (.int 2)) (.bin false .Pow (.con (.int 10)) (.con (.int 40)))) (.con (.int 1))) .nil))) (.bin false .Pow (.con (.int 10)) (.con (.int 40)))) (.con (.int 1))) (.cons (.var 1) .nil)))) .nil) .nil) (.cons (.sif (.cmp .Eq (.var 2) (.con (.int 1))) (.cons (.sret (.tup (.cons (.con (.int 0)) (.cons (.var 1) .nil)))) .nil) .nil) (.cons (.sret (.tup (.cons (.bin false .Sub (.call i__law_take false (.cons (.var 0) (.cons (.con (.int 99)) .nil))) (.con (.int 49))) (.cons (.var 1) .nil)))) .nil)))))
def f__law_bounds (i__law_take : Nat) : Fn := ⟨"_law_bounds", ["_law_pen"], ["_law_pen", "_law_levels", "_law_way"], t__law_bounds i__law_take⟩


theorem atI_mem {α : Type} {xs : List α} {i : Int} (h0 : 0 ≤ i) (h : i < xs.length) : ∃ x, atI xs i = some x ∧ x ∈ xs := by
  obtain ⟨x, h1, h2⟩ := atI_of h0 h
  exact ⟨x, h1, List.mem_of_getElem? h2⟩
end PA
end Zn

/-! PB: what the program's own small defs come to. -/
namespace Zn.PB
open PySem PySem.Spec PyProof.Rows L2 Zn
def t_top_of : T :=
  (.cons (.sret (.bin false .Sub (.bin false .Add (.sub (.var 0) (.con (.int 0))) (.bin false .LShift (.con (.int 1)) (.sub (.var 0) (.con (.int 1))))) (.con (.int 1)))) .nil)
def f_top_of : Fn := ⟨"top_of", ["bounds"], ["bounds"], t_top_of⟩
def b_span_of_1 : T := (.cons (.sset (.tnm 2) (.bin false .RShift (.var 2) (.con (.int 1)))) (.cons (.sset (.tnm 4) (.bin false .Add (.var 4) (.bin false .Mult (.var 3) (.var 2)))) .nil))
def t_span_of : T :=
  (.cons (.sset (.ttp (.cons (.tnm 4) (.cons (.tnm 5) .nil))) (.var 0)) (.cons (.sset (.tnm 2) (.bin false .LShift (.con (.int 1)) (.var 5))) (.cons (.sfor (.sit (.var 1)) (.tnm 3) b_span_of_1) (.cons (.sret (.tup (.cons (.var 4) (.cons (.bin false .Sub (.bin false .Add (.var 4) (.var 2)) (.con (.int 1))) .nil)))) .nil))))
def f_span_of : Fn := ⟨"span_of", ["bounds", "way"], ["bounds", "way", "size", "mark", "low", "levels"], t_span_of⟩

def Bd (low : Int) (L : Nat) : D := .tup [.int low, .int L]
def lowOf : Int → Nat → List Int → Int
  | low, _, [] => low
  | low, e, m :: ms => lowOf (low + m * 2 ^ (e - 1)) (e - 1) ms
def Marks (ms : List Int) : Prop := ∀ m ∈ ms, m = 0 ∨ m = 1
theorem Marks.tl {m : Int} {ms : List Int} (h : Marks (m :: ms)) : (m = 0 ∨ m = 1) ∧ Marks ms := ⟨h m (by simp), fun x hx => h x (by simp [hx])⟩
def t_ahead : T :=
  (.cons (.sset (.tnm 3) (.blt .sum false (.cons (.slc false (.var 0) .no (.so (.var 2))) .nil))) (.cons (.sif (.cmp .Eq (.var 1) (.con (.int 1))) (.cons (.sret (.var 3)) .nil) .nil) (.cons (.sret (.bin false .Sub (.var 2) (.var 3))) .nil)))
def f_ahead : Fn := ⟨"ahead", ["marks", "mark", "place"], ["marks", "mark", "place", "ones"], t_ahead⟩
def b_crossed_1 : T := (.cons (.sif (.cmp .Eq (.var 5) (.con (.int 1))) (.cons (.sset (.tnm 3) (.bin false .Add (.var 3) (.con (.int 1)))) .nil) (.cons (.sset (.tnm 4) (.bin false .Add (.var 4) (.var 3))) .nil)) .nil)
def t_crossed : T :=
  (.cons (.sset (.tnm 3) (.con (.int 0))) (.cons (.sset (.tnm 4) (.con (.int 0))) (.cons (.sfor (.sit (.slc false (.var 0) (.so (.var 1)) (.so (.var 2)))) (.tnm 5) b_crossed_1) (.cons (.sret (.var 4)) .nil))))
def f_crossed : Fn := ⟨"crossed", ["marks", "start", "end"], ["marks", "start", "end", "ones", "found", "mark"], t_crossed⟩


def zc : List Int → Int
  | [] => 0
  | m :: ms => (if m = 1 then 0 else 1) + zc ms
def oc : List Int → Int
  | [] => 0
  | m :: ms => (if m = 1 then 1 else 0) + oc ms
def cx : List Int → Int
  | [] => 0
  | m :: ms => (if m = 1 then zc ms else 0) + cx ms
def sg (ms : List Int) (j n : Nat) : List Int := (ms.drop j).take n
theorem Marks.sub {ms l : List Int} (h : Marks ms) (hs : ∀ x ∈ l, x ∈ ms) : Marks l := fun x hx => h x (hs x hx)
end Zn.PB

/-! PT: rows, and trees that part them by halves. -/
namespace Zn.PT
open PySem PySem.Spec PyProof.Rows L2 Zn Zn.PB
def e__law_row_1 (i__law_take : Nat) : T := (.call i__law_take false (.cons (.var 0) (.cons (.var 3) .nil)))
def b__law_row_2 (i__law_take : Nat) : T := (.cons (.sif (.cmp .Eq (.var 5) (.con (.int 0))) (.cons (.sexp (.mth .append (.var 7) (.cons (.bin false .Add (.sub (.var 1) (.con (.int 0))) (.call i__law_take false (.cons (.var 0) (.cons (.var 3) .nil)))) .nil))) .nil) (.cons (.sif (.cmp .Eq (.var 5) (.con (.int 3))) (.cons (.sexp (.mth .append (.var 7) (.cons (.bin false .Add (.sub (.var 1) (.con (.int 0))) (.bin false .Mod (.bin false .Add (.sub (.var 6) (.con (.int 0))) (.call i__law_take false (.cons (.var 0) (.cons (.con (.int 5)) .nil)))) (.var 3))) .nil))) .nil) (.cons (.sexp (.mth .append (.var 7) (.cons (.bin false .Add (.sub (.var 1) (.con (.int 0))) (.sub (.var 6) (.call i__law_take false (.cons (.var 0) (.cons (.blt .len false (.cons (.var 6) .nil)) .nil))))) .nil))) .nil)) .nil)) .nil)
def t__law_row (i__law_take : Nat) : T :=
  (.cons (.sset (.tnm 3) (.bin false .LShift (.con (.int 1)) (.sub (.var 1) (.con (.int 1))))) (.cons (.sset (.tnm 4) (.call i__law_take false (.cons (.var 0) (.cons (.con (.int 13)) .nil)))) (.cons (.sif (.cmp .Eq (.call i__law_take false (.cons (.var 0) (.cons (.con (.int 8)) .nil))) (.con (.int 5))) (.cons (.sset (.tnm 4) (.call i__law_take false (.cons (.var 0) (.cons (.bin false .Add (.var 2) (.con (.int 1))) .nil)))) .nil) .nil) (.cons (.sset (.tnm 5) (.call i__law_take false (.cons (.var 0) (.cons (.con (.int 4)) .nil)))) (.cons (.sset (.tnm 6) (.comp false (.srng 1 (.cons (.bin false .Add (.con (.int 1)) (.call i__law_take false (.cons (.var 0) (.cons (.con (.int 4)) .nil)))) .nil)) (.tnm 8) [("_law_k", 8)] .no (e__law_row_1 i__law_take))) (.cons (.sset (.tnm 7) (.lst true .nil)) (.cons (.sfor (.srng 1 (.cons (.var 4) .nil)) (.tnm 8) (b__law_row_2 i__law_take)) (.cons (.sif (.cmp .Eq (.var 5) (.con (.int 2))) (.cons (.sset (.tnm 7) (.blt .sorted true (.cons (.var 7) .nil))) .nil) .nil) (.cons (.sret (.var 7)) .nil)))))))))
def f__law_row (i__law_take : Nat) : Fn := ⟨"_law_row", ["_law_pen", "_law_bounds_here", "_law_greatest"], ["_law_pen", "_law_bounds_here", "_law_greatest", "_law_size", "_law_many", "_law_way", "_law_few", "_law_row_here", "_law_k"], t__law_row i__law_take⟩
def e__law_tree_1 (i__law_tree : Nat) : T := (.blt .int false (.cons (.cmp .GtE (.var 6) (.var 3)) .nil))
def q__law_tree_2 (i__law_tree : Nat) : T := (.cmp .Lt (.var 6) (.var 3))
def q__law_tree_3 (i__law_tree : Nat) : T := (.cmp .GtE (.var 6) (.var 3))
def t__law_tree (i__law_tree : Nat) : T :=
  (.cons (.sif (.cmp .Eq (.var 2) (.lst false .nil)) (.cons (.sret (.con .non)) .nil) .nil) (.cons (.sif (.cmp .Eq (.var 1) (.con (.int 0))) (.cons (.sret (.tup (.cons (.con (.str "many")) (.cons (.blt .len false (.cons (.var 2) .nil)) .nil)))) .nil) .nil) (.cons (.sset (.tnm 3) (.bin false .Add (.var 0) (.bin false .LShift (.con (.int 1)) (.bin false .Sub (.var 1) (.con (.int 1)))))) (.cons (.sset (.tnm 4) (.blt .tuple false (.cons (.comp false (.sit (.var 2)) (.tnm 6) [("_law_number", 6)] .no (e__law_tree_1 i__law_tree)) .nil))) (.cons (.sset (.tnm 5) (.call i__law_tree false (.cons (.var 0) (.cons (.bin false .Sub (.var 1) (.con (.int 1))) (.cons (.comp false (.sit (.var 2)) (.tnm 6) [("_law_number", 6)] (.so (q__law_tree_2 i__law_tree)) (.var 6)) .nil))))) (.cons (.sret (.tup (.cons (.con (.str "part")) (.cons (.var 4) (.cons (.var 5) (.cons (.call i__law_tree false (.cons (.var 3) (.cons (.bin false .Sub (.var 1) (.con (.int 1))) (.cons (.comp false (.sit (.var 2)) (.tnm 6) [("_law_number", 6)] (.so (q__law_tree_3 i__law_tree)) (.var 6)) .nil)))) .nil)))))) .nil))))))
def f__law_tree (i__law_tree : Nat) : Fn := ⟨"_law_tree", ["_law_low", "_law_levels", "_law_row_here"], ["_law_low", "_law_levels", "_law_row_here", "_law_half", "_law_marks", "_law_lower", "_law_number"], t__law_tree i__law_tree⟩
def t_size_of : T :=
  (.cons (.sif (.cmp .Is (.var 0) (.con .non)) (.cons (.sret (.con (.int 0))) .nil) .nil) (.cons (.sif (.cmp .Eq (.sub (.var 0) (.con (.int 0))) (.con (.str "many"))) (.cons (.sret (.sub (.var 0) (.con (.int 1)))) .nil) .nil) (.cons (.sret (.blt .len false (.cons (.sub (.var 0) (.con (.int 1))) .nil))) .nil)))
def f_size_of : Fn := ⟨"size_of", ["tree"], ["tree"], t_size_of⟩
def t_halved (i_span_of : Nat) : T :=
  (.cons (.sret (.tup (.cons (.sub (.call i_span_of false (.cons (.var 0) (.cons (.tup (.cons (.var 1) .nil)) .nil))) (.con (.int 0))) (.cons (.bin false .Sub (.sub (.var 0) (.con (.int 1))) (.con (.int 1))) .nil)))) .nil)
def f_halved (i_span_of : Nat) : Fn := ⟨"halved", ["bounds", "mark"], ["bounds", "mark"], t_halved i_span_of⟩
def e_row_of_1 (i_row_of i_halved i_top_of : Nat) : T := (.call i_row_of false (.cons (.call i_halved false (.cons (.var 0) (.cons (.var 5) .nil))) (.cons (.sub (.var 1) (.bin false .Add (.con (.int 2)) (.var 5))) .nil)))
def b_row_of_2 (i_row_of i_halved i_top_of : Nat) : T := (.cons (.sexp (.mth .append (.var 4) (.cons (.sub (.sub (.var 2) (.var 5)) (.sub (.var 3) (.var 5))) .nil))) (.cons (.sset (.tix (.var 3) (.var 5)) (.bin false .Add (.sub (.var 3) (.var 5)) (.con (.int 1)))) .nil))
def t_row_of (i_row_of i_halved i_top_of : Nat) : T :=
  (.cons (.sif (.cmp .Is (.var 1) (.con .non)) (.cons (.sret (.lst true .nil)) .nil) .nil) (.cons (.sif (.cmp .Eq (.sub (.var 1) (.con (.int 0))) (.con (.str "many"))) (.cons (.sret (.bin true .Mult (.lst false (.cons (.call i_top_of false (.cons (.var 0) .nil)) .nil)) (.sub (.var 1) (.con (.int 1))))) .nil) .nil) (.cons (.sset (.tnm 2) (.comp false (.sit (.tup (.cons (.con (.int 0)) (.cons (.con (.int 1)) .nil)))) (.tnm 5) [("mark", 5)] .no (e_row_of_1 i_row_of i_halved i_top_of))) (.cons (.sset (.tnm 3) (.lst true (.cons (.con (.int 0)) (.cons (.con (.int 0)) .nil)))) (.cons (.sset (.tnm 4) (.lst true .nil)) (.cons (.sfor (.sit (.sub (.var 1) (.con (.int 1)))) (.tnm 5) (b_row_of_2 i_row_of i_halved i_top_of)) (.cons (.sret (.var 4)) .nil)))))))
def f_row_of (i_row_of i_halved i_top_of : Nat) : Fn := ⟨"row_of", ["bounds", "tree"], ["bounds", "tree", "rows", "gone", "found", "mark"], t_row_of i_row_of i_halved i_top_of⟩
def w_number_at_1 (i_ahead i_span_of i_size_of : Nat) : T := (.cmp .Eq (.sub (.var 1) (.con (.int 0))) (.con (.str "part")))
def b_number_at_2 (i_ahead i_span_of i_size_of : Nat) : T := (.cons (.sset (.tnm 4) (.sub (.sub (.var 1) (.con (.int 1))) (.var 2))) (.cons (.sset (.tnm 2) (.call i_ahead false (.cons (.sub (.var 1) (.con (.int 1))) (.cons (.var 4) (.cons (.var 2) .nil))))) (.cons (.sset (.tnm 1) (.sub (.var 1) (.bin false .Add (.con (.int 2)) (.var 4)))) (.cons (.sset (.tnm 3) (.bin false .Add (.var 3) (.tup (.cons (.var 4) .nil)))) .nil))))
def t_number_at (rs : T) (i_ahead i_span_of i_size_of : Nat) : T :=
  (.cons (.sif (.bop .Or (.cons (.cmp .Lt (.var 2) (.con (.int 0))) (.cons (.cmp .GtE (.var 2) (.call i_size_of false (.cons (.var 1) .nil))) .nil))) (.cons rs .nil) .nil) (.cons (.sset (.tnm 3) (.tup .nil)) (.cons (.swhile (w_number_at_1 i_ahead i_span_of i_size_of) (b_number_at_2 i_ahead i_span_of i_size_of)) (.cons (.sret (.sub (.call i_span_of false (.cons (.var 0) (.cons (.var 3) .nil))) (.con (.int 0)))) .nil))))
def f_number_at (rs : T) (i_ahead i_span_of i_size_of : Nat) : Fn := ⟨"number_at", ["bounds", "tree", "place"], ["bounds", "tree", "place", "way", "mark"], t_number_at rs i_ahead i_span_of i_size_of⟩

/-! ### the tree of a row, in plain -/
def bit (h x : Int) : Int := if h ≤ x then 1 else 0
def treeD : Nat → Int → List Int → D
  | 0, _, row => if row = [] then .non else .tup [.str "many", .int row.length]
  | L + 1, low, row => if row = [] then .non else .tup [.str "part", .tup ((row.map (bit (low + 2 ^ L))).map .int), treeD L low (row.filter fun x => decide (x < low + 2 ^ L)), treeD L (low + 2 ^ L) (row.filter fun x => decide (low + 2 ^ L ≤ x))]
theorem tree_nil (L : Nat) (low : Int) : treeD L low [] = .non := by cases L <;> simp [treeD]
theorem tree_zero (low : Int) {row : List Int} (h : row ≠ []) : treeD 0 low row = .tup [.str "many", .int row.length] := by simp [treeD, h]
theorem tree_succ (L : Nat) (low : Int) {row : List Int} (h : row ≠ []) : treeD (L + 1) low row = .tup [.str "part", .tup ((row.map (bit (low + 2 ^ L))).map .int), treeD L low (row.filter fun x => decide (x < low + 2 ^ L)), treeD L (low + 2 ^ L) (row.filter fun x => decide (low + 2 ^ L ≤ x))] := by simp [treeD, h]
theorem tree_noref (L : Nat) (low : Int) (row : List Int) : (treeD L low row).isRef = false := by
  by_cases h : row = []
  · rw [h, tree_nil]; rfl
  · cases L with
    | zero => rw [tree_zero _ h]; rfl
    | succ L => rw [tree_succ _ _ h]; rfl
theorem wk_lst' (xs : List D) (st : Store) : wkOf (.lst xs) st = .ok (.fix xs) st := rfl
theorem tk_len (st : Store) : st.take st.length = st := List.take_length
section
variable (F : CallF) (st : Store) (i : Nat) (h : Int) (row : List Int) (hr : row.length ≤ 100000) (a b c d e : Option D)
include hr
end
def InB (low : Int) (L : Nat) (row : List Int) : Prop := ∀ x ∈ row, low ≤ x ∧ x < low + 2 ^ L
theorem InB.lo {low : Int} {L : Nat} {row : List Int} (h : InB low (L + 1) row) : InB low L (row.filter fun x => decide (x < low + 2 ^ L)) := fun x hx => by
  have := List.mem_filter.mp hx
  exact ⟨(h x this.1).1, by simpa using this.2⟩
theorem InB.hi {low : Int} {L : Nat} {row : List Int} (h : InB low (L + 1) row) : InB (low + 2 ^ L) L (row.filter fun x => decide (low + 2 ^ L ≤ x)) := fun x hx => by
  have := List.mem_filter.mp hx
  have h2 := (h x this.1).2
  rw [Int.pow_succ] at h2
  exact ⟨by simpa using this.2, by omega⟩
theorem InB.zero {low : Int} : ∀ {row : List Int}, InB low 0 row → row = List.replicate row.length low
  | [], _ => rfl
  | x :: row, h => by
    have h1 := h x (by simp)
    have e : x = low := by simp at h1; omega
    rw [List.length_cons, List.replicate_succ, ← InB.zero (row := row) fun y hy => h y (by simp [hy]), e]
theorem ce_new (m : Bool) (st : Store) (xs : List D) : callEnd m st.length (.ref st.length) (st ++ [some (.lst xs)]) = mk m xs st := compEnd_mk m st xs
theorem ce_bd (m : Bool) (k : Nat) (low : Int) (L : Nat) (st : Store) : callEnd m k (Bd low L) st = .ok (Bd low L) (st.take k) := rfl
theorem InB.snoc {low : Int} {L : Nat} {row : List Int} {v : Int} (h : InB low L row) (h1 : low ≤ v) (h2 : v < low + 2 ^ L) : InB low L (row ++ [v]) := fun x hx => by
  rcases List.mem_append.mp hx with hx | hx
  · exact h x hx
  · rw [List.mem_singleton.mp hx]; exact ⟨h1, h2⟩
end Zn.PT

/-! PG: the pen of the laws that draw by one cell; rows, trees and ways by it. -/
namespace Zn.PG
open PySem PySem.Spec PyProof.Rows L2 Zn Zn.PB Zn.PT
def b_lifted_1 (rs : T) (i_place_of i_size_of : Nat) : T := (.cons (.sif (.cmp .Is (.var 0) (.con .non)) (.cons rs .nil) .nil) (.cons (.sexp (.mth .append (.var 3) (.cons (.tup (.cons (.sub (.var 0) (.con (.int 1))) (.cons (.var 4) .nil))) .nil))) (.cons (.sset (.tnm 0) (.sub (.var 0) (.bin false .Add (.con (.int 2)) (.var 4)))) .nil)))
def b_lifted_2 (i_place_of i_size_of : Nat) : T := (.cons (.sset (.tnm 2) (.call i_place_of false (.cons (.var 5) (.cons (.var 4) (.cons (.var 2) .nil))))) .nil)
def t_lifted (rs : T) (i_place_of i_size_of : Nat) : T :=
  (.cons (.sset (.tnm 3) (.lst true .nil)) (.cons (.sfor (.sit (.var 1)) (.tnm 4) (b_lifted_1 rs i_place_of i_size_of)) (.cons (.sif (.nt (.cmp2 .LtE .Lt (.con (.int 0)) (.var 2) (.call i_size_of false (.cons (.var 0) .nil)))) (.cons rs .nil) .nil) (.cons (.sfor (.srev (.frz (.var 3))) (.ttp (.cons (.tnm 5) (.cons (.tnm 4) .nil))) (b_lifted_2 i_place_of i_size_of)) (.cons (.sret (.var 2)) .nil)))))
def f_lifted (rs : T) (i_place_of i_size_of : Nat) : Fn := ⟨"lifted", ["tree", "way", "place"], ["tree", "way", "place", "rows", "mark", "marks"], t_lifted rs i_place_of i_size_of⟩
def b_place_of_1 : T := (.cons (.sif (.cmp .Eq (.var 5) (.var 1)) (.cons (.sif (.cmp .Eq (.var 3) (.con (.int 0))) (.cons (.sret (.var 4)) .nil) .nil) (.cons (.sset (.tnm 3) (.bin false .Sub (.var 3) (.con (.int 1)))) .nil)) .nil) .nil)
def t_place_of (rs : T) : T :=
  (.cons (.sset (.tnm 3) (.var 2)) (.cons (.sfor (.senum (.var 0)) (.ttp (.cons (.tnm 4) (.cons (.tnm 5) .nil))) b_place_of_1) (.cons rs .nil)))
def f_place_of (rs : T) : Fn := ⟨"place_of", ["marks", "mark", "number"], ["marks", "mark", "number", "left", "place", "other"], t_place_of rs⟩
def t__law_cell : T :=
  (.cons (.sif (.cmp .Lt (.var 1) (.blt .len false (.cons (.var 0) .nil))) (.cons (.sret (.sub (.var 0) (.var 1))) .nil) .nil) (.cons (.sset (.tnm 2) (.bin false .Add (.bin false .Mult (.var 1) (.con (.int 7919))) (.con (.int 5)))) (.cons (.sif (.cmp .Gt (.blt .len false (.cons (.var 0) .nil)) (.con (.int 0))) (.cons (.sset (.tnm 2) (.bin false .Add (.bin false .Mult (.bin false .Mod (.sub (.var 0) (.bin false .Mod (.bin false .Mult (.var 1) (.con (.int 7))) (.blt .len false (.cons (.var 0) .nil)))) (.con (.int 2147483647))) (.con (.int 48271))) (.bin false .Mult (.var 1) (.con (.int 7919))))) .nil) .nil) (.cons (.sret (.bin false .Mod (.bin false .Mult (.var 2) (.var 2)) (.con (.int 2147483629)))) .nil))))
def f__law_cell : Fn := ⟨"_law_cell", ["_law_script", "_law_k"], ["_law_script", "_law_k", "_law_number"], t__law_cell⟩
def t__law_pen : T :=
  (.cons (.sret (.lst true (.cons (.var 0) (.cons (.con (.int 0)) .nil)))) .nil)
def f__law_pen : Fn := ⟨"_law_pen", ["_law_cell_here"], ["_law_cell_here"], t__law_pen⟩
def t__law_take : T :=
  (.cons (.sif (.bop .Or (.cons (.cmp .Lt (.sub (.var 0) (.con (.int 1))) (.con (.int 0))) (.cons (.bop .And (.cons (.cmp .Eq (.sub (.var 0) (.con (.int 1))) (.con (.int 0))) (.cons (.cmp .GtE (.sub (.var 0) (.con (.int 0))) (.bin false .Pow (.con (.int 10)) (.con (.int 18)))) .nil))) .nil))) (.cons (.sset (.tix (.var 0) (.con (.int 1))) (.neg (.con (.int 1)))) (.cons (.sset (.tnm 3) (.bin false .Mod (.sub (.var 0) (.con (.int 0))) (.var 1))) (.cons (.sset (.tix (.var 0) (.con (.int 0))) (.bin false .FloorDiv (.sub (.var 0) (.con (.int 0))) (.var 1))) (.cons (.sret (.var 3)) .nil)))) .nil) (.cons (.sset (.tix (.var 0) (.con (.int 1))) (.bin false .Add (.sub (.var 0) (.con (.int 1))) (.con (.int 1)))) (.cons (.sset (.tnm 2) (.bin false .Mod (.bin false .Add (.bin false .Add (.bin false .Mod (.sub (.var 0) (.con (.int 0))) (.con (.int 2147483647))) (.bin false .Mult (.con (.int 40503)) (.sub (.var 0) (.con (.int 1))))) (.con (.int 11))) (.con (.int 2147483629)))) (.cons (.sset (.tnm 2) (.bin false .Mod (.bin false .Mult (.var 2) (.bin false .Add (.var 2) (.con (.int 48271)))) (.con (.int 2147483587)))) (.cons (.sret (.bin false .Mod (.bin false .FloorDiv (.bin false .Mod (.bin false .Mult (.var 2) (.bin false .Add (.var 2) (.con (.int 69621)))) (.con (.int 2305843009213693951))) (.con (.int 5))) (.var 1))) .nil)))))
def f__law_take : Fn := ⟨"_law_take", ["_law_pen_here", "_law_size"], ["_law_pen_here", "_law_size", "_law_number", "_law_digit"], t__law_take⟩
def t__law_bounds (i__law_take : Nat) : T :=
  (.cons (.sset (.tnm 1) (.sub (.lst false (.cons (.call i__law_take false (.cons (.var 0) (.cons (.con (.int 5)) .nil))) (.cons (.con (.int 3)) (.cons (.call i__law_take false (.cons (.var 0) (.cons (.con (.int 41)) .nil))) (.cons (.con (.int 2)) .nil))))) (.call i__law_take false (.cons (.var 0) (.cons (.con (.int 4)) .nil))))) (.cons (.sset (.tnm 2) (.sub (.lst false (.cons (.con (.int 0)) (.cons (.neg (.con (.int 7))) (.cons (.bin false .Sub (.call i__law_take false (.cons (.var 0) (.cons (.bin false .Pow (.con (.int 10)) (.con (.int 39))) .nil))) (.bin false .Pow (.con (.int 10)) (.con (.int 38)))) (.cons (.con (.int 1)) .nil))))) (.call i__law_take false (.cons (.var 0) (.cons (.con (.int 4)) .nil))))) (.cons (.sret (.tup (.cons (.var 2) (.cons (.var 1) .nil)))) .nil)))
def f__law_bounds (i__law_take : Nat) : Fn := ⟨"_law_bounds", ["_law_pen_here"], ["_law_pen_here", "_law_levels", "_law_low"], t__law_bounds i__law_take⟩
def b__law_numbers_1 (i__law_take : Nat) : T := (.cons (.sif (.bop .And (.cons (.cmp .Eq (.call i__law_take false (.cons (.var 0) (.cons (.con (.int 4)) .nil))) (.con (.int 3))) (.cons (.cmp .NotEq (.var 3) (.lst false .nil)) .nil))) (.cons (.sexp (.mth .append (.var 3) (.cons (.sub (.var 3) (.call i__law_take false (.cons (.var 0) (.cons (.blt .len false (.cons (.var 3) .nil)) .nil)))) .nil))) .nil) (.cons (.sexp (.mth .append (.var 3) (.cons (.bin false .Add (.sub (.var 1) (.con (.int 0))) (.call i__law_take false (.cons (.var 0) (.cons (.bin false .LShift (.con (.int 1)) (.sub (.var 1) (.con (.int 1)))) .nil)))) .nil))) .nil)) .nil)
def t__law_numbers (i__law_take : Nat) : T :=
  (.cons (.sset (.tnm 3) (.lst true .nil)) (.cons (.sfor (.srng 1 (.cons (.call i__law_take false (.cons (.var 0) (.cons (.bin false .Add (.var 2) (.con (.int 1))) .nil))) .nil)) (.tnm 4) (b__law_numbers_1 i__law_take)) (.cons (.sret (.var 3)) .nil)))
def f__law_numbers (i__law_take : Nat) : Fn := ⟨"_law_numbers", ["_law_pen_here", "_law_bounds_here", "_law_long"], ["_law_pen_here", "_law_bounds_here", "_law_long", "_law_found", "_law_k"], t__law_numbers i__law_take⟩
def e__law_grown_1 (i__law_grown : Nat) : T := (.blt .int false (.cons (.cmp .GtE (.var 5) (.var 2)) .nil))
def q__law_grown_2 (i__law_grown : Nat) : T := (.cmp .Lt (.var 5) (.var 2))
def q__law_grown_3 (i__law_grown : Nat) : T := (.cmp .GtE (.var 5) (.var 2))
def e__law_grown_4 (i__law_grown : Nat) : T := (.bin false .Sub (.var 5) (.var 2))
def t__law_grown (i__law_grown : Nat) : T :=
  (.cons (.sif (.cmp .Eq (.var 1) (.lst false .nil)) (.cons (.sret (.con .non)) .nil) .nil) (.cons (.sif (.cmp .Eq (.var 0) (.con (.int 0))) (.cons (.sret (.tup (.cons (.con (.str "many")) (.cons (.blt .len false (.cons (.var 1) .nil)) .nil)))) .nil) .nil) (.cons (.sset (.tnm 2) (.bin false .LShift (.con (.int 1)) (.bin false .Sub (.var 0) (.con (.int 1))))) (.cons (.sset (.tnm 3) (.blt .tuple false (.cons (.comp false (.sit (.var 1)) (.tnm 5) [("_law_offset", 5)] .no (e__law_grown_1 i__law_grown)) .nil))) (.cons (.sset (.tnm 4) (.call i__law_grown false (.cons (.bin false .Sub (.var 0) (.con (.int 1))) (.cons (.comp false (.sit (.var 1)) (.tnm 5) [("_law_offset", 5)] (.so (q__law_grown_2 i__law_grown)) (.var 5)) .nil)))) (.cons (.sret (.tup (.cons (.con (.str "part")) (.cons (.var 3) (.cons (.var 4) (.cons (.call i__law_grown false (.cons (.bin false .Sub (.var 0) (.con (.int 1))) (.cons (.comp false (.sit (.var 1)) (.tnm 5) [("_law_offset", 5)] (.so (q__law_grown_3 i__law_grown)) (e__law_grown_4 i__law_grown)) .nil))) .nil)))))) .nil))))))
def f__law_grown (i__law_grown : Nat) : Fn := ⟨"_law_grown", ["_law_levels", "_law_offsets"], ["_law_levels", "_law_offsets", "_law_half", "_law_marks", "_law_lower", "_law_offset"], t__law_grown i__law_grown⟩
def e__law_tree_1 (i__law_grown : Nat) : T := (.bin false .Sub (.var 2) (.sub (.var 0) (.con (.int 0))))
def t__law_tree (i__law_grown : Nat) : T :=
  (.cons (.sret (.call i__law_grown false (.cons (.sub (.var 0) (.con (.int 1))) (.cons (.comp false (.sit (.var 1)) (.tnm 2) [("_law_number", 2)] .no (e__law_tree_1 i__law_grown)) .nil)))) .nil)
def f__law_tree (i__law_grown : Nat) : Fn := ⟨"_law_tree", ["_law_bounds_here", "_law_row"], ["_law_bounds_here", "_law_row", "_law_number"], t__law_tree i__law_grown⟩
def b__law_within_1 : T := (.cons (.sset (.tnm 4) (.bin false .FloorDiv (.var 4) (.con (.int 2)))) (.cons (.sif (.cmp .NotEq (.bin false .FloorDiv (.var 3) (.var 4)) (.var 5)) (.cons (.sret (.con (.bl false))) .nil) .nil) (.cons (.sset (.tnm 3) (.bin false .Mod (.var 3) (.var 4))) .nil)))
def t__law_within : T :=
  (.cons (.sset (.tnm 3) (.var 0)) (.cons (.sset (.tnm 4) (.bin false .LShift (.con (.int 1)) (.sub (.var 1) (.con (.int 1))))) (.cons (.sfor (.sit (.var 2)) (.tnm 5) b__law_within_1) (.cons (.sret (.con (.bl true))) .nil))))
def f__law_within : Fn := ⟨"_law_within", ["_law_offset", "_law_bounds_here", "_law_way_here"], ["_law_offset", "_law_bounds_here", "_law_way_here", "_law_rest", "_law_half", "_law_mark"], t__law_within⟩
def e__law_way_1 (i__law_take : Nat) : T := (.bin false .Mod (.bin false .FloorDiv (.var 3) (.bin false .LShift (.con (.int 1)) (.var 5))) (.con (.int 2)))
def t__law_way (i__law_take : Nat) : T :=
  (.cons (.sset (.tnm 3) (.call i__law_take false (.cons (.var 0) (.cons (.bin false .LShift (.con (.int 1)) (.sub (.var 1) (.con (.int 1)))) .nil)))) (.cons (.sif (.bop .And (.cons (.cmp .NotEq (.var 2) (.lst false .nil)) (.cons (.cmp .Gt (.call i__law_take false (.cons (.var 0) (.cons (.con (.int 4)) .nil))) (.con (.int 0))) .nil))) (.cons (.sset (.tnm 3) (.bin false .Sub (.sub (.var 2) (.call i__law_take false (.cons (.var 0) (.cons (.blt .len false (.cons (.var 2) .nil)) .nil)))) (.sub (.var 1) (.con (.int 0))))) .nil) .nil) (.cons (.sset (.tnm 4) (.blt .tuple false (.cons (.rev false (.comp false (.srng 1 (.cons (.sub (.var 1) (.con (.int 1))) .nil)) (.tnm 5) [("_law_level", 5)] .no (e__law_way_1 i__law_take))) .nil))) (.cons (.sret (.slc false (.var 4) .no (.so (.call i__law_take false (.cons (.var 0) (.cons (.bin false .Add (.sub (.var 1) (.con (.int 1))) (.con (.int 1))) .nil)))))) .nil))))
def f__law_way (i__law_take : Nat) : Fn := ⟨"_law_way", ["_law_pen_here", "_law_bounds_here", "_law_row"], ["_law_pen_here", "_law_bounds_here", "_law_row", "_law_offset", "_law_whole", "_law_level"], t__law_way i__law_take⟩

theorem tkB (A R : Store) (x y : Option Cell) : List.take (A ++ x :: R).length (A ++ y :: R) = A ++ y :: R := List.take_of_length_le (by simp)
def penB (c q : Int) : Option Cell := some (.lst [.int c, .int q])
theorem cellB_ok {Fs : List Fn} {n i : Nat} (hF : Fs[i]? = some f__law_cell) (ns : List Int) (k : Nat) (hk : k < 10 ^ 30) :
    ∃ v : Int, ∀ st : Store, cf Fs (n + 1) i [.scr ns, .int k] st = .ok (.int v) st := by
  by_cases h1 : (k : Int) < ns.length
  · obtain ⟨v, hv, _⟩ := atI_of (xs := ns) (i := k) (by omega) h1
    rw [atI_ofNat] at hv
    exact ⟨v, fun st => by rw [cf_at hF rfl]; simp only [f__law_cell, t__law_cell]; simp! [h1, hv]⟩
  · by_cases h2 : (0 : Int) < ns.length
    · have hx : 0 ≤ ((k : Int) * 7) % ns.length := Int.emod_nonneg _ (by omega)
      have hy : ((k : Int) * 7) % ns.length < ns.length := Int.emod_lt_of_pos _ h2
      obtain ⟨v, hv, _⟩ := atI_of hx hy
      refine ⟨(v % 2147483647 * 48271 + (k : Int) * 7919) * (v % 2147483647 * 48271 + (k : Int) * 7919) % 2147483629, fun st => ?_⟩
      rw [cf_at hF rfl]; simp only [f__law_cell, t__law_cell]
      ((try simp! [h1, h2, hv]); (repeat (walk_at "zo"; try simp! [h1, h2, hv])))
    · refine ⟨((k : Int) * 7919 + 5) * ((k : Int) * 7919 + 5) % 2147483629, fun st => ?_⟩
      rw [cf_at hF rfl]; simp only [f__law_cell, t__law_cell]
      ((try simp! [h1, h2]); (repeat (walk_at "zo"; try simp! [h1, h2])))
theorem takeB_ok {Fs : List Fn} {n i : Nat} (hF : Fs[i]? = some f__law_take) (A R : Store) (c q : Int) (hq0 : -1 ≤ q) (hq : q < 10 ^ 30) (m : Int) (hm : 0 < m) (hm2 : m < 10 ^ 100) :
    ∃ v c' q' : Int, cf Fs (n + 1) i [.ref A.length, .int m] (A ++ penB c q :: R) = .ok (.int v) (A ++ penB c' q' :: R) ∧ 0 ≤ v ∧ v < m ∧ -1 ≤ q' ∧ q' ≤ q + 1 := by
  rw [cf_at hF rfl]
  simp only [f__law_take, t__law_take, penB]
  have hv : ∀ x : Int, 0 ≤ x % m ∧ x % m < m := fun x => ⟨Int.emod_nonneg _ (by omega), Int.emod_lt_of_pos _ hm⟩
  by_cases h1 : q < 0
  · ((try simp! [mid_get, mid_set, h1]); (repeat (walk_at "zo"; try simp! [mid_get, mid_set, h1])))
    exact ⟨_, _, -1, rfl, (hv c).1, (hv c).2, by omega, by omega⟩
  · by_cases h2 : q = 0 ∧ (1000000000000000000 : Int) ≤ c
    · ((try simp! [mid_get, mid_set, h1, eqD_int, h2.1, h2.2, eq_self, show decide ((0 : Int) < 0) = false from rfl]); (repeat (walk_at "zo"; try simp! [mid_get, mid_set, h1, eqD_int, h2.1, h2.2, eq_self, show decide ((0 : Int) < 0) = false from rfl])))
      exact ⟨_, _, -1, rfl, (hv c).1, (hv c).2, by omega, by omega⟩
    · have h3 : decide (q = 0) = true → decide ((1000000000000000000 : Int) ≤ c) = false := fun a => decide_eq_false fun b => h2 ⟨of_decide_eq_true a, b⟩
      by_cases h4 : q = 0
      · have h5 := h3 (decide_eq_true h4)
        subst h4
        ((try simp! [mid_get, mid_set, eqD_int, eq_self, show decide ((0 : Int) < 0) = false from rfl, h5]); (repeat (walk_at "zo"; try simp! [mid_get, mid_set, eqD_int, eq_self, show decide ((0 : Int) < 0) = false from rfl, h5])))
        exact ⟨_, c, 1, rfl, (hv _).1, (hv _).2, by omega, by omega⟩
      · ((try simp! [mid_get, mid_set, h1, eqD_int, h4]); (repeat (walk_at "zo"; try simp! [mid_get, mid_set, h1, eqD_int, h4])))
        exact ⟨_, c, q + 1, rfl, (hv _).1, (hv _).2, by omega, by omega⟩
end Zn.PG

/-! PH: the laws' own trees, ways and spans by the pen of one cell; places lifted. -/
namespace Zn.PG
open PySem PySem.Spec PyProof.Rows L2 Zn Zn.PB Zn.PT
def eD (i : Nat) : List D → List D
  | [] => []
  | x :: xs => .tup [.int i, x] :: eD (i + 1) xs
def fnd (mark : Int) : Nat → Int → List Int → Option Nat
  | _, _, [] => none
  | i, left, x :: xs => if x = mark then (if left = 0 then some i else fnd mark (i + 1) (left - 1) xs) else fnd mark (i + 1) left xs
def resF (o : Option Nat) (env : Zn.Env) (st : Store) : SRes := match o with
  | some q => .rt (.int q) st
  | none => .nx env st
section
variable (F : CallF) (st : Store) (i : Nat) (h : Int) (row : List Int) (hr : row.length ≤ 100000) (a b c d : Option D)
include hr
end
def inO : Nat → Int → List Int → Bool
  | _, _, [] => true
  | 0, _, _ :: _ => false
  | e + 1, r, m :: ms => decide (r / 2 ^ e = m) && inO e (r % 2 ^ e) ms
end Zn.PG

/-! PL: places lifted. -/
namespace Zn.PG
open PySem PySem.Spec PyProof.Rows L2 Zn Zn.PB Zn.PT
def idx (f : Int → Bool) : Nat → List Int → List Nat
  | _, [] => []
  | k, x :: xs => if f x = true then k :: idx f (k + 1) xs else idx f (k + 1) xs
def inside : Nat → Int → List Int → Int → Bool
  | _, _, [], _ => true
  | 0, _, _ :: _, _ => false
  | e + 1, low, m :: ms, x => decide (bit (low + 2 ^ e) x = m) && inside e (low + m * 2 ^ e) ms x
def ids (e : Nat) (low : Int) (row ms : List Int) : List Nat := idx (inside e low ms) 0 row
def half (low : Int) (e : Nat) (m : Int) (row : List Int) : List Int := row.filter fun x => decide (bit (low + 2 ^ e) x = m)
def pD (p : List Int × Int) : D := .tup [.tup (p.1.map .int), .int p.2]
def upP : List (List Int × Int) → Nat → Option Nat
  | [], p => some p
  | (bits, m) :: rest, p => (upP rest p).bind fun q => fnd m 0 q bits
end Zn.PG

/-! PU: ways, and the tree that the program makes of a row. -/
namespace Zn.PT
open PySem PySem.Spec PyProof.Rows L2 Zn Zn.PB
def t_where (i_top_of : Nat) : T :=
  (.cons (.sif (.cmp .Lt (.var 1) (.sub (.var 0) (.con (.int 0)))) (.cons (.sret (.con (.str "below"))) .nil) .nil) (.cons (.sif (.cmp .Gt (.var 1) (.call i_top_of false (.cons (.var 0) .nil))) (.cons (.sret (.con (.str "above"))) .nil) .nil) (.cons (.sret (.con (.str "within"))) .nil)))
def f_where (i_top_of : Nat) : Fn := ⟨"where", ["bounds", "number"], ["bounds", "number"], t_where i_top_of⟩
def e_way_of_1 (i_where : Nat) : T := (.bin false .BitAnd (.bin false .RShift (.var 2) (.var 3)) (.con (.int 1)))
def t_way_of (rs : T) (i_where : Nat) : T :=
  (.cons (.sif (.cmp .NotEq (.call i_where false (.cons (.var 0) (.cons (.var 1) .nil))) (.con (.str "within"))) (.cons rs .nil) .nil) (.cons (.sset (.tnm 2) (.bin false .Sub (.var 1) (.sub (.var 0) (.con (.int 0))))) (.cons (.sret (.blt .tuple false (.cons (.comp false (.srng 3 (.cons (.bin false .Sub (.sub (.var 0) (.con (.int 1))) (.con (.int 1))) (.cons (.neg (.con (.int 1))) (.cons (.neg (.con (.int 1))) .nil)))) (.tnm 3) [("level", 3)] .no (e_way_of_1 i_where)) .nil))) .nil)))
def f_way_of (rs : T) (i_where : Nat) : Fn := ⟨"way_of", ["bounds", "number"], ["bounds", "number", "rest", "level"], t_way_of rs i_where⟩
def e_grown_1 (i_grown : Nat) : T := (.sub (.var 6) (.var 1))
def q_grown_2 (i_grown : Nat) : T := (.cmp .Eq (.sub (.var 6) (.var 1)) (.var 5))
def e_grown_3 (i_grown : Nat) : T := (.comp false (.sit (.var 0)) (.tnm 6) [("way", 6)] (.so (q_grown_2 i_grown)) (.var 6))
def t_grown (i_grown : Nat) : T :=
  (.cons (.sif (.cmp .Eq (.var 0) (.lst false .nil)) (.cons (.sret (.con .non)) .nil) .nil) (.cons (.sif (.cmp .Eq (.var 1) (.var 2)) (.cons (.sret (.tup (.cons (.con (.str "many")) (.cons (.blt .len false (.cons (.var 0) .nil)) .nil)))) .nil) .nil) (.cons (.sset (.tnm 3) (.blt .tuple false (.cons (.comp false (.sit (.var 0)) (.tnm 6) [("way", 6)] .no (e_grown_1 i_grown)) .nil))) (.cons (.sset (.tnm 4) (.comp false (.sit (.tup (.cons (.con (.int 0)) (.cons (.con (.int 1)) .nil)))) (.tnm 5) [("mark", 5)] .no (e_grown_3 i_grown))) (.cons (.sret (.tup (.cons (.con (.str "part")) (.cons (.var 3) (.cons (.call i_grown false (.cons (.sub (.var 4) (.con (.int 0))) (.cons (.bin false .Add (.var 1) (.con (.int 1))) (.cons (.var 2) .nil)))) (.cons (.call i_grown false (.cons (.sub (.var 4) (.con (.int 1))) (.cons (.bin false .Add (.var 1) (.con (.int 1))) (.cons (.var 2) .nil)))) .nil)))))) .nil)))))
def f_grown (i_grown : Nat) : Fn := ⟨"grown", ["ways", "depth", "levels"], ["ways", "depth", "levels", "marks", "halves", "mark", "way"], t_grown i_grown⟩
def e_tree_of_1 (i_grown i_way_of : Nat) : T := (.call i_way_of false (.cons (.var 0) (.cons (.var 2) .nil)))
def t_tree_of (i_grown i_way_of : Nat) : T :=
  (.cons (.sret (.call i_grown false (.cons (.comp false (.sit (.var 1)) (.tnm 2) [("number", 2)] .no (e_tree_of_1 i_grown i_way_of)) (.cons (.con (.int 0)) (.cons (.sub (.var 0) (.con (.int 1))) .nil))))) .nil)
def f_tree_of (i_grown i_way_of : Nat) : Fn := ⟨"tree_of", ["bounds", "row"], ["bounds", "row", "number"], t_tree_of i_grown i_way_of⟩

def wayL (L : Nat) (r : Int) : List Int := (List.range L).map fun k => r / 2 ^ (L - 1 - k) % 2
def wayD (L : Nat) (low x : Int) : D := .tup ((wayL L (x - low)).map .int)
section
variable {body : D → Store → Res (Option D)} {n : Nat} {α : Type}
theorem compL_on (f g : α → D) (q : α → Bool) (hr : ∀ x, (g x).isRef = false) : ∀ (xs : List α) (acc : List D) {st : Store}, st.length = n → (∀ x ∈ xs, ∀ acc, body (f x) (st ++ [some (.lst acc)]) = .ok (if q x = true then some (g x) else none) (st ++ [some (.lst acc)])) → acc.length + xs.length ≤ sizeLine →
    compL body n (xs.map f) (st ++ [some (.lst acc)]) = .ok () (st ++ [some (.lst (acc ++ (xs.filter q).map g))])
  | [], acc, st, hn, h, hs => by simp [compL]
  | x :: xs, acc, st, hn, h, hs => by
    simp only [List.length_cons] at hs
    have h1 := h x (by simp) acc
    rw [List.map_cons, compL_cons, h1, List.filter_cons]
    by_cases hq : q x = true
    · have e1 : (st ++ [some (Cell.lst acc)])[n]? = some (some (.lst acc)) := by rw [← hn]; simp
      have c : (g x).isRef = false ∧ acc.length < sizeLine := ⟨hr x, by omega⟩
      have e2 : (st ++ [some (Cell.lst acc)]).set n (some (.lst (acc ++ [g x]))) = st ++ [some (.lst (acc ++ [g x]))] := by rw [← hn]; simp
      simp only [if_pos hq, e1, if_pos c, e2]
      rw [compL_on f g q hr xs (acc ++ [g x]) hn (fun y hy => h y (by simp [hy])) (by simp; omega)]
      simp
    · simp only [if_neg hq]
      exact compL_on f g q hr xs acc hn (fun y hy => h y (by simp [hy])) (by omega)
end
theorem comp_on {F : CallF} {m : Bool} {tg cond elt : T} {env : Env} {st : Store} {α : Type} {xs : List α} (f : α → D) (q : α → Bool) (g : α → D) (hr : ∀ x, (g x).isRef = false)
    (h : ∀ x ∈ xs, ∀ acc, cturn F tg cond elt env (f x) (st ++ [some (.lst acc)]) = .ok (if q x = true then some (g x) else none) (st ++ [some (.lst acc)])) (hs : xs.length ≤ sizeLine) :
    compS F m tg cond elt env (.fix (xs.map f)) st = mk m ((xs.filter q).map g) st := by
  rw [compS_fix, compL_on f g q hr xs [] rfl h (by simpa using hs), bind_ok, compEnd_mk]
  simp
def Part (low0 low : Int) (e : Nat) : Prop := ∃ q : Int, low = low0 + q * 2 ^ e
theorem Part.lo {low0 low : Int} {e : Nat} (h : Part low0 low (e + 1)) : Part low0 low e := by
  obtain ⟨q, rfl⟩ := h
  exact ⟨2 * q, by rw [Int.pow_succ, Int.mul_comm (2 ^ e) 2, ← Int.mul_assoc, Int.mul_comm q 2]⟩
theorem Part.hi {low0 low : Int} {e : Nat} (h : Part low0 low (e + 1)) : Part low0 (low + 2 ^ e) e := by
  obtain ⟨q, hq⟩ := h.lo
  exact ⟨q + 1, by rw [hq, Int.add_mul, Int.one_mul, Int.add_assoc]⟩
section
variable (F : CallF) (st : Store) (i L e : Nat) (low0 low : Int) (row : List Int) (hL : e + 1 ≤ L) (hp : Part low0 low (e + 1)) (hb : InB low (e + 1) row) (hr : row.length ≤ 100000) (a b c d : Option D)
include hL hp hb hr
end
theorem InB.part {low : Int} {L : Nat} : Part low low L := ⟨0, by rw [Int.zero_mul, Int.add_zero]⟩
end Zn.PT

/-! PM: gatherings: drawn, led, counted. -/
namespace Zn.PM
open PySem PySem.Spec PyProof.Rows L2 Zn Zn.PB Zn.PT Zn.PG
def e__law_drawn_1 (i__law_bounds i__law_numbers i__law_take : Nat) : T := (.call i__law_numbers false (.cons (.var 0) (.cons (.var 2) (.cons (.sub (.lst false (.cons (.con (.int 12)) (.cons (.con (.int 12)) (.cons (.con (.int 4)) (.cons (.var 1) .nil))))) (.call i__law_take false (.cons (.var 0) (.cons (.con (.int 4)) .nil)))) .nil))))
def b__law_drawn_2 (i__law_bounds i__law_numbers i__law_take : Nat) : T := (.cons (.sset (.tnm 6) (.call i__law_take false (.cons (.var 0) (.cons (.blt .len false (.cons (.var 3) .nil)) .nil)))) (.cons (.sset (.tnm 7) (.call i__law_take false (.cons (.var 0) (.cons (.bin false .Add (.blt .len false (.cons (.sub (.var 3) (.var 6)) .nil)) (.con (.int 1))) .nil)))) (.cons (.sset (.tnm 8) (.bin false .Add (.var 7) (.call i__law_take false (.cons (.var 0) (.cons (.bin false .Sub (.bin false .Add (.blt .len false (.cons (.sub (.var 3) (.var 6)) .nil)) (.con (.int 1))) (.var 7)) .nil))))) (.cons (.sif (.cmp .Eq (.call i__law_take false (.cons (.var 0) (.cons (.con (.int 3)) .nil))) (.con (.int 0))) (.cons (.spar 7 8 (.con (.int 0)) (.blt .len false (.cons (.sub (.var 3) (.var 6)) .nil))) .nil) .nil) (.cons (.sexp (.mth .append (.var 4) (.cons (.tup (.cons (.var 6) (.cons (.var 7) (.cons (.var 8) .nil)))) .nil))) .nil)))))
def t__law_drawn (i__law_bounds i__law_numbers i__law_take : Nat) : T :=
  (.cons (.sset (.tnm 2) (.call i__law_bounds false (.cons (.var 0) .nil))) (.cons (.sset (.tnm 3) (.comp false (.srng 1 (.cons (.bin false .Add (.con (.int 1)) (.call i__law_take false (.cons (.var 0) (.cons (.con (.int 3)) .nil)))) .nil)) (.tnm 5) [("_law_k", 5)] .no (e__law_drawn_1 i__law_bounds i__law_numbers i__law_take))) (.cons (.sset (.tnm 4) (.lst true .nil)) (.cons (.sfor (.srng 1 (.cons (.bin false .Add (.con (.int 1)) (.bin false .Mult (.call i__law_take false (.cons (.var 0) (.cons (.con (.int 4)) .nil))) (.bin false .Add (.con (.int 1)) (.call i__law_take false (.cons (.var 0) (.cons (.con (.int 2)) .nil)))))) .nil)) (.tnm 5) (b__law_drawn_2 i__law_bounds i__law_numbers i__law_take)) (.cons (.sret (.tup (.cons (.var 2) (.cons (.var 3) (.cons (.frz (.var 4)) .nil))))) .nil)))))
def f__law_drawn (i__law_bounds i__law_numbers i__law_take : Nat) : Fn := ⟨"_law_drawn", ["_law_pen_here", "_law_long"], ["_law_pen_here", "_law_long", "_law_bounds_here", "_law_rows", "_law_some", "_law_k", "_law_which", "_law_start", "_law_end"], t__law_drawn i__law_bounds i__law_numbers i__law_take⟩
def e__law_gathering_1 (i__law_tree : Nat) : T := (.call i__law_tree false (.cons (.var 0) (.cons (.var 4) .nil)))
def e__law_gathering_2 (i__law_tree : Nat) : T := (.tup (.cons (.sub (.var 3) (.var 5)) (.cons (.var 6) (.cons (.var 7) .nil))))
def t__law_gathering (i__law_tree : Nat) : T :=
  (.cons (.sset (.tnm 3) (.comp false (.sit (.var 1)) (.tnm 4) [("_law_row", 4)] .no (e__law_gathering_1 i__law_tree))) (.cons (.sret (.comp true (.sit (.var 2)) (.ttp (.cons (.tnm 5) (.cons (.tnm 6) (.cons (.tnm 7) .nil)))) [("_law_which", 5), ("_law_start", 6), ("_law_end", 7)] .no (e__law_gathering_2 i__law_tree))) .nil))
def f__law_gathering (i__law_tree : Nat) : Fn := ⟨"_law_gathering", ["_law_bounds_here", "_law_rows", "_law_some"], ["_law_bounds_here", "_law_rows", "_law_some", "_law_trees", "_law_row", "_law_which", "_law_start", "_law_end"], t__law_gathering i__law_tree⟩
def e__law_things_1 : T := (.tup (.cons (.sub (.sub (.var 0) (.var 4)) (.var 7)) (.cons (.var 3) (.cons (.var 7) .nil))))
def b__law_things_2 : T := (.cons (.sset (.ttp (.cons (.tnm 4) (.cons (.tnm 5) (.cons (.tnm 6) .nil)))) (.sub (.var 1) (.var 3))) (.cons (.sexp (.mth .extend (.var 2) (.cons (.comp false (.srng 2 (.cons (.var 5) (.cons (.var 6) .nil))) (.tnm 7) [("_law_place", 7)] .no e__law_things_1) .nil))) .nil))
def t__law_things : T :=
  (.cons (.sset (.tnm 2) (.lst true .nil)) (.cons (.sfor (.srng 1 (.cons (.blt .len false (.cons (.var 1) .nil)) .nil)) (.tnm 3) b__law_things_2) (.cons (.sret (.blt .sorted false (.cons (.var 2) .nil))) .nil)))
def f__law_things : Fn := ⟨"_law_things", ["_law_rows", "_law_some"], ["_law_rows", "_law_some", "_law_found", "_law_j", "_law_which", "_law_start", "_law_end", "_law_place"], t__law_things⟩
def r__law_some_number (i__law_take : Nat) : T := (.cons (.sif (.cmp .Eq (.var 3) (.con (.int 4))) (.cons (.sret (.bin false .Add (.sub (.var 1) (.con (.int 0))) (.sub (.lst false (.cons (.neg (.con (.int 1))) (.cons (.con (.int 0)) (.cons (.con (.int 1)) .nil)))) (.call i__law_take false (.cons (.var 0) (.cons (.con (.int 3)) .nil)))))) .nil) .nil) (.cons (.sif (.cmp .Eq (.var 3) (.con (.int 5))) (.cons (.sret (.bin false .Add (.bin false .Add (.sub (.var 1) (.con (.int 0))) (.bin false .LShift (.con (.int 1)) (.sub (.var 1) (.con (.int 1))))) (.sub (.lst false (.cons (.neg (.con (.int 1))) (.cons (.con (.int 0)) (.cons (.neg (.con (.int 2))) .nil)))) (.call i__law_take false (.cons (.var 0) (.cons (.con (.int 3)) .nil)))))) .nil) .nil) (.cons (.sif (.cmp .Eq (.var 3) (.con (.int 6))) (.cons (.sret (.bin false .Mult (.sub (.lst false (.cons (.neg (.con (.int 1))) (.cons (.con (.int 1)) .nil))) (.call i__law_take false (.cons (.var 0) (.cons (.con (.int 2)) .nil)))) (.bin false .Add (.bin false .Pow (.con (.int 10)) (.con (.int 41))) (.call i__law_take false (.cons (.var 0) (.cons (.bin false .Pow (.con (.int 10)) (.con (.int 40))) .nil)))))) .nil) .nil) (.cons (.sret (.var 5)) .nil))))
def t__law_some_number (i__law_take : Nat) : T :=
  (.cons (.sset (.tnm 3) (.call i__law_take false (.cons (.var 0) (.cons (.con (.int 8)) .nil)))) (.cons (.sset (.tnm 4) (.sub (.var 2) (.call i__law_take false (.cons (.var 0) (.cons (.blt .len false (.cons (.var 2) .nil)) .nil))))) (.cons (.sset (.tnm 5) (.bin false .Add (.sub (.var 1) (.con (.int 0))) (.call i__law_take false (.cons (.var 0) (.cons (.bin false .LShift (.con (.int 1)) (.sub (.var 1) (.con (.int 1)))) .nil))))) (.cons (.sif (.bop .And (.cons (.cmp .Lt (.var 3) (.con (.int 4))) (.cons (.cmp .NotEq (.var 4) (.lst false .nil)) .nil))) (.cons (.sret (.bin false .Add (.sub (.var 4) (.call i__law_take false (.cons (.var 0) (.cons (.blt .len false (.cons (.var 4) .nil)) .nil)))) (.sub (.lst false (.cons (.con (.int 0)) (.cons (.con (.int 1)) (.cons (.neg (.con (.int 1))) (.cons (.con (.int 0)) .nil))))) (.var 3)))) .nil) .nil) (r__law_some_number i__law_take)))))
def f__law_some_number (i__law_take : Nat) : Fn := ⟨"_law_some_number", ["_law_pen_here", "_law_bounds_here", "_law_rows"], ["_law_pen_here", "_law_bounds_here", "_law_rows", "_law_way", "_law_row", "_law_number"], t__law_some_number i__law_take⟩
def e_many_in_1 : T := (.bin false .Sub (.var 3) (.var 2))
def t_many_in : T :=
  (.cons (.sret (.blt .sum false (.cons (.comp false (.sit (.var 0)) (.ttp (.cons (.tnm 1) (.cons (.tnm 2) (.cons (.tnm 3) .nil)))) [("tree", 1), ("start", 2), ("end", 3)] .no e_many_in_1) .nil))) .nil)
def f_many_in : Fn := ⟨"many_in", ["gathering"], ["gathering", "tree", "start", "end"], t_many_in⟩
def b_led_one_1 (i_ahead : Nat) : T := (.cons (.sif (.cmp .Is (.var 3) (.con .non)) (.cons (.sret (.tup (.cons (.con .non) (.cons (.con (.int 0)) (.cons (.con (.int 0)) .nil))))) .nil) .nil) (.cons (.sset (.tnm 4) (.call i_ahead false (.cons (.sub (.var 3) (.con (.int 1))) (.cons (.var 2) (.cons (.var 4) .nil))))) (.cons (.sset (.tnm 5) (.call i_ahead false (.cons (.sub (.var 3) (.con (.int 1))) (.cons (.var 2) (.cons (.var 5) .nil))))) (.cons (.sset (.tnm 3) (.sub (.var 3) (.bin false .Add (.con (.int 2)) (.var 2)))) .nil))))
def t_led_one (i_ahead : Nat) : T :=
  (.cons (.sset (.ttp (.cons (.tnm 3) (.cons (.tnm 4) (.cons (.tnm 5) .nil)))) (.var 0)) (.cons (.sfor (.sit (.var 1)) (.tnm 2) (b_led_one_1 i_ahead)) (.cons (.sret (.tup (.cons (.var 3) (.cons (.var 4) (.cons (.var 5) .nil))))) .nil)))
def f_led_one (i_ahead : Nat) : Fn := ⟨"led_one", ["stretch", "way"], ["stretch", "way", "mark", "tree", "start", "end"], t_led_one i_ahead⟩
def e_led_1 (i_led_one : Nat) : T := (.call i_led_one false (.cons (.var 2) (.cons (.var 1) .nil)))
def t_led (i_led_one : Nat) : T :=
  (.cons (.sret (.comp true (.sit (.var 0)) (.tnm 2) [("stretch", 2)] .no (e_led_1 i_led_one))) .nil)
def f_led (i_led_one : Nat) : Fn := ⟨"led", ["gathering", "way"], ["gathering", "way", "stretch"], t_led i_led_one⟩
def b_way_to_1 (i_led i_many_in : Nat) : T := (.cons (.sset (.tnm 5) (.call i_led false (.cons (.var 1) (.cons (.tup (.cons (.con (.int 0)) .nil)) .nil)))) (.cons (.sset (.tnm 6) (.call i_many_in false (.cons (.var 5) .nil))) (.cons (.sif (.cmp .Lt (.var 2) (.var 6)) (.cons (.sset (.tnm 1) (.var 5)) (.cons (.sset (.tnm 3) (.bin false .Add (.var 3) (.tup (.cons (.con (.int 0)) .nil)))) .nil)) (.cons (.sset (.tnm 2) (.bin false .Sub (.var 2) (.var 6))) (.cons (.sset (.tnm 1) (.call i_led false (.cons (.var 1) (.cons (.tup (.cons (.con (.int 1)) .nil)) .nil)))) (.cons (.sset (.tnm 3) (.bin false .Add (.var 3) (.tup (.cons (.con (.int 1)) .nil)))) .nil)))) .nil)))
def t_way_to (i_led i_many_in : Nat) : T :=
  (.cons (.sset (.tnm 3) (.tup .nil)) (.cons (.sfor (.srng 1 (.cons (.var 0) .nil)) (.tnm 4) (b_way_to_1 i_led i_many_in)) (.cons (.sret (.tup (.cons (.var 3) (.cons (.var 1) (.cons (.var 2) .nil))))) .nil)))
def f_way_to (i_led i_many_in : Nat) : Fn := ⟨"way_to", ["levels", "gathering", "k"], ["levels", "gathering", "k", "way", "level", "lower", "many"], t_way_to i_led i_many_in⟩
def w_nth_least_1 (i_way_to i_lifted i_many_in i_span_of : Nat) : T := (.cmp .GtE (.var 6) (.bin false .Sub (.sub (.sub (.var 5) (.var 3)) (.con (.int 2))) (.sub (.sub (.var 5) (.var 3)) (.con (.int 1)))))
def b_nth_least_2 (i_way_to i_lifted i_many_in i_span_of : Nat) : T := (.cons (.sset (.tnm 6) (.bin false .Sub (.var 6) (.bin false .Sub (.sub (.sub (.var 5) (.var 3)) (.con (.int 2))) (.sub (.sub (.var 5) (.var 3)) (.con (.int 1)))))) (.cons (.sset (.tnm 3) (.bin false .Add (.var 3) (.con (.int 1)))) .nil))
def t_nth_least (rs : T) (i_way_to i_lifted i_many_in i_span_of : Nat) : T :=
  (.cons (.sif (.nt (.cmp2 .LtE .Lt (.con (.int 0)) (.var 2) (.call i_many_in false (.cons (.var 1) .nil)))) (.cons rs .nil) .nil) (.cons (.sset (.ttp (.cons (.tnm 4) (.cons (.tnm 5) (.cons (.tnm 6) .nil)))) (.call i_way_to false (.cons (.sub (.var 0) (.con (.int 1))) (.cons (.var 1) (.cons (.var 2) .nil))))) (.cons (.sset (.tnm 3) (.con (.int 0))) (.cons (.swhile (w_nth_least_1 i_way_to i_lifted i_many_in i_span_of) (b_nth_least_2 i_way_to i_lifted i_many_in i_span_of)) (.cons (.sret (.tup (.cons (.sub (.call i_span_of false (.cons (.var 0) (.cons (.var 4) .nil))) (.con (.int 0))) (.cons (.var 3) (.cons (.call i_lifted false (.cons (.sub (.sub (.var 1) (.var 3)) (.con (.int 0))) (.cons (.var 4) (.cons (.bin false .Add (.sub (.sub (.var 5) (.var 3)) (.con (.int 1))) (.var 6)) .nil)))) .nil))))) .nil)))))
def f_nth_least (rs : T) (i_way_to i_lifted i_many_in i_span_of : Nat) : Fn := ⟨"nth_least", ["bounds", "gathering", "k"], ["bounds", "gathering", "k", "j", "way", "parts", "left"], t_nth_least rs i_way_to i_lifted i_many_in i_span_of⟩
def b_below_1 (i_way_of i_where i_many_in i_led : Nat) : T := (.cons (.sif (.cmp .Eq (.var 4) (.con (.int 1))) (.cons (.sset (.tnm 3) (.bin false .Add (.var 3) (.call i_many_in false (.cons (.call i_led false (.cons (.var 1) (.cons (.tup (.cons (.con (.int 0)) .nil)) .nil))) .nil)))) .nil) .nil) (.cons (.sset (.tnm 1) (.call i_led false (.cons (.var 1) (.cons (.tup (.cons (.var 4) .nil)) .nil)))) .nil))
def t_below (i_way_of i_where i_many_in i_led : Nat) : T :=
  (.cons (.sif (.cmp .Eq (.call i_where false (.cons (.var 0) (.cons (.var 2) .nil))) (.con (.str "below"))) (.cons (.sret (.con (.int 0))) .nil) .nil) (.cons (.sif (.cmp .Eq (.call i_where false (.cons (.var 0) (.cons (.var 2) .nil))) (.con (.str "above"))) (.cons (.sret (.call i_many_in false (.cons (.var 1) .nil))) .nil) .nil) (.cons (.sset (.tnm 3) (.con (.int 0))) (.cons (.sfor (.sit (.call i_way_of false (.cons (.var 0) (.cons (.var 2) .nil)))) (.tnm 4) (b_below_1 i_way_of i_where i_many_in i_led)) (.cons (.sret (.var 3)) .nil)))))
def f_below (i_way_of i_where i_many_in i_led : Nat) : Fn := ⟨"below", ["bounds", "gathering", "number"], ["bounds", "gathering", "number", "found", "mark"], t_below i_way_of i_where i_many_in i_led⟩
def t_between (i_below : Nat) : T :=
  (.cons (.sif (.cmp .Gt (.var 2) (.var 3)) (.cons (.sret (.con (.int 0))) .nil) .nil) (.cons (.sret (.bin false .Sub (.call i_below false (.cons (.var 0) (.cons (.var 1) (.cons (.bin false .Add (.var 3) (.con (.int 1))) .nil)))) (.call i_below false (.cons (.var 0) (.cons (.var 1) (.cons (.var 2) .nil)))))) .nil))
def f_between (i_below : Nat) : Fn := ⟨"between", ["bounds", "gathering", "low", "high"], ["bounds", "gathering", "low", "high"], t_between i_below⟩
def t_with_many (i_between : Nat) : T :=
  (.cons (.sret (.tup (.cons (.var 2) (.cons (.call i_between false (.cons (.var 0) (.cons (.var 1) (.cons (.var 2) (.cons (.var 2) .nil))))) .nil)))) .nil)
def f_with_many (i_between : Nat) : Fn := ⟨"with_many", ["bounds", "gathering", "worth"], ["bounds", "gathering", "worth"], t_with_many i_between⟩
def t_next_up (i_below i_with_many i_many_in i_nth_least : Nat) : T :=
  (.cons (.sset (.tnm 3) (.call i_below false (.cons (.var 0) (.cons (.var 1) (.cons (.bin false .Add (.var 2) (.con (.int 1))) .nil))))) (.cons (.sif (.cmp .Eq (.var 3) (.call i_many_in false (.cons (.var 1) .nil))) (.cons (.sret (.con .non)) .nil) .nil) (.cons (.sret (.call i_with_many false (.cons (.var 0) (.cons (.var 1) (.cons (.sub (.call i_nth_least false (.cons (.var 0) (.cons (.var 1) (.cons (.var 3) .nil)))) (.con (.int 0))) .nil))))) .nil)))
def f_next_up (i_below i_with_many i_many_in i_nth_least : Nat) : Fn := ⟨"next_up", ["bounds", "gathering", "number"], ["bounds", "gathering", "number", "k"], t_next_up i_below i_with_many i_many_in i_nth_least⟩
def t_next_down (i_below i_with_many i_nth_least : Nat) : T :=
  (.cons (.sset (.tnm 3) (.call i_below false (.cons (.var 0) (.cons (.var 1) (.cons (.var 2) .nil))))) (.cons (.sif (.cmp .Eq (.var 3) (.con (.int 0))) (.cons (.sret (.con .non)) .nil) .nil) (.cons (.sret (.call i_with_many false (.cons (.var 0) (.cons (.var 1) (.cons (.sub (.call i_nth_least false (.cons (.var 0) (.cons (.var 1) (.cons (.bin false .Sub (.var 3) (.con (.int 1))) .nil)))) (.con (.int 0))) .nil))))) .nil)))
def f_next_down (i_below i_with_many i_nth_least : Nat) : Fn := ⟨"next_down", ["bounds", "gathering", "number"], ["bounds", "gathering", "number", "k"], t_next_down i_below i_with_many i_nth_least⟩

def t_rank_of (rs : T) (i_number_at i_below i_many_in i_led i_way_of : Nat) : T :=
  (.cons (.sif (.bop .Or (.cons (.nt (.cmp2 .LtE .Lt (.con (.int 0)) (.var 2) (.blt .len false (.cons (.var 1) .nil)))) (.cons (.nt (.cmp2 .LtE .Lt (.sub (.sub (.var 1) (.var 2)) (.con (.int 1))) (.var 3) (.sub (.sub (.var 1) (.var 2)) (.con (.int 2))))) .nil))) (.cons rs .nil) .nil) (.cons (.sset (.ttp (.cons (.tnm 6) (.cons (.tnm 7) (.cons (.tnm 8) .nil)))) (.sub (.var 1) (.var 2))) (.cons (.sset (.tnm 4) (.call i_number_at false (.cons (.var 0) (.cons (.var 6) (.cons (.var 3) .nil))))) (.cons (.sset (.tnm 5) (.bin false .Add (.slc false (.var 1) .no (.so (.var 2))) (.lst false (.cons (.tup (.cons (.var 6) (.cons (.var 7) (.cons (.var 3) .nil)))) .nil)))) (.cons (.sret (.bin false .Add (.call i_below false (.cons (.var 0) (.cons (.var 1) (.cons (.var 4) .nil)))) (.call i_many_in false (.cons (.call i_led false (.cons (.var 5) (.cons (.call i_way_of false (.cons (.var 0) (.cons (.var 4) .nil))) .nil))) .nil)))) .nil)))))
def f_rank_of (rs : T) (i_number_at i_below i_many_in i_led i_way_of : Nat) : Fn := ⟨"rank_of", ["bounds", "gathering", "j", "place"], ["bounds", "gathering", "j", "place", "worth", "sooner", "tree", "start", "end"], t_rank_of rs i_number_at i_below i_many_in i_led i_way_of⟩
def t_least_added (i_led i_least_added i_many_in i_span_of : Nat) : T :=
  (.cons (.sif (.cmp .Eq (.var 3) (.con (.int 0))) (.cons (.sret (.con (.int 0))) .nil) .nil) (.cons (.sif (.cmp .Eq (.blt .len false (.cons (.var 2) .nil)) (.sub (.var 0) (.con (.int 1)))) (.cons (.sret (.bin false .Mult (.var 3) (.sub (.call i_span_of false (.cons (.var 0) (.cons (.var 2) .nil))) (.con (.int 0))))) .nil) .nil) (.cons (.sset (.tnm 4) (.call i_led false (.cons (.var 1) (.cons (.tup (.cons (.con (.int 0)) .nil)) .nil)))) (.cons (.sset (.tnm 5) (.blt .min false (.cons (.var 3) (.cons (.call i_many_in false (.cons (.var 4) .nil)) .nil)))) (.cons (.sset (.tnm 6) (.call i_least_added false (.cons (.var 0) (.cons (.var 4) (.cons (.bin false .Add (.var 2) (.tup (.cons (.con (.int 0)) .nil))) (.cons (.var 5) .nil)))))) (.cons (.sret (.bin false .Add (.var 6) (.call i_least_added false (.cons (.var 0) (.cons (.call i_led false (.cons (.var 1) (.cons (.tup (.cons (.con (.int 1)) .nil)) .nil))) (.cons (.bin false .Add (.var 2) (.tup (.cons (.con (.int 1)) .nil))) (.cons (.bin false .Sub (.var 3) (.var 5)) .nil))))))) .nil))))))
def f_least_added (i_led i_least_added i_many_in i_span_of : Nat) : Fn := ⟨"least_added", ["bounds", "gathering", "way", "k"], ["bounds", "gathering", "way", "k", "lower", "many", "found"], t_least_added i_led i_least_added i_many_in i_span_of⟩
def t_sum_of_least (rs : T) (i_least_added i_many_in : Nat) : T :=
  (.cons (.sif (.nt (.cmp2 .LtE .LtE (.con (.int 0)) (.var 2) (.call i_many_in false (.cons (.var 1) .nil)))) (.cons rs .nil) .nil) (.cons (.sret (.call i_least_added false (.cons (.var 0) (.cons (.var 1) (.cons (.tup .nil) (.cons (.var 2) .nil)))))) .nil))
def f_sum_of_least (rs : T) (i_least_added i_many_in : Nat) : Fn := ⟨"sum_of_least", ["bounds", "gathering", "k"], ["bounds", "gathering", "k"], t_sum_of_least rs i_least_added i_many_in⟩

def t__law_is_number : T :=
  (.cons (.sret (.bop .And (.cons (.isi (.var 0) "int") (.cons (.nt (.isi (.var 0) "bool")) .nil)))) .nil)
def f__law_is_number : Fn := ⟨"_law_is_number", ["_law_thing"], ["_law_thing"], t__law_is_number⟩
/-! ### stretches -/
abbrev S3 := List Int × Nat × Nat
def stD (e : Nat) (low : Int) (x : S3) : D := .tup [treeD e low x.1, .int (x.2.1 : Nat), .int (x.2.2 : Nat)]
def gaD (e : Nat) (low : Int) (g : List S3) : D := .lst (g.map (stD e low))
def Good (x : S3) : Prop := x.2.1 ≤ x.2.2 ∧ x.2.2 ≤ x.1.length
def seg (x : S3) : List Int := (x.1.drop x.2.1).take (x.2.2 - x.2.1)
def nums (g : List S3) : List Int := (g.map seg).flatten
def hl (low : Int) (e : Nat) (m : Int) (x : S3) : S3 := (half low e m x.1, (half low e m (x.1.take x.2.1)).length, (half low e m (x.1.take x.2.2)).length)
def ledS : Nat → Int → List Int → S3 → S3
  | _, _, [], x => x
  | 0, _, _ :: _, x => x
  | e + 1, low, m :: ms, x => ledS e (low + m * 2 ^ e) ms (hl low e m x)
theorem half_app (low : Int) (e : Nat) (m : Int) (a b : List Int) : half low e m (a ++ b) = half low e m a ++ half low e m b := List.filter_append ..
theorem half_mono (low : Int) (e : Nat) (m : Int) (row : List Int) {j k : Nat} (h : j ≤ k) : (half low e m (row.take j)).length ≤ (half low e m (row.take k)).length := by
  have : row.take k = row.take j ++ (row.drop j).take (k - j) := by
    rw [← List.take_add]
    congr 1; omega
  rw [this, half_app, List.length_append]
  omega
theorem half_le (low : Int) (e : Nat) (m : Int) (row : List Int) (k : Nat) : (half low e m (row.take k)).length ≤ (half low e m row).length := by
  conv => rhs; rw [← List.take_append_drop k row, half_app, List.length_append]
  omega
theorem Good.hl {x : S3} (h : Good x) (low : Int) (e : Nat) (m : Int) : Good (hl low e m x) := ⟨half_mono low e m x.1 h.1, half_le low e m x.1 x.2.2⟩
theorem seg_len {x : S3} (h : Good x) : (seg x).length = x.2.2 - x.2.1 := by
  simp only [seg, List.length_take, List.length_drop]
  have := h.2
  omega
theorem Good.ledS : ∀ (ms : List Int) (e : Nat) (low : Int) {x : S3}, Good x → Good (ledS e low ms x)
  | [], e, low, x, h => by cases e <;> exact h
  | m :: ms, 0, low, x, h => h
  | m :: ms, e + 1, low, x, h => Good.ledS ms e _ (h.hl low e m)
theorem filter_tt {α : Type} (g : List α) : g.filter (fun _ => true) = g := List.filter_eq_self.mpr (by simp)
theorem sum_diff : ∀ g : List S3, (∀ x ∈ g, Good x) → (g.map fun x => ((x.2.2 : Nat) : Int) - (x.2.1 : Nat)).sum = ((nums g).length : Nat)
  | [], _ => rfl
  | x :: g, h => by
    have hx := h x (by simp)
    have := seg_len hx
    have := hx.1
    rw [List.map_cons, List.sum_cons, sum_diff g fun y hy => h y (by simp [hy]), nums, nums, List.map_cons, List.flatten_cons, List.length_append, seg_len hx]
    omega
theorem many_ok {Fs : List Fn} {n i : Nat} (hF : Fs[i]? = some f_many_in) (e : Nat) (low : Int) (g : List S3) (hg : ∀ x ∈ g, Good x) (hl : g.length ≤ 1000) (st : Store) :
    cf Fs (n + 1) i [gaD e low g] st = .ok (.int ((nums g).length : Nat)) st := by
  rw [cf_at hF rfl]; simp only [f_many_in, t_many_in, gaD]
  have cp := comp_on (F := cf Fs n) (m := false) (tg := .ttp (.cons (.tnm 1) (.cons (.tnm 2) (.cons (.tnm 3) .nil)))) (cond := .no) (elt := e_many_in_1) (env := [some (.lst (g.map (stD e low))), none, none, none]) (st := st) (xs := g) (stD e low) (fun _ => true)
    (fun x => D.int (((x.2.2 : Nat) : Int) - (x.2.1 : Nat))) (fun _ => rfl) (fun x hx acc => by
      simp only [e_many_in_1, stD]
      simp! []) (by simp only [sizeLine]; omega)
  simp! [wk_lst', cp, filter_tt]
  rw [sum_map g (fun x : S3 => ((x.2.2 : Nat) : Int) - (x.2.1 : Nat)), sum_diff g hg]
  simp! []
/-! ### numbers of a gathering, counted -/
def cl (x : Int) (ns : List Int) : Nat := (ns.filter fun y => decide (y < x)).length
def wy : Nat → Int → Int → List Int
  | 0, _, _ => []
  | e + 1, low, x => bit (low + 2 ^ e) x :: wy e (low + bit (low + 2 ^ e) x * 2 ^ e) x
end Zn.PM

/-! PN: bounds, rows and stretches are drawn; their gathering; numbers drawn about them. -/
namespace Zn.PM
open PySem PySem.Spec PyProof.Rows L2 Zn Zn.PB Zn.PT Zn.PG
def rowD (r : List Int) : D := .lst (r.map .int)
def someD (x : Nat × Nat × Nat) : D := .tup [.int (x.1 : Nat), .int (x.2.1 : Nat), .int (x.2.2 : Nat)]
def OkSome (rows : List (List Int)) (x : Nat × Nat × Nat) : Prop := ∃ row, rows[x.1]? = some row ∧ x.2.1 ≤ x.2.2 ∧ x.2.2 ≤ row.length
def gath (rows : List (List Int)) (so : List (Nat × Nat × Nat)) : List S3 := so.map fun x => (rows.getD x.1 [], x.2.1, x.2.2)
theorem row_at {rows : List (List Int)} {x : Nat × Nat × Nat} (h : OkSome rows x) : rows[x.1]? = some (rows.getD x.1 []) ∧ x.2.1 ≤ x.2.2 ∧ x.2.2 ≤ (rows.getD x.1 []).length := by
  obtain ⟨row, h1, h2, h3⟩ := h
  have : rows.getD x.1 [] = row := by rw [List.getD, h1]; rfl
  rw [this]
  exact ⟨h1, h2, h3⟩
theorem gath_good {rows : List (List Int)} {so : List (Nat × Nat × Nat)} (h : ∀ x ∈ so, OkSome rows x) : ∀ x ∈ gath rows so, Good x := fun x hx => by
  obtain ⟨y, hy, rfl⟩ := List.mem_map.mp hx
  exact (row_at (h y hy)).2
theorem nums_mem {g : List S3} {y : Int} (h : y ∈ nums g) : ∃ x ∈ g, y ∈ x.1 := by
  rw [nums, List.mem_flatten] at h
  obtain ⟨l, hl, hy⟩ := h
  obtain ⟨x, hx, rfl⟩ := List.mem_map.mp hl
  exact ⟨x, hx, List.mem_of_mem_drop (List.mem_of_mem_take hy)⟩
end Zn.PM

/-! PO: the things of stretches, in order. -/
namespace Zn.PM
open PySem PySem.Spec PyProof.Rows L2 Zn Zn.PB Zn.PT Zn.PG
def thA (j : Nat) (x : S3) : List (List Int) := (List.range (x.2.2 - x.2.1)).map fun i => [x.1.getD (x.2.1 + i) 0, (j : Int), ((x.2.1 + i : Nat) : Int)]
def thg : Nat → List S3 → List (List Int)
  | _, [] => []
  | j, x :: g => thA j x ++ thg (j + 1) g
def hd0 (t : List Int) : Int := t.headD 0
theorem nums_len : ∀ g : List S3, (∀ x ∈ g, Good x) → ∀ B, (∀ x ∈ g, x.1.length ≤ B) → (nums g).length ≤ B * g.length
  | [], _, B, _ => by simp [nums]
  | x :: g, h, B, hB => by
    have ih := nums_len g (fun y hy => h y (by simp [hy])) B fun y hy => hB y (by simp [hy])
    have h1 := seg_len (h x (by simp))
    have h2 := hB x (by simp)
    have h3 := (h x (by simp)).2
    rw [nums, List.map_cons, List.flatten_cons, List.length_append, h1, List.length_cons, Nat.mul_succ]
    rw [nums] at ih
    omega
def wts (g : List S3) : List Int := (srtT (thg 0 g)).map hd0
theorem isn_ok {Fs : List Fn} {n i : Nat} (hF : Fs[i]? = some f__law_is_number) (x : Int) (st : Store) : cf Fs (n + 1) i [.int x] st = .ok (.bl true) st := by
  rw [cf_at hF rfl]; simp only [f__law_is_number, t__law_is_number]
  simp! []
end Zn.PM

/-! PQ: the so-many-th thing, ranks. -/
namespace Zn.PM
open PySem PySem.Spec PyProof.Rows L2 Zn Zn.PB Zn.PT Zn.PG
/-! ### things in order -/
def eqc (w : Int) (ns : List Int) : Nat := (ns.filter fun y => decide (y = w)).length
def cT (t : List Int) (l : List (List Int)) : Nat := (l.filter fun u => HT.lexLt u t).length
def thL (j : Nat) : Nat → List Int → List (List Int)
  | _, [] => []
  | p, y :: ys => [y, (j : Int), (p : Int)] :: thL j (p + 1) ys
end Zn.PM

/-! PR: gone down to a number's own way; the so-many-th thing, as it is computed. -/
namespace Zn.PM
open PySem PySem.Spec PyProof.Rows L2 Zn Zn.PB Zn.PT Zn.PG
theorem eq_all {w : Int} : ∀ {ns : List Int}, (∀ y ∈ ns, y = w) → ns.filter (fun y => decide (y = w)) = ns := fun h => List.filter_eq_self.mpr fun y hy => by simpa using h y hy
theorem g_inB {g : List S3} {low : Int} {L : Nat} (h : ∀ x ∈ g, InB low L x.1) : InB low L (nums g) := fun y hy => by
  obtain ⟨x, hx, hy⟩ := nums_mem hy
  exact h x hx y hy
end Zn.PM

/-! PS: what comes next; ranks; sums of the least. -/
namespace Zn.PM
open PySem PySem.Spec PyProof.Rows L2 Zn Zn.PB Zn.PT Zn.PG
def upD (g : List S3) : List Int → D
  | [] => .non
  | w :: _ => .tup [.int w, .int (eqc w (nums g) : Nat)]
section
variable {Fs : List Fn} {n iN iB iW : Nat} {low : Int} {L : Nat} {g : List S3}
end
end Zn.PM

/-! PV: sums of the least; whole numbers drawn in a row. -/
namespace Zn.PM
open PySem PySem.Spec PyProof.Rows L2 Zn Zn.PB Zn.PT Zn.PG
end Zn.PM

/-! PW: a wide row; refusals of nth_least; ranks. -/
namespace Zn.PM
open PySem PySem.Spec PyProof.Rows L2 Zn Zn.PB Zn.PT Zn.PG
def e__law_wide_1 (i__law_take : Nat) : T := (.bin false .Add (.sub (.var 1) (.con (.int 0))) (.call i__law_take false (.cons (.var 0) (.cons (.bin false .LShift (.con (.int 1)) (.sub (.var 1) (.con (.int 1)))) .nil))))
def e__law_wide_2 (i__law_take : Nat) : T := (.sub (.var 2) (.call i__law_take false (.cons (.var 0) (.cons (.blt .len false (.cons (.var 2) .nil)) .nil))))
def t__law_wide (i__law_take : Nat) : T :=
  (.cons (.sset (.tnm 1) (.tup (.cons (.bin false .Sub (.call i__law_take false (.cons (.var 0) (.cons (.con (.int 90)) .nil))) (.con (.int 40))) (.cons (.bin false .Add (.con (.int 1)) (.call i__law_take false (.cons (.var 0) (.cons (.con (.int 8)) .nil)))) .nil)))) (.cons (.sset (.tnm 2) (.comp false (.srng 1 (.cons (.bin false .Add (.con (.int 1)) (.call i__law_take false (.cons (.var 0) (.cons (.con (.int 5)) .nil)))) .nil)) (.tnm 5) [("_law_k", 5)] .no (e__law_wide_1 i__law_take))) (.cons (.sset (.tnm 3) (.comp false (.srng 1 (.cons (.bin false .Add (.con (.int 65)) (.call i__law_take false (.cons (.var 0) (.cons (.con (.int 236)) .nil)))) .nil)) (.tnm 5) [("_law_k", 5)] .no (e__law_wide_2 i__law_take))) (.cons (.sset (.tnm 4) (.call i__law_take false (.cons (.var 0) (.cons (.con (.int 30)) .nil)))) (.cons (.sret (.tup (.cons (.var 1) (.cons (.lst false (.cons (.var 3) .nil)) (.cons (.lst false (.cons (.tup (.cons (.con (.int 0)) (.cons (.var 4) (.cons (.bin false .Sub (.blt .len false (.cons (.var 3) .nil)) (.call i__law_take false (.cons (.var 0) (.cons (.con (.int 30)) .nil)))) .nil)))) .nil)) .nil))))) .nil)))))
def f__law_wide (i__law_take : Nat) : Fn := ⟨"_law_wide", ["_law_pen_here"], ["_law_pen_here", "_law_bounds_here", "_law_few", "_law_row", "_law_start", "_law_k"], t__law_wide i__law_take⟩

end Zn.PM

/-! PX: ranks of things. -/
namespace Zn.PM
open PySem PySem.Spec PyProof.Rows L2 Zn Zn.PB Zn.PT Zn.PG
end Zn.PM

/-! PY: unlike worths, rising; what a drawn gathering is. -/
namespace Zn.PM
open PySem PySem.Spec PyProof.Rows L2 Zn Zn.PB Zn.PT Zn.PG
def dst : List Int → List Int
  | [] => []
  | w :: r => w :: dst (r.filter fun y => decide (w < y))
termination_by l => l.length
decreasing_by simp only [List.length_cons, List.length_unattach]; exact Nat.lt_succ_of_le (Nat.le_trans (List.length_filter_le _ _) (by simp))
def ws (g : List S3) : List Int := dst (wts g)
structure GC (low : Int) (L : Nat) (g : List S3) : Prop where
  hL : L ≤ 40
  lo : -10 ^ 45 < low
  hi : low < 10 ^ 45
  hg : ∀ x ∈ g, Good x
  hl : g.length ≤ 100
  hb : ∀ x ∈ g, InB low L x.1
  hr : ∀ x ∈ g, x.1.length ≤ 500
theorem GC.nb {low : Int} {L : Nat} {g : List S3} (G : GC low L g) : InB low L (nums g) := g_inB G.hb
theorem GC.nl {low : Int} {L : Nat} {g : List S3} (G : GC low L g) : (nums g).length ≤ 50000 := by
  have h1 := nums_len g G.hg 500 G.hr
  have h2 := G.hl
  have : 500 * g.length ≤ 500 * 100 := Nat.mul_le_mul_left _ h2
  omega
theorem GC.app {low : Int} {L : Nat} {a b : List S3} (A : GC low L a) (B : GC low L b) (h : a.length + b.length ≤ 100) : GC low L (a ++ b) :=
  ⟨A.hL, A.lo, A.hi, fun x hx => (List.mem_append.mp hx).elim (A.hg x) (B.hg x), by rw [List.length_append]; exact h, fun x hx => (List.mem_append.mp hx).elim (A.hb x) (B.hb x), fun x hx => (List.mem_append.mp hx).elim (A.hr x) (B.hr x)⟩
theorem GC.sub {low : Int} {L : Nat} {a b : List S3} (A : GC low L a) (h : ∀ x ∈ b, x ∈ a) (hl : b.length ≤ 100) : GC low L b :=
  ⟨A.hL, A.lo, A.hi, fun x hx => A.hg x (h x hx), hl, fun x hx => A.hb x (h x hx), fun x hx => A.hr x (h x hx)⟩
theorem GC.of {low : Int} {L : Nat} {rows : List (List Int)} {so : List (Nat × Nat × Nat)} (hL : L ≤ 40) (h1 : -10 ^ 40 < low) (h2 : low < 10 ^ 40) (hrows : ∀ r ∈ rows, InB low L r ∧ r.length ≤ 300) (hso : ∀ x ∈ so, OkSome rows x) (hs : so.length ≤ 50) : GC low L (gath rows so) := by
  have hmem : ∀ x ∈ gath rows so, x.1 ∈ rows := fun x hx => by
    obtain ⟨y, hy, rfl⟩ := List.mem_map.mp hx
    exact List.mem_of_getElem? (row_at (hso y hy)).1
  exact ⟨hL, by omega, by omega, gath_good hso, by simp [gath]; omega, fun x hx => (hrows _ (hmem x hx)).1, fun x hx => by have := (hrows _ (hmem x hx)).2; omega⟩
section
variable (F : CallF) (env : Zn.Env) (st : Store) (low : Int) (L e : Nat) (m : Bool) (k : Nat)
theorem bd0 : subIx (Bd low L) (.int 0) st = .ok (.int low) st := rfl
theorem bd1 : subIx (Bd low L) (.int 1) st = .ok (.int (L : Nat)) st := rfl
theorem bd_nr : (Bd low L).isRef = false := rfl
theorem as_bd (ts : T) : asg F (.ttp ts) (Bd low L) env st = asg.asgs F ts [.int low, .int (L : Nat)] env st := rfl
theorem ga_ce (g : List S3) : callEnd m k (gaD e low g) st = .ok (gaD e low g) (st.take k) := rfl
theorem ga_nr (g : List S3) : (gaD e low g).isRef = false := rfl
theorem ga_len (g : List S3) : bltF .len m [gaD e low g] st = .ok (.int (g.length : Nat)) st := by
  rw [gaD, len_lst, List.length_map]
theorem ga_wk (g : List S3) : wkOf (gaD e low g) st = .ok (.fix (g.map (stD e low))) st := rfl
theorem ga_val (g : List S3) : val st (gaD e low g) = gaD e low g := rfl
theorem st0 (x : S3) : subIx (stD e low x) (.int 0) st = .ok (treeD e low x.1) st := rfl
theorem st1 (x : S3) : subIx (stD e low x) (.int 1) st = .ok (.int (x.2.1 : Nat)) st := rfl
theorem st2 (x : S3) : subIx (stD e low x) (.int 2) st = .ok (.int (x.2.2 : Nat)) st := rfl
theorem as_st (ts : T) (x : S3) : asg F (.ttp ts) (stD e low x) env st = asg.asgs F ts [treeD e low x.1, .int (x.2.1 : Nat), .int (x.2.2 : Nat)] env st := rfl
theorem st_ce (x : S3) : callEnd m k (stD e low x) st = .ok (stD e low x) (st.take k) := rfl
theorem ce_int' (i : Int) : callEnd m k (.int i) st = .ok (.int i) (st.take k) := rfl
theorem tr_ce (row : List Int) : callEnd m k (treeD e low row) st = .ok (treeD e low row) (st.take k) := ce_dat m k st (tree_noref e low row)
theorem up_nr (g : List S3) (l : List Int) : (upD g l).isRef = false := by cases l <;> rfl
theorem up_ce (g : List S3) (l : List Int) : callEnd m k (upD g l) st = .ok (upD g l) (st.take k) := ce_dat m k st (up_nr g l)
theorem tup_ce (t : List Int) : callEnd m k (tupD t) st = .ok (tupD t) (st.take k) := rfl
end
def prW (g : List S3) (w : Int) : D := .tup [.int w, .int (eqc w (nums g) : Nat)]
theorem drawB_gen {F : CallF} {m : Bool} {tg elt : T} {env : Zn.Env} {α : Type} (f : α → D) (hf : ∀ a, (f a).isRef = false) (P : α → Prop) (c0 : Nat) (xs : List D) (A R : Store) (B c q : Int) (hq0 : -1 ≤ q) (hq : q + c0 * xs.length < B) (hs : xs.length ≤ sizeLine)
    (h : ∀ x ∈ xs, ∀ (c q : Int) (R : Store), -1 ≤ q → q < B → ∃ (v : α) (c' q' : Int), cturn F tg .no elt env x (A ++ penB c q :: R) = .ok (some (f v)) (A ++ penB c' q' :: R) ∧ P v ∧ -1 ≤ q' ∧ q' ≤ q + c0) :
    ∃ (ms : List α) (c' q' : Int), compS F m tg .no elt env (.fix xs) (A ++ penB c q :: R) = mk m (ms.map f) (A ++ penB c' q' :: R) ∧ ms.length = xs.length ∧ (∀ v ∈ ms, P v) ∧ -1 ≤ q' ∧ q' ≤ q + c0 * xs.length := by
  obtain ⟨zs, st2, e, _, c2, q2, ms, rfl, rfl, h1, h2, hms, hml⟩ := compS_inv (F := F) (m := m) (tg := tg) (cond := .no) (elt := elt) (env := env) (st := A ++ penB c q :: R) (xs := xs)
    (fun i acc st => ∃ (c2 q2 : Int) (ms : List α), acc = List.map f ms ∧ st = A ++ penB c2 q2 :: R ∧ -1 ≤ q2 ∧ q2 ≤ q + (c0 * i : Nat) ∧ (∀ v ∈ ms, P v) ∧ ms.length = i)
    (by
      rintro x i acc st1 hx ⟨c2, q2, ms, rfl, rfl, h1, h2, hms, hml⟩ hl
      have hi : i < xs.length := (List.getElem?_eq_some_iff.mp hx).1
      have hc : c0 * i ≤ c0 * xs.length := Nat.mul_le_mul_left c0 (by omega)
      have hc' : ((c0 * xs.length : Nat) : Int) = (c0 : Int) * (xs.length : Int) := by rw [Int.natCast_mul]
      obtain ⟨v, c3, q3, e3, hv, h3, h4⟩ := h x (List.mem_of_getElem? hx) c2 q2 (R ++ [some (.lst (List.map f ms))]) h1 (by omega)
      have hcs : c0 * (i + 1) = c0 * i + c0 := Nat.mul_succ c0 i
      refine ⟨some (f v), A ++ penB c3 q3 :: R, ?_, by simp, fun d h => by cases h; exact hf v, c3, q3, ms ++ [v], by simp, rfl, h3, by rw [hcs]; omega, ?_, by simp [hml]⟩
      · rw [show (A ++ penB c2 q2 :: R) ++ [some (Cell.lst (List.map f ms))] = A ++ penB c2 q2 :: (R ++ [some (.lst (List.map f ms))]) by simp, e3]
        simp
      · intro w hw
        rcases List.mem_append.mp hw with hw | hw
        · exact hms w hw
        · rw [List.mem_singleton.mp hw]; exact hv)
    hs ⟨c, q, [], rfl, rfl, hq0, by omega, by simp, rfl⟩
  refine ⟨ms, c2, q2, e, hml, hms, h1, ?_⟩
  rw [Int.natCast_mul] at h2
  exact h2
def rsD (r : Res D) : D := match r with
  | .ok d _ => d
  | _ => .non
theorem cellB_all {Fs : List Fn} {i : Nat} (hF : Fs[i]? = some f__law_cell) (ns : List Int) (k : Nat) (hk : k < 10 ^ 30) :
    ∃ v : Int, ∀ (n : Nat) (st : Store), cf Fs (n + 1) i [.scr ns, .int k] st = .ok (.int v) st := by
  obtain ⟨v, hv⟩ := cellB_ok (Fs := Fs) (n := 0) hF ns k hk
  refine ⟨v, fun n st => ?_⟩
  obtain ⟨w, hw⟩ := cellB_ok (Fs := Fs) (n := n) hF ns k hk
  have h1 := hv st
  rw [cf_at hF rfl] at h1
  have h2 := hw st
  rw [cf_at hF rfl] at h2
  have e : ex (cf Fs 0) f__law_cell.body (startE f__law_cell.N.length f__law_cell.ps.length [.scr ns, .int k]) st = ex (cf Fs n) f__law_cell.body (startE f__law_cell.N.length f__law_cell.ps.length [.scr ns, .int k]) st := rfl
  rw [e] at h1
  rw [cf_at hF rfl]
  exact h1
theorem penB_ok {Fs : List Fn} {n i : Nat} (hF : Fs[i]? = some f__law_pen) (v : Int) (st : Store) : (cf Fs (n + 1) i [.int v] st).bind (callEnd true st.length) = .ok (.ref st.length) (st ++ [penB v 0]) := by
  rw [cf_at hF rfl]; simp only [f__law_pen, t__law_pen]
  simp! []
  have : callEnd true st.length (.ref st.length) (st ++ [some (.lst [.int v, .int 0])]) = .ok (.ref st.length) (st ++ [penB v 0]) := by rw [ce_new, mk_true, penB]
  exact this
end Zn.PM

/-! QK: laws that differ in the names of their locals alone. -/
namespace Zn
open PySem PySem.Spec PyProof.Rows L2
def Fn.key2 (fn : Fn) : (CallF → Env → Store → SRes) × Nat × Nat := (fun F => ex F fn.body, fn.N.length, fn.ps.length)
theorem cf_key {Fs Gs : List Fn} (h : Fs.map Fn.key2 = Gs.map Fn.key2) : ∀ n, cf Fs n = cf Gs n
  | 0 => rfl
  | n + 1 => by
    funext f ds st
    have ih := cf_key h n
    have e := congrArg (fun l => l[f]?) h
    simp only [List.getElem?_map] at e
    simp only [cf]
    cases hF : Fs[f]? with
    | none =>
      rw [hF] at e
      cases hG : Gs[f]? with
      | none => rfl
      | some b => rw [hG] at e; cases e
    | some a =>
      rw [hF] at e
      cases hG : Gs[f]? with
      | none => rw [hG] at e; cases e
      | some b =>
        rw [hG] at e
        simp only [Option.map_some, Option.some.injEq, Fn.key2, Prod.mk.injEq] at e
        obtain ⟨e1, e2, e3⟩ := e
        have e1' := congrFun e1 (cf Gs n)
        simp only [ih, e1', e2, e3]
end Zn

/-! plain laws of texts of numbers -/
namespace Zn.RT
open PySem PySem.Spec PyProof.Rows L2 Zn TL
def FIG : Str := "0123456789"
theorem fig_mem (c : Nat) : decide (c ∈ FIG.cps.toList) = true ↔ 48 ≤ c ∧ c ≤ 57 := by
  rw [decide_eq_true_eq, show FIG.cps.toList = [48, 49, 50, 51, 52, 53, 54, 55, 56, 57] by decide +kernel]
  simp only [List.mem_cons, List.not_mem_nil, or_false]
  omega
def numS (n : Nat) : Str := Str.ofString (toString ((n : Nat) : Int))
theorem numS_tl (n : Nat) : (numS n).cps.toList = numL n := tl_num n
theorem numL_head : ∀ n : Nat, 0 < n → ∃ c r, numL n = c :: r ∧ 49 ≤ c ∧ c ≤ 57 := by
  intro n
  induction n using Nat.strongRecOn with
  | ind n ih =>
    intro hn
    by_cases h : n < 10
    · exact ⟨48 + n, [], numL_lt h, by omega, by omega⟩
    · obtain ⟨c, r, e, h1, h2⟩ := ih (n / 10) (by omega) (by omega)
      exact ⟨c, r ++ [48 + n % 10], by rw [numL_step (by omega), e]; rfl, h1, h2⟩
theorem tl_ofString (a b : String) : (Str.ofString (a ++ b)).cps.toList = (Str.ofString a).cps.toList ++ (Str.ofString b).cps.toList := by
  rw [Str.ofString_eq_toList, Str.ofString_eq_toList, Str.ofString_eq_toList]
  simp
theorem numS_neg (n : Nat) (h : 0 < n) : (Str.ofString (toString (-(n : Int)))).cps.toList = 45 :: numL n := by
  obtain ⟨m, rfl⟩ : ∃ m, n = m + 1 := ⟨n - 1, by omega⟩
  have e : toString (-((m + 1 : Nat) : Int)) = "-" ++ toString ((m + 1 : Nat) : Int) := rfl
  rw [e, tl_ofString]
  have := numS_tl (m + 1)
  unfold numS at this
  rw [this, show (Str.ofString "-").cps.toList = [45] by decide +kernel]
  rfl
end Zn.RT

/-! RU: the program's texts: numbers, rows and papers, written and read. -/
namespace Zn.RU
open PySem PySem.Spec PyProof.Rows L2 Zn TL Zn.RT
def t_show_number : T :=
  (.cons (.sret (.blt .str false (.cons (.var 0) .nil))) .nil)
def f_show_number : Fn := ⟨"show_number", ["number"], ["number"], t_show_number⟩
def e_show_row_1 (i_show_number : Nat) : T := (.call i_show_number false (.cons (.var 1) .nil))
def t_show_row (i_show_number : Nat) : T :=
  (.cons (.sret (.smth 0 false (.con (.str " ")) (.comp false (.sit (.var 0)) (.tnm 1) [("number", 1)] .no (e_show_row_1 i_show_number)))) .nil)
def f_show_row (i_show_number : Nat) : Fn := ⟨"show_row", ["row"], ["row", "number"], t_show_row i_show_number⟩
def t_show_paper (i_show_number i_show_paper : Nat) : T :=
  (.cons (.sif (.cmp .Eq (.sub (.var 0) (.con (.int 0))) (.con (.str "all"))) (.cons (.sret (.call i_show_number false (.cons (.sub (.var 0) (.con (.int 1))) .nil))) .nil) .nil) (.cons (.sret (.bin false .Add (.bin false .Add (.bin false .Add (.bin false .Add (.bin false .Add (.call i_show_number false (.cons (.sub (.var 0) (.con (.int 1))) .nil)) (.con (.str "("))) (.call i_show_paper false (.cons (.sub (.var 0) (.con (.int 2))) .nil))) (.con (.str ","))) (.call i_show_paper false (.cons (.sub (.var 0) (.con (.int 3))) .nil))) (.con (.str ")")))) .nil))
def f_show_paper (i_show_number i_show_paper : Nat) : Fn := ⟨"show_paper", ["paper"], ["paper"], t_show_paper i_show_number i_show_paper⟩
def e_is_many_1 (i_MOST_FIGURES i_FIGURES : Nat) : T := (.cmp .In (.var 1) (.gsv i_FIGURES "0123456789"))
def t_is_many (i_MOST_FIGURES i_FIGURES : Nat) : T :=
  (.cons (.sif (.bop .Or (.cons (.nt (.cmp2 .LtE .LtE (.con (.int 1)) (.blt .len false (.cons (.var 0) .nil)) (.gi i_MOST_FIGURES (50)))) (.cons (.bop .And (.cons (.cmp .Eq (.sub (.var 0) (.con (.int 0))) (.con (.str "0"))) (.cons (.cmp .NotEq (.var 0) (.con (.str "0"))) .nil))) .nil))) (.cons (.sret (.con (.bl false))) .nil) .nil) (.cons (.sret (.blt .all false (.cons (.comp false (.sit (.var 0)) (.tnm 1) [("sign", 1)] .no (e_is_many_1 i_MOST_FIGURES i_FIGURES)) .nil))) .nil))
def f_is_many (i_MOST_FIGURES i_FIGURES : Nat) : Fn := ⟨"is_many", ["text"], ["text", "sign"], t_is_many i_MOST_FIGURES i_FIGURES⟩
def t_read_number (rs : T) (i_is_many : Nat) : T :=
  (.cons (.sif (.nt (.isi (.var 0) "str")) (.cons rs .nil) .nil) (.cons (.sif (.call i_is_many false (.cons (.var 0) .nil)) (.cons (.sret (.blt .int false (.cons (.var 0) .nil))) .nil) .nil) (.cons (.sif (.bop .Or (.cons (.cmp .NotEq (.slc false (.var 0) .no (.so (.con (.int 1)))) (.con (.str "-"))) (.cons (.cmp .Eq (.var 0) (.con (.str "-0"))) (.cons (.nt (.call i_is_many false (.cons (.slc false (.var 0) (.so (.con (.int 1))) .no) .nil))) .nil)))) (.cons rs .nil) .nil) (.cons (.sret (.neg (.blt .int false (.cons (.slc false (.var 0) (.so (.con (.int 1))) .no) .nil)))) .nil))))
def f_read_number (rs : T) (i_is_many : Nat) : Fn := ⟨"read_number", ["text"], ["text"], t_read_number rs i_is_many⟩
def e_read_row_1 (rs : T) (i_read_number : Nat) : T := (.call i_read_number false (.cons (.var 1) .nil))
def t_read_row (rs : T) (i_read_number : Nat) : T :=
  (.cons (.sif (.nt (.isi (.var 0) "str")) (.cons rs .nil) .nil) (.cons (.sif (.cmp .Eq (.var 0) (.con (.str ""))) (.cons (.sret (.lst true .nil)) .nil) .nil) (.cons (.sret (.comp true (.sit (.smth 1 false (.var 0) (.con (.str " ")))) (.tnm 1) [("word", 1)] .no (e_read_row_1 rs i_read_number))) .nil)))
def f_read_row (rs : T) (i_read_number : Nat) : Fn := ⟨"read_row", ["text"], ["text", "word"], t_read_row rs i_read_number⟩
def w_figures_from_1 (i_FIGURES : Nat) : T := (.bop .And (.cons (.cmp .Lt (.var 2) (.blt .len false (.cons (.var 0) .nil))) (.cons (.cmp .In (.sub (.var 0) (.var 2)) (.gsv i_FIGURES "0123456789")) .nil)))
def b_figures_from_2 (i_FIGURES : Nat) : T := (.cons (.sset (.tnm 2) (.bin false .Add (.var 2) (.con (.int 1)))) .nil)
def t_figures_from (i_FIGURES : Nat) : T :=
  (.cons (.sset (.tnm 2) (.var 1)) (.cons (.swhile (w_figures_from_1 i_FIGURES) (b_figures_from_2 i_FIGURES)) (.cons (.sret (.slc false (.var 0) (.so (.var 1)) (.so (.var 2)))) .nil)))
def f_figures_from (i_FIGURES : Nat) : Fn := ⟨"figures_from", ["text", "at"], ["text", "at", "end"], t_figures_from i_FIGURES⟩
def t_sign_at (rs : T) : T :=
  (.cons (.sif (.cmp .NotEq (.slc false (.var 0) (.so (.var 1)) (.so (.bin false .Add (.var 1) (.con (.int 1))))) (.var 2)) (.cons rs .nil) .nil) .nil)
def f_sign_at (rs : T) : Fn := ⟨"sign_at", ["text", "at", "sign"], ["text", "at", "sign"], t_sign_at rs⟩
def t_read_part (rs : T) (i_figures_from i_read_part i_sign_at i_is_many i_DEEPEST : Nat) : T :=
  (.cons (.sset (.tnm 3) (.call i_figures_from false (.cons (.var 0) (.cons (.var 1) .nil)))) (.cons (.sif (.bop .Or (.cons (.nt (.call i_is_many false (.cons (.var 3) .nil))) (.cons (.cmp .Gt (.var 2) (.gi i_DEEPEST (100))) .nil))) (.cons rs .nil) .nil) (.cons (.sset (.tnm 4) (.bin false .Add (.var 1) (.blt .len false (.cons (.var 3) .nil)))) (.cons (.sif (.cmp .NotEq (.slc false (.var 0) (.so (.var 4)) (.so (.bin false .Add (.var 4) (.con (.int 1))))) (.con (.str "("))) (.cons (.sret (.tup (.cons (.tup (.cons (.con (.str "all")) (.cons (.blt .int false (.cons (.var 3) .nil)) .nil))) (.cons (.var 4) .nil)))) .nil) .nil) (.cons (.sset (.ttp (.cons (.tnm 5) (.cons (.tnm 6) .nil))) (.call i_read_part false (.cons (.var 0) (.cons (.bin false .Add (.var 4) (.con (.int 1))) (.cons (.bin false .Add (.var 2) (.con (.int 1))) .nil))))) (.cons (.sexp (.call i_sign_at false (.cons (.var 0) (.cons (.var 6) (.cons (.con (.str ",")) .nil))))) (.cons (.sset (.ttp (.cons (.tnm 7) (.cons (.tnm 8) .nil))) (.call i_read_part false (.cons (.var 0) (.cons (.bin false .Add (.var 6) (.con (.int 1))) (.cons (.bin false .Add (.var 2) (.con (.int 1))) .nil))))) (.cons (.sexp (.call i_sign_at false (.cons (.var 0) (.cons (.var 8) (.cons (.con (.str ")")) .nil))))) (.cons (.sret (.tup (.cons (.tup (.cons (.con (.str "split")) (.cons (.blt .int false (.cons (.var 3) .nil)) (.cons (.var 5) (.cons (.var 7) .nil))))) (.cons (.bin false .Add (.var 8) (.con (.int 1))) .nil)))) .nil)))))))))
def f_read_part (rs : T) (i_figures_from i_read_part i_sign_at i_is_many i_DEEPEST : Nat) : Fn := ⟨"read_part", ["text", "at", "deep"], ["text", "at", "deep", "figures", "behind", "lower", "comma", "upper", "last"], t_read_part rs i_figures_from i_read_part i_sign_at i_is_many i_DEEPEST⟩
def t_read_paper (rs : T) (i_read_part : Nat) : T :=
  (.cons (.sif (.nt (.isi (.var 0) "str")) (.cons rs .nil) .nil) (.cons (.sset (.ttp (.cons (.tnm 1) (.cons (.tnm 2) .nil))) (.call i_read_part false (.cons (.var 0) (.cons (.con (.int 0)) (.cons (.con (.int 0)) .nil))))) (.cons (.sif (.cmp .NotEq (.var 2) (.blt .len false (.cons (.var 0) .nil))) (.cons rs .nil) .nil) (.cons (.sret (.var 1)) .nil))))
def f_read_paper (rs : T) (i_read_part : Nat) : Fn := ⟨"read_paper", ["text"], ["text", "found", "last"], t_read_paper rs i_read_part⟩

/-! ### texts by their signs -/
def mkS (l : List Nat) : Str := ⟨l.toArray⟩
theorem mkS_tl (l : List Nat) : (mkS l).cps.toList = l := rfl
theorem mkS_len (l : List Nat) : (mkS l).length = l.length := rfl
theorem mkS_inj {a b : List Nat} : mkS a = mkS b ↔ a = b := ⟨fun h => by have := congrArg (fun s : Str => s.cps.toList) h; exact this, fun h => by rw [h]⟩
def Asc (l : List Nat) : Prop := ∀ c ∈ l, c < 128
theorem Asc.drop {l : List Nat} (h : Asc l) (n : Nat) : Asc (l.drop n) := fun c hc => h c (List.mem_of_mem_drop hc)
theorem Asc.take {l : List Nat} (h : Asc l) (n : Nat) : Asc (l.take n) := fun c hc => h c (List.mem_of_mem_take hc)
theorem Asc.app {l m : List Nat} (h : Asc l) (k : Asc m) : Asc (l ++ m) := fun c hc => (List.mem_append.mp hc).elim (h c) (k c)
theorem Asc.cons {c : Nat} {m : List Nat} (h : c < 128) (k : Asc m) : Asc (c :: m) := fun d hd => by
  rcases List.mem_cons.mp hd with rfl | hd
  · exact h
  · exact k d hd
theorem Asc.nil : Asc [] := fun c hc => by cases hc
theorem ascI {l : List Nat} (h : Asc l) : PyData.strOk (mkS l) = true := by
  unfold PyData.strOk
  rw [← Array.all_toList, List.all_eq_true]
  intro c hc
  have := h c hc
  simp; omega
theorem eqS {a b : List Nat} (ha : Asc a) (hb : Asc b) : eqD (.str (mkS a)) (.str (mkS b)) = some (decide (a = b)) := by
  have h : ∀ x : List Nat, Asc x → shp (.str (mkS x)) = true := fun x hx => by
    simp [shp, PyData.canLay0, PyData.depth, ascI hx]
  show (if shp (.str (mkS a)) && shp (.str (mkS b)) then some (PyData.eqv (.str (mkS a)) (.str (mkS b))) else none) = _
  rw [h a ha, h b hb]
  show some (mkS a == mkS b) = _
  congr 1
  by_cases e : a = b
  · subst e; simp
  · rw [decide_eq_false e, beq_eq_false_iff_ne]
    exact fun z => e (mkS_inj.mp z)
theorem mkS_sz {l : List Nat} (h : l.length ≤ 100000) : (mkS l).length ≤ sizeLine := by rw [mkS_len]; simp only [sizeLine]; omega
theorem len_s (m : Bool) {l : List Nat} (h : l.length ≤ 100000) (st : Store) : bltF .len m [.str (mkS l)] st = .ok (.int (l.length : Nat)) st := by
  show lenF (.str (mkS l)) st = _
  simp only [lenF]
  rw [if_pos (mkS_sz h)]
  rfl
theorem sub_s {l : List Nat} {i c : Nat} (h : l[i]? = some c) (hl : l.length ≤ 100000) (st : Store) : subIx (.str (mkS l)) (.int (i : Nat)) st = .ok (.str (mkS [c])) st := by
  simp only [subIx, mkS_tl]
  rw [atI_ofNat, h]
  simp only []
  rw [if_pos (mkS_sz hl)]
  rfl
theorem cut_s (l : List Nat) (a b : Nat) : cutS (mkS l) (some (a : Nat)) (some (b : Nat)) = mkS ((l.drop a).take (b - a)) := by
  unfold cutS
  rw [mkS_len, mkS_tl, HT.sIx_nat, HT.sIx_nat]
  show mkS _ = mkS _
  rw [mkS_inj]
  by_cases ha : a ≤ l.length
  · rw [Nat.min_eq_left ha]
    by_cases hb : b ≤ l.length
    · rw [Nat.min_eq_left hb]
    · rw [Nat.min_eq_right (show l.length ≤ b by omega), List.take_of_length_le (by rw [List.length_drop]; omega), List.take_of_length_le (by rw [List.length_drop]; omega)]
  · rw [Nat.min_eq_right (show l.length ≤ a by omega), List.drop_of_length_le (Nat.le_refl _), List.drop_of_length_le (by omega)]
    simp
theorem slc_s (m : Bool) {l : List Nat} (h : l.length ≤ 100000) (a b : Nat) (st : Store) : slcF m (.str (mkS l)) (some (a : Nat)) (some (b : Nat)) st = .ok (.str (mkS ((l.drop a).take (b - a)))) st := by
  simp only [slcF]
  rw [if_pos (mkS_sz h), cut_s]
theorem slc_h (m : Bool) {l : List Nat} (h : l.length ≤ 100000) (b : Nat) (st : Store) : slcF m (.str (mkS l)) none (some (b : Nat)) st = .ok (.str (mkS (l.take b))) st := by
  have := slc_s m h 0 b st
  simp only [slcF] at this ⊢
  rw [if_pos (mkS_sz h)] at this ⊢
  rw [show cutS (mkS l) none (some (b : Nat)) = cutS (mkS l) (some ((0 : Nat) : Int)) (some (b : Nat)) by
    unfold cutS; rw [HT.sIx_nat (d := 0) (k := 0), HT.sIx_none, Nat.zero_min]]
  rw [this]
  rfl
theorem slc_t (m : Bool) {l : List Nat} (h : l.length ≤ 100000) (a : Nat) (st : Store) : slcF m (.str (mkS l)) (some (a : Nat)) none st = .ok (.str (mkS (l.drop a))) st := by
  have := slc_s m h a l.length st
  simp only [slcF] at this ⊢
  rw [if_pos (mkS_sz h)] at this ⊢
  rw [show cutS (mkS l) (some (a : Nat)) none = cutS (mkS l) (some (a : Nat)) (some (l.length : Nat)) by
    unfold cutS; rw [HT.sIx_nat (d := (mkS l).length) (k := l.length), HT.sIx_none, mkS_len, Nat.min_self]]
  rw [this, List.take_of_length_le (by rw [List.length_drop]; omega)]
/-! ### numbers -/
def dig (c : Nat) : Bool := decide (48 ≤ c) && decide (c ≤ 57)
theorem dig_iff (c : Nat) : dig c = true ↔ 48 ≤ c ∧ c ≤ 57 := by simp [dig]
theorem in_dig (c : Nat) (st : Store) : cmpF .In (.str (mkS [c])) (.str FIG) st = some (dig c) := by
  have : decide (c ∈ FIG.cps.toList) = dig c := by
    by_cases h : dig c = true
    · rw [h, fig_mem]; exact (dig_iff c).mp h
    · rw [Bool.not_eq_true] at h
      rw [h, ← Bool.not_eq_true, fig_mem]
      intro z; rw [(dig_iff c).mpr z] at h; cases h
  rw [← this]
  exact in_sgn c FIG st
def many (l : List Nat) : Bool := decide (1 ≤ l.length) && decide (l.length ≤ 50) && !(decide (l.head? = some 48) && !decide (l = [48])) && l.all dig
def valL (l : List Nat) : Nat := NumText.digitsVal l
theorem many_num {n : Nat} (h : n < 10 ^ 50) : many (numL n) = true := by
  have h1 := numL_len (by omega) h
  have h2 := numL_ne n
  have h3 : (numL n).all dig = true := by
    rw [List.all_eq_true]; intro c hc; rw [dig_iff]; have := numL_digits n c hc; omega
  have h4 : 1 ≤ (numL n).length := by cases e : numL n with
    | nil => exact absurd e h2
    | cons _ _ => simp
  by_cases h0 : n = 0
  · subst h0; decide +kernel
  · obtain ⟨c, r, e, c1, c2⟩ := numL_head n (by omega)
    have : (numL n).head? = some c := by rw [e]; rfl
    simp only [many, h3, this, Bool.and_true, Bool.and_eq_true, decide_eq_true_eq, Bool.not_eq_true', Bool.and_eq_false_iff, decide_eq_false_iff_not]
    refine ⟨⟨h4, h1⟩, .inl fun z => ?_⟩
    cases z
    omega
theorem val_num (n : Nat) : valL (numL n) = n := numL_val n
theorem digsValN : ∀ (n : Nat) (l : List Nat), l.length = n → l.all dig = true → (∀ c r, l = c :: r → c ≠ 48) → l ≠ [] → numL (valL l) = l
  | 0, l, hn, _, _, h0 => absurd (List.length_eq_zero_iff.mp hn) h0
  | n + 1, l, hn, h1, h2, h0 => by
    obtain ⟨l', c, rfl⟩ : ∃ l' c, l = l' ++ [c] := ⟨_, _, (List.dropLast_concat_getLast h0).symm⟩
    have hn' : l'.length = n := by simpa using hn
    rw [List.all_append, Bool.and_eq_true] at h1
    have hc : 48 ≤ c ∧ c ≤ 57 := (dig_iff c).mp (by simpa using h1.2)
    have e : valL (l' ++ [c]) = valL l' * 10 + (c - 48) := NumText.digitsVal_snoc l' c
    cases l' with
    | nil =>
      rw [e, show valL [] = 0 from rfl, numL_lt (by omega)]
      simp; omega
    | cons d r =>
      have hd : d ≠ 48 := h2 d (r ++ [c]) rfl
      have hdd : 48 ≤ d ∧ d ≤ 57 := (dig_iff d).mp (by have := h1.1; simp only [List.all_cons, Bool.and_eq_true] at this; exact this.1)
      have hp : 0 < valL (d :: r) := NumText.digitsVal_pos (by omega)
      have i := digsValN n (d :: r) hn' h1.1 (fun c' r' e' => by cases e'; exact hd) (by simp)
      rw [e, numL_step (by omega), show (valL (d :: r) * 10 + (c - 48)) / 10 = valL (d :: r) by omega, show (valL (d :: r) * 10 + (c - 48)) % 10 = c - 48 by omega, i]
      congr 2
      omega
theorem digsVal (l : List Nat) (h1 : l.all dig = true) (h2 : ∀ c r, l = c :: r → c ≠ 48) (h3 : l ≠ []) : numL (valL l) = l := digsValN _ l rfl h1 h2 h3
theorem num_of_many {l : List Nat} (h : many l = true) : numL (valL l) = l := by
  simp only [many, Bool.and_eq_true, Bool.not_eq_true', Bool.and_eq_false_iff, decide_eq_true_eq, decide_eq_false_iff_not, Bool.not_eq_false'] at h
  obtain ⟨⟨⟨h1, h2⟩, h3⟩, h4⟩ := h
  by_cases e : l = [48]
  · subst e; decide +kernel
  · refine digsVal l h4 (fun c r e' z => ?_) (fun z => by rw [z] at h1; simp at h1)
    rcases h3 with h3 | h3
    · exact h3 (by rw [e', z]; rfl)
    · exact e (by simpa using h3)
theorem int_s {l : List Nat} (h : many l = true) (m : Bool) (st : Store) : bltF .int m [.str (mkS l)] st = .ok (.int (valL l : Nat)) st := by
  have h' := h
  simp only [many, Bool.and_eq_true, decide_eq_true_eq, List.all_eq_true] at h'
  obtain ⟨⟨⟨h1, h2⟩, h3⟩, h4⟩ := h'
  refine int_txt (PySem.intText_digits (x := mkS l) (fun c hc => by have := (dig_iff c).mp (h4 c hc); omega) (fun z => by rw [mkS_tl] at z; rw [z] at h1; simp at h1) (by rw [mkS_len]; omega)) (by rw [mkS_len]; omega) m st
def rsT (b : Bool) : T := if b then .sraise 5 else .sdead
def rsR (b : Bool) (st : Store) : Res D := if b then .exc ⟨5, none⟩ st else .err
section
variable {Fs : List Fn}
theorem many_ok {i j k : Nat} (hi : Fs[i]? = some (f_is_many j k)) {l : List Nat} (ha : Asc l) (hl : l.length ≤ 100000) (n : Nat) (st : Store) :
    cf Fs (n + 1) i [.str (mkS l)] st = .ok (.bl (many l)) st := by
  rw [cf_at (fn := f_is_many j k) hi rfl]; simp only [f_is_many, t_is_many]
  have ln := fun st => len_s false hl st
  have z0 : Str.ofString "0" = mkS [48] := by decide +kernel
  have zF : Str.ofString "0123456789" = FIG := rfl
  have a48 : Asc [48] := .cons (by omega) .nil
  by_cases d1 : 1 ≤ l.length
  · by_cases d2 : l.length ≤ 50
    · obtain ⟨c, hc0⟩ : ∃ c, l[0]? = some c := ⟨l[0], List.getElem?_eq_getElem (by omega)⟩
      have D1 : decide ((1 : Int) ≤ ((l.length : Nat) : Int)) = true := decide_eq_true (by omega)
      have D2 : decide (((l.length : Nat) : Int) ≤ 50) = true := decide_eq_true (by omega)
      have s0 := fun st => sub_s (l := l) (i := 0) (c := c) hc0 hl st
      rw [show ((0 : Nat) : Int) = 0 from rfl] at s0
      have e0 := eqS (a := [c]) (b := [48]) (.cons (ha c (List.mem_of_getElem? hc0)) .nil) a48
      have e1 := eqS (a := l) (b := [48]) ha a48
      have al : ∀ st, compS (cf Fs n) false (.tnm 1) .no (e_is_many_1 j k) [some (.str (mkS l)), none] (.fix (l.map fun c => .str (mkS [c]))) st = .ok (.lst (l.map fun c => D.bl (dig c))) st := fun st => by
        rw [compS_mapT (fun x => match x with | .str z => .bl (dig (z.cps.toList.headD 0)) | _ => .non) (fun x hx acc => ?_) (fun x hx => ?_) (by rw [List.length_map]; simp only [sizeLine]; omega), mk_false, List.map_map]
        · rfl
        · obtain ⟨c, hc, rfl⟩ := List.mem_map.mp hx
          have := in_dig c (st ++ [some (.lst acc)])
          simp only [e_is_many_1]
          simp! [zF, this]
          rfl
        · obtain ⟨c, hc, rfl⟩ := List.mem_map.mp hx
          rfl
      have wk : ∀ st, wkOf (.str (mkS l)) st = .ok (.fix (l.map fun c => .str (mkS [c]))) st := fun st => rfl
      have bo : ∀ st, bltF .all false [.lst (l.map fun c => D.bl (dig c))] st = .ok (.bl (l.all dig)) st := fun st => by
        rw [all_map]
      have mm : many l = (!(decide (c = 48) && !decide (l = [48])) && l.all dig) := by
        simp only [many, decide_eq_true d1, decide_eq_true d2, List.head?_eq_getElem?, hc0, Option.some.injEq, Bool.true_and]
      rw [mm]
      have e0 : eqD (.str (mkS [c])) (.str (mkS [48])) = some (decide (c = 48)) := by
        rw [e0]; congr 1; exact decide_eq_decide.mpr (by simp)
      by_cases h0 : c = 48
      · have q0 : decide (c = 48) = true := decide_eq_true h0
        by_cases h1 : l = [48]
        · have q1 : decide (l = [48]) = true := decide_eq_true h1
          simp! [ln, D1, D2, s0, z0, e0, e1, q0, q1, wk, al, bo, Option.map_some, Bool.not_true]
        · have q1 : decide (l = [48]) = false := decide_eq_false h1
          simp! [ln, D1, D2, s0, z0, e0, e1, q0, q1, wk, al, bo, Option.map_some, Bool.not_true, Bool.not_false, Bool.false_and]
      · have q0 : decide (c = 48) = false := decide_eq_false h0
        simp! [ln, D1, D2, s0, z0, e0, e1, q0, wk, al, bo, Bool.false_and]
    · have D1 : decide ((1 : Int) ≤ (l.length : Nat)) = true := decide_eq_true (by omega)
      have D2 : decide (((l.length : Nat) : Int) ≤ 50) = false := decide_eq_false (by omega)
      have mm : many l = false := by simp [many, d2]
      rw [mm]
      simp! [ln, D1, D2]
  · have D1 : decide ((1 : Int) ≤ (l.length : Nat)) = false := decide_eq_false (by omega)
    have mm : many l = false := by simp [many, d1]
    rw [mm]
    simp! [ln, D1]

theorem rs_t : rsT true = .sraise 5 := rfl
theorem rs_f : rsT false = .sdead := rfl
theorem rr_t (st : Store) : rsR true st = .exc ⟨5, none⟩ st := rfl
theorem rr_f (st : Store) : rsR false st = .err := rfl
theorem x_sdead (F : CallF) (env : Env) (st : Store) : ex F .sdead env st = .err := rfl
theorem be_err : bodyEnd .err = .err := rfl
theorem andThen_err' (k : Env → Store → SRes) : SRes.err.andThen k = .err := rfl
def rdN (l : List Nat) : Option Int := if many l = true then some ((valL l : Nat) : Int) else if l.take 1 = [45] ∧ l ≠ [45, 48] ∧ many (l.drop 1) = true then some (-((valL (l.drop 1) : Nat) : Int)) else none
def optN (b : Bool) (o : Option Int) (st : Store) : Res D := match o with
  | some v => .ok (.int v) st
  | none => rsR b st
theorem rdn_ok {b : Bool} {i im j k : Nat} (hi : Fs[i]? = some (f_read_number (rsT b) im)) (hm : Fs[im]? = some (f_is_many j k)) {l : List Nat} (ha : Asc l) (hl : l.length ≤ 100000) (n : Nat) (st : Store) :
    cf Fs (n + 2) i [.str (mkS l)] st = optN b (rdN l) st := by
  rw [cf_at (fn := f_read_number (rsT b) im) hi rfl]; simp only [f_read_number, t_read_number]
  have m1 := fun st => many_ok hm ha hl n st
  have m2 := fun st => many_ok hm (ha.drop 1) (by rw [List.length_drop]; omega) n st
  have i1 := fun st => slc_h false hl 1 st
  have i2 := fun st => slc_t false hl 1 st
  rw [show ((1 : Nat) : Int) = 1 from rfl] at i1 i2
  have z1 : Str.ofString "-" = mkS [45] := by decide +kernel
  have z2 : Str.ofString "-0" = mkS [45, 48] := by decide +kernel
  have e1 := eqS (a := l.take 1) (b := [45]) (ha.take 1) (.cons (by omega) .nil)
  have e2 := eqS (a := l) (b := [45, 48]) ha (.cons (by omega) (.cons (by omega) .nil))
  by_cases q0 : many l = true
  · have v := fun st => int_s q0 false st
    have r : rdN l = some ((valL l : Nat) : Int) := by unfold rdN; rw [if_pos q0]
    rw [r]
    simp only [q0] at m1
    simp! [m1, v, optN]
  · simp only [Bool.not_eq_true] at q0
    simp only [q0] at m1
    by_cases q1 : l.take 1 = [45]
    · by_cases q2 : l = [45, 48]
      · have r : rdN l = none := by unfold rdN; rw [if_neg (by rw [q0]; decide), if_neg (fun z => z.2.1 q2)]
        rw [r]
        rw [decide_eq_true q1] at e1
        rw [decide_eq_true q2] at e2
        cases b <;> simp! [rs_t, rs_f, rr_t, rr_f, m1, i1, i2, z1, z2, e1, e2, optN, x_sdead, be_err, andThen_err']
      · rw [decide_eq_true q1] at e1
        rw [decide_eq_false q2] at e2
        by_cases q3 : many (l.drop 1) = true
        · have v := fun st => int_s q3 false st
          have r : rdN l = some (-((valL (l.drop 1) : Nat) : Int)) := by unfold rdN; rw [if_neg (by rw [q0]; decide), if_pos ⟨q1, q2, q3⟩]
          rw [r]
          simp only [q3] at m2
          simp! [m1, m2, i1, i2, z1, z2, e1, e2, v, optN]
        · simp only [Bool.not_eq_true] at q3
          simp only [q3] at m2
          have r : rdN l = none := by unfold rdN; rw [if_neg (by rw [q0]; decide), if_neg (fun z => by rw [q3] at z; exact absurd z.2.2 (by decide))]
          rw [r]
          cases b <;> simp! [rs_t, rs_f, rr_t, rr_f, m1, m2, i1, i2, z1, z2, e1, e2, optN, x_sdead, be_err, andThen_err']
    · have r : rdN l = none := by unfold rdN; rw [if_neg (by rw [q0]; decide), if_neg (fun z => q1 z.1)]
      rw [r]
      rw [decide_eq_false q1] at e1
      cases b <;> simp! [rs_t, rs_f, rr_t, rr_f, m1, i1, i2, z1, z2, e1, optN, x_sdead, be_err, andThen_err']
theorem add_s (m : Bool) {a b : List Nat} (h : a.length + b.length ≤ 100000) (st : Store) : binF m .Add (.str (mkS a)) (.str (mkS b)) st = .ok (.str (mkS (a ++ b))) st := by
  simp only [binF, addF]
  rw [if_pos (show (mkS a).length + (mkS b).length ≤ sizeLine by rw [mkS_len, mkS_len]; simp only [sizeLine]; omega)]
  congr 2
  exact ext_tl (by rw [tl_append]; rfl)
/-! ### numbers and rows written -/
def shN (v : Int) : List Nat := if v < 0 then 45 :: numL v.natAbs else numL v.natAbs
theorem shN_str (v : Int) : Str.ofString (toString v) = mkS (shN v) := by
  refine ext_tl ?_
  show _ = shN v
  unfold shN
  split
  · have := numS_neg v.natAbs (by omega)
    rw [show -((v.natAbs : Nat) : Int) = v by omega] at this
    exact this
  · have := numS_tl v.natAbs
    unfold numS at this
    rw [show ((v.natAbs : Nat) : Int) = v by omega] at this
    exact this
theorem shN_asc (v : Int) : Asc (shN v) := by
  have h : Asc (numL v.natAbs) := fun c hc => by have := numL_digits _ c hc; omega
  unfold shN
  split
  · exact .cons (by omega) h
  · exact h
theorem shN_len {v : Int} {k : Nat} (hk : 0 < k) (h : v.natAbs < 10 ^ k) : (shN v).length ≤ k + 1 := by
  have := numL_len hk h
  unfold shN
  split
  · rw [List.length_cons]; omega
  · omega
theorem shN_no32 (v : Int) (c : Nat) (h : c < 45 ∨ 57 < c) : c ∉ shN v := by
  unfold shN
  split
  · rw [List.mem_cons]
    rintro (z | z)
    · omega
    · exact numL_free (by omega) z
  · exact numL_free (by omega)
theorem shN_nat (n : Nat) : shN n = numL n := by
  unfold shN
  rw [if_neg (by omega)]; rfl
theorem rdN_shN {v : Int} (h : v.natAbs < 10 ^ 50) : rdN (shN v) = some v := by
  unfold shN
  split
  · rename_i hv
    have nm : many (45 :: numL v.natAbs) = false := by
      simp [many, dig]
    have ne : (45 :: numL v.natAbs) ≠ [45, 48] := fun z => by
      have z := List.cons.inj z
      have : v.natAbs = 0 := numL_inj (show numL v.natAbs = numL 0 by rw [z.2]; decide +kernel)
      omega
    unfold rdN
    rw [nm, if_neg (by decide), if_pos ⟨rfl, ne, by rw [show (45 :: numL v.natAbs).drop 1 = numL v.natAbs from rfl]; exact many_num h⟩]
    rw [show (45 :: numL v.natAbs).drop 1 = numL v.natAbs from rfl, val_num]
    congr 1; omega
  · unfold rdN
    rw [if_pos (many_num h), val_num]
    congr 1; omega
theorem str_i (m : Bool) {v : Int} (h : v.natAbs < 10 ^ 100) (st : Store) : bltF .str m [.int v] st = .ok (.str (mkS (shN v))) st := by
  rw [str_o _ _ _ (by omega) (by omega)]
  exact congrArg (fun z => Res.ok (D.str z) st) (shN_str v)
theorem show_num_ok {i : Nat} (hi : Fs[i]? = some f_show_number) {v : Int} (h : v.natAbs < 10 ^ 100) (n : Nat) (st : Store) : cf Fs (n + 1) i [.int v] st = .ok (.str (mkS (shN v))) st := by
  rw [cf_at (fn := f_show_number) hi rfl]; simp only [f_show_number, t_show_number]
  have := fun st => str_i false h st
  simp! [this]
def shR (ns : List Int) : List Nat := joinL [32] (ns.map shN)
theorem txt_join (c : Nat) (ws : List (List Nat)) : Txt.join (mkS [c]) (ws.map mkS) = mkS (joinL [c] ws) := by
  refine ext_tl ?_
  rw [join_eq, tl_join, List.map_map]
  show joinL [c] _ = joinL [c] ws
  congr 1
  exact (List.map_congr_left fun w _ => rfl).trans (List.map_id _)
theorem txt_split (c : Nat) (hc : c < 256) (l : List Nat) : Txt.split (mkS l) (mkS [c]) = (spl [c] 0 [] l).map mkS := by
  refine map_tl_inj ?_
  rw [split_spl _ _ (show tl (mkS [c]) ≠ [] from fun z => by cases z) (kind_ok (by show (([c] : List Nat).toArray.all fun x => decide (x < 256)) = true; simp; omega)), List.map_map]
  show spl [c] 0 [] l = _
  exact ((List.map_congr_left fun w _ => rfl).trans (List.map_id _)).symm
theorem sum_le {α : Type} (f : α → Nat) (k : Nat) : ∀ xs : List α, (∀ x ∈ xs, f x ≤ k) → (xs.map f).sum ≤ xs.length * k
  | [], _ => by simp
  | x :: xs, h => by
    have := sum_le f k xs (fun y hy => h y (by simp [hy]))
    have := h x (by simp)
    rw [List.map_cons, List.sum_cons, List.length_cons, Nat.add_mul]
    omega
theorem join_s (m : Bool) (c : Nat) {ws : List (List Nat)} (h : ws.length ≤ 10000) (hw : ∀ w ∈ ws, w.length ≤ 1000) (st : Store) : smF 0 m (.str (mkS [c])) (.lst (ws.map fun w => .str (mkS w))) st = .ok (.str (mkS (joinL [c] ws))) st := by
  have e : (ws.map fun w => D.str (mkS w)) = (ws.map mkS).map .str := by rw [List.map_map]; rfl
  rw [e, join_lst, txt_join]
  have := sum_le (fun w : List Nat => w.length) 1000 ws hw
  rw [List.map_map, List.length_map]
  show (ws.map fun w => w.length).sum + ws.length * 1 ≤ _
  omega
theorem show_row_ok {i k : Nat} (hi : Fs[i]? = some (f_show_row k)) (hk : Fs[k]? = some f_show_number) {ns : List Int} (h : ns.length ≤ 10000) (hn : ∀ v ∈ ns, v.natAbs < 10 ^ 100) (n : Nat) (st : Store) :
    cf Fs (n + 2) i [.lst (ns.map .int)] st = .ok (.str (mkS (shR ns))) st := by
  rw [cf_at (fn := f_show_row k) hi rfl]; simp only [f_show_row, t_show_row]
  have z : Str.ofString " " = mkS [32] := by decide +kernel
  have al : ∀ st, compS (cf Fs (n + 1)) false (.tnm 1) .no (e_show_row_1 k) [some (.lst (ns.map .int)), none] (.fix (ns.map .int)) st = .ok (.lst ((ns.map shN).map fun w => .str (mkS w))) st := fun st => by
    rw [compS_mapT (fun x => match x with | .int v => .str (mkS (shN v)) | _ => .non) (fun x hx acc => ?_) (fun x hx => ?_) (by rw [List.length_map]; simp only [sizeLine]; omega), mk_false, List.map_map, List.map_map]
    · rfl
    · obtain ⟨v, hv, rfl⟩ := List.mem_map.mp hx
      have := fun st => show_num_ok hk (hn v hv) n st
      simp only [e_show_row_1]
      simp! [this]
    · obtain ⟨v, hv, rfl⟩ := List.mem_map.mp hx
      rfl
  have jo := fun st => join_s false 32 (ws := ns.map shN) (by rw [List.length_map]; omega) (fun w hw => by
    obtain ⟨v, hv, rfl⟩ := List.mem_map.mp hw
    have := shN_len (by omega) (hn v hv)
    omega) st
  have wk : ∀ st, wkOf (.lst (ns.map .int)) st = .ok (.fix (ns.map .int)) st := fun st => rfl
  simp! [z, wk, al, jo, shR]

/-! ### rows read -/
def mapO {α β : Type} (f : α → Option β) : List α → Option (List β)
  | [] => some []
  | x :: xs => match f x, mapO f xs with
    | some y, some ys => some (y :: ys)
    | _, _ => none
theorem mapO_some {α β : Type} {f : α → Option β} {g : β → α} : ∀ {xs : List β}, (∀ x ∈ xs, f (g x) = some x) → mapO f (xs.map g) = some xs
  | [], _ => rfl
  | x :: xs, h => by rw [List.map_cons, mapO, h x (by simp), mapO_some fun y hy => h y (List.mem_cons_of_mem _ hy)]
theorem mapO_none {α β : Type} {f : α → Option β} : ∀ {xs : List α} {x : α}, x ∈ xs → f x = none → mapO f xs = none
  | y :: ys, x, hx, h => by
    rcases List.mem_cons.mp hx with rfl | hx
    · simp only [mapO, h]
    · simp only [mapO, mapO_none hx h]
      cases f y <;> rfl
def words (c : Nat) (l : List Nat) : List (List Nat) := spl [c] 0 [] l
def rdR (l : List Nat) : Option (List Int) := if l = [] then some [] else mapO rdN (words 32 l)
theorem spl_sub (S : List Nat) : ∀ (l : List Nat) (k : Nat) (acc : List Nat), ∀ w ∈ spl S k acc l, ∀ c ∈ w, c ∈ acc ∨ c ∈ l := by
  intro l
  induction l with
  | nil => intro k acc w hw c hc; rw [spl_nil] at hw; rw [List.mem_singleton] at hw; subst hw; exact .inl hc
  | cons x l ih =>
    intro k acc w hw c hc
    cases k with
    | succ k =>
      have hw : w ∈ spl S k acc l := hw
      rcases ih k acc w hw c hc with h | h
      · exact .inl h
      · exact .inr (List.mem_cons_of_mem _ h)
    | zero =>
      by_cases hp : pre S (x :: l) = true
      · rw [spl_hit hp] at hw
        rcases List.mem_cons.mp hw with rfl | hw
        · exact .inl hc
        · rcases ih _ _ w hw c hc with h | h
          · cases h
          · exact .inr (List.mem_cons_of_mem _ h)
      · rw [Bool.not_eq_true] at hp
        rw [spl_miss hp] at hw
        rcases ih _ _ w hw c hc with h | h
        · rcases List.mem_append.mp h with h | h
          · exact .inl h
          · rw [List.mem_singleton] at h; subst h; exact .inr (by simp)
        · exact .inr (List.mem_cons_of_mem _ h)
theorem words_asc {c : Nat} {l : List Nat} (h : Asc l) : ∀ w ∈ words c l, Asc w := fun w hw d hd => by
  rcases spl_sub _ _ _ _ w hw d hd with z | z
  · cases z
  · exact h d z
theorem spl_len (S : List Nat) : ∀ (l : List Nat) (k : Nat) (acc : List Nat), (spl S k acc l).length ≤ l.length + 1 ∧ ∀ w ∈ spl S k acc l, w.length ≤ acc.length + l.length := by
  intro l
  induction l with
  | nil => intro k acc; rw [spl_nil]; simp
  | cons x l ih =>
    intro k acc
    cases k with
    | succ k =>
      have e : spl S (k + 1) acc (x :: l) = spl S k acc l := rfl
      rw [e, List.length_cons]
      have := ih k acc
      exact ⟨by omega, fun w hw => by have := this.2 w hw; omega⟩
    | zero =>
      by_cases hp : pre S (x :: l) = true
      · rw [spl_hit hp, List.length_cons, List.length_cons]
        have := ih (S.length - 1) []
        refine ⟨by omega, fun w hw => ?_⟩
        rcases List.mem_cons.mp hw with rfl | hw
        · omega
        · have := this.2 w hw; rw [List.length_nil] at this; omega
      · rw [Bool.not_eq_true] at hp
        rw [spl_miss hp, List.length_cons]
        have := ih 0 (acc ++ [x])
        refine ⟨by omega, fun w hw => ?_⟩
        have := this.2 w hw
        rw [List.length_append, List.length_singleton] at this
        omega
theorem words_len (c : Nat) (l : List Nat) : (words c l).length ≤ l.length + 1 ∧ ∀ w ∈ words c l, w.length ≤ l.length := by
  have := spl_len [c] l 0 []
  exact ⟨this.1, fun w hw => by have := this.2 w hw; rw [List.length_nil] at this; omega⟩
theorem words_join (c : Nat) {ws : List (List Nat)} (h : ws ≠ []) (hw : ∀ w ∈ ws, c ∉ w) : words c (joinL [c] ws) = ws := spl_join h hw
theorem joinL_ne {S : List Nat} : ∀ {ws : List (List Nat)}, ws ≠ [] → (∀ w ∈ ws, w ≠ []) → joinL S ws ≠ []
  | [w], _, h => h w (by simp)
  | w :: v :: r, _, h => by
    intro z
    have := h w (by simp)
    exact this (List.append_eq_nil_iff.mp z).1
theorem shN_ne (v : Int) : shN v ≠ [] := by
  unfold shN
  split
  · simp
  · exact numL_ne _
theorem rdR_shR {ns : List Int} (h : ∀ v ∈ ns, v.natAbs < 10 ^ 50) : rdR (shR ns) = some ns := by
  unfold rdR shR
  by_cases e : ns = []
  · subst e; rfl
  · rw [if_neg (joinL_ne (by simpa using e) (fun w hw => by obtain ⟨v, _, rfl⟩ := List.mem_map.mp hw; exact shN_ne v)), words_join 32 (by simpa using e) (fun w hw => by obtain ⟨v, _, rfl⟩ := List.mem_map.mp hw; exact shN_no32 v 32 (by omega))]
    exact mapO_some fun v hv => rdN_shN (h v hv)
theorem compL_opt {α : Type} {body : D → Store → Res (Option D)} {n : Nat} {st : Store} (hn : st.length = n) {b : Bool} {dom : α → D} {f : α → Option D} : ∀ (xs : List α) (acc : List D),
    (∀ x ∈ xs, ∀ acc, body (dom x) (st ++ [some (.lst acc)]) = match f x with
      | some d => .ok (some d) (st ++ [some (.lst acc)])
      | none => if b then .exc ⟨5, none⟩ (st ++ [some (.lst acc)]) else .err) → (∀ x ∈ xs, ∀ d, f x = some d → d.isRef = false) → acc.length + xs.length ≤ sizeLine →
    ∃ acc', compL body n (xs.map dom) (st ++ [some (.lst acc)]) = match mapO f xs with
      | some ds => .ok () (st ++ [some (.lst (acc ++ ds))])
      | none => if b then .exc ⟨5, none⟩ (st ++ [some (.lst acc')]) else .err
  | [], acc, _, _, _ => ⟨[], by simp [compL, mapO]⟩
  | x :: xs, acc, h, hr, hs => by
    have h1 := h x (by simp) acc
    simp only [List.length_cons] at hs
    cases hf : f x with
    | none =>
      rw [hf] at h1
      refine ⟨acc, ?_⟩
      have e : mapO f (x :: xs) = none := mapO_none (by simp) hf
      rw [e]
      simp only [List.map_cons, compL, h1]
      cases b <;> rfl
    | some d =>
      rw [hf] at h1
      have e0 : (st ++ [some (Cell.lst acc)])[n]? = some (some (.lst acc)) := by rw [← hn]; simp
      have c : d.isRef = false ∧ acc.length < sizeLine := ⟨hr x (by simp) d hf, by omega⟩
      have e2 : (st ++ [some (Cell.lst acc)]).set n (some (.lst (acc ++ [d]))) = st ++ [some (.lst (acc ++ [d]))] := by rw [← hn]; simp
      obtain ⟨acc', ih⟩ := compL_opt hn (b := b) xs (acc ++ [d]) (fun y hy => h y (by simp [hy])) (fun y hy => hr y (by simp [hy])) (by simp; omega)
      refine ⟨acc', ?_⟩
      simp only [List.map_cons, compL, h1, e0, if_pos c, e2, ih, mapO, hf]
      cases mapO f xs with
      | none => rfl
      | some ds => simp
def optL (b : Bool) (m : Bool) (o : Option (List D)) (r : Res D) (st : Store) : Prop := match o with
  | some ds => r = mk m ds st
  | none => if b then ∃ g, r = .exc ⟨5, none⟩ (st ++ g) else r = .err
theorem compS_opt {α : Type} {F : CallF} {m b : Bool} {tg cond elt : T} {env : Env} {st : Store} {dom : α → D} (f : α → Option D) (xs : List α)
    (h : ∀ x ∈ xs, ∀ acc, cturn F tg cond elt env (dom x) (st ++ [some (.lst acc)]) = match f x with
      | some d => .ok (some d) (st ++ [some (.lst acc)])
      | none => if b then .exc ⟨5, none⟩ (st ++ [some (.lst acc)]) else .err) (hr : ∀ x ∈ xs, ∀ d, f x = some d → d.isRef = false) (hs : xs.length ≤ sizeLine) :
    optL b m (mapO f xs) (compS F m tg cond elt env (.fix (xs.map dom)) st) st := by
  obtain ⟨acc', e⟩ := compL_opt (n := st.length) rfl xs [] h hr (by simpa using hs)
  unfold optL
  rw [compS_fix, e]
  cases mapO f xs with
  | none => cases b
            · rfl
            · exact ⟨[some (.lst acc')], rfl⟩
  | some ds => simp only [bind_ok, List.nil_append, compEnd_mk]
theorem split_s (m : Bool) (c : Nat) (hc : c < 256) {l : List Nat} (hl : l.length ≤ 100000) (st : Store) : smF 1 m (.str (mkS l)) (.str (mkS [c])) st = mk m ((words c l).map fun w => .str (mkS w)) st := by
  rw [split_txt m _ _ st rfl (by rw [mkS_len]; omega), txt_split c hc, List.map_map]
  rfl
theorem read_row_ok {b m : Bool} {i ir im j k : Nat} (hi : Fs[i]? = some (f_read_row (rsT b) ir)) (hr : Fs[ir]? = some (f_read_number (rsT b) im)) (hm : Fs[im]? = some (f_is_many j k)) {l : List Nat} (ha : Asc l) (hl : l.length ≤ 90000) (n : Nat) (st : Store) :
    optL b m ((rdR l).map fun ns => ns.map .int) ((cf Fs (n + 3) i [.str (mkS l)] st).bind (callEnd m st.length)) st := by
  rw [cf_at (fn := f_read_row (rsT b) ir) hi rfl]; simp only [f_read_row, t_read_row]
  have z0 : Str.ofString "" = mkS [] := by decide +kernel
  have z1 : Str.ofString " " = mkS [32] := by decide +kernel
  have e0 := eqS (a := l) (b := []) ha .nil
  by_cases q : l = []
  · have r : rdR l = some [] := by unfold rdR; rw [if_pos q]
    rw [r]
    rw [decide_eq_true q] at e0
    show _ = _
    have ce : ∀ st : Store, callEnd m st.length (.ref st.length) (st ++ [some (.lst [])]) = mk m [] st := fun st => compEnd_mk m st []
    simp! [z0, e0, ce]
  · have r : rdR l = mapO rdN (words 32 l) := by unfold rdR; rw [if_neg q]
    rw [r]
    rw [decide_eq_false q] at e0
    have wl := words_len 32 l
    have sp := fun st => split_s false 32 (by omega) (l := l) (by omega) st
    have wk : ∀ st, wkOf (.lst ((words 32 l).map fun w => .str (mkS w))) st = .ok (.fix ((words 32 l).map fun w => .str (mkS w))) st := fun st => rfl
    have key : ∀ st, optL b true (mapO (fun w => (rdN w).map D.int) (words 32 l)) (compS (cf Fs (n + 2)) true (.tnm 1) .no (e_read_row_1 (rsT b) ir) [some (.str (mkS l)), none] (.fix ((words 32 l).map fun w => .str (mkS w))) st) st := fun st => by
      refine compS_opt (b := b) (fun w => (rdN w).map D.int) (words 32 l) (fun w hw acc => ?_) (fun w hw d hd => ?_) (by simp only [sizeLine]; omega)
      · have := fun st => rdn_ok hr hm (words_asc ha w hw) (by have := wl.2 w hw; omega) n st
        simp only [e_read_row_1]
        cases hv : rdN w with
        | none =>
          rw [hv] at this
          cases b <;> (simp! [this, optN, rr_t, rr_f, Option.map_none]; try rfl)
        | some v =>
          rw [hv] at this
          simp! [this, optN]
      · cases hv : rdN w with
        | none => rw [hv] at hd; cases hd
        | some v => rw [hv] at hd; cases hd; rfl
    have em : ∀ ws : List (List Nat), mapO (fun w => (rdN w).map D.int) ws = (mapO rdN ws).map fun ns => ns.map .int := by
      intro ws
      induction ws with
      | nil => rfl
      | cons w ws ih =>
        simp only [mapO, ih]
        cases rdN w <;> cases mapO rdN ws <;> rfl
    rw [em] at key
    cases hv : mapO rdN (words 32 l) with
    | none =>
      rw [hv] at key
      cases b with
      | false =>
        have key : ∀ st, _ = _ := key
        show _ = _
        simp! [z0, z1, e0, sp, wk, key, be_err]
      | true =>
        obtain ⟨g, key⟩ : ∃ g, _ = _ := key st
        refine ⟨g, ?_⟩
        simp! [z0, z1, e0, sp, wk, key]
    | some ns =>
      rw [hv] at key
      have key : ∀ st, _ = _ := key
      show _ = _
      have ce : ∀ st : Store, callEnd m st.length (.ref st.length) (st ++ [some (.lst (ns.map .int))]) = mk m (ns.map .int) st := fun st => compEnd_mk m st _
      simp! [z0, z1, e0, sp, wk, key, ce]
inductive P where
  | all (n : Nat)
  | split (n : Nat) (a b : P)
def P.d : P → D
  | .all n => .tup [.str "all", .int (n : Nat)]
  | .split n a b => .tup [.str "split", .int (n : Nat), a.d, b.d]
def P.sh : P → List Nat
  | .all n => numL n
  | .split n a b => numL n ++ ([40] ++ a.sh ++ [44] ++ b.sh ++ [41])
def P.dp : P → Nat
  | .all _ => 0
  | .split _ a b => max a.dp b.dp + 1
def P.fit : P → Prop
  | .all n => n < 10 ^ 50
  | .split n a b => n < 10 ^ 50 ∧ a.fit ∧ b.fit
def rpC (V : Nat) (a : P) : Option (P × List Nat) → Option (P × List Nat)
  | some (c, 41 :: r3) => some (.split V a c, r3)
  | _ => none
def rpB (V : Nat) (f : List Nat → Option (P × List Nat)) : Option (P × List Nat) → Option (P × List Nat)
  | some (a, 44 :: r2) => rpC V a (f r2)
  | _ => none
def rpA (V : Nat) (f : List Nat → Option (P × List Nat)) : List Nat → Option (P × List Nat)
  | 40 :: r1 => rpB V f (f r1)
  | r => some (.all V, r)
def rp : Nat → List Nat → Option (P × List Nat)
  | 0, _ => none
  | k + 1, l => if many (l.takeWhile dig) = true then rpA (valL (l.takeWhile dig)) (rp k) (l.dropWhile dig) else none
theorem rpC_none (V : Nat) (a : P) : rpC V a none = none := rfl
theorem rpC_no (V : Nat) (a p : P) {r : List Nat} (h : ¬ r.head? = some 41) : rpC V a (some (p, r)) = none := by
  unfold rpC
  split
  · rename_i e; cases e; exact absurd rfl h
  · rfl
theorem rpC_41 (V : Nat) (a p : P) (r : List Nat) : rpC V a (some (p, 41 :: r)) = some (.split V a p, r) := rfl
theorem rpB_none (V : Nat) (f : List Nat → Option (P × List Nat)) : rpB V f none = none := rfl
theorem rpB_no (V : Nat) (f : List Nat → Option (P × List Nat)) (p : P) {r : List Nat} (h : ¬ r.head? = some 44) : rpB V f (some (p, r)) = none := by
  unfold rpB
  split
  · rename_i e; cases e; exact absurd rfl h
  · rfl
theorem rpB_44 (V : Nat) (f : List Nat → Option (P × List Nat)) (p : P) (r : List Nat) : rpB V f (some (p, 44 :: r)) = rpC V p (f r) := rfl
theorem rpA_no (V : Nat) (f : List Nat → Option (P × List Nat)) {r : List Nat} (h : ¬ r.head? = some 40) : rpA V f r = some (.all V, r) := by
  unfold rpA
  split
  · exact absurd rfl h
  · rfl
theorem rpA_40 (V : Nat) (f : List Nat → Option (P × List Nat)) (r : List Nat) : rpA V f (40 :: r) = rpB V f (f r) := rfl
theorem hd_ex {r : List Nat} {c : Nat} (h : r.head? = some c) : ∃ r', r = c :: r' := by
  cases r with
  | nil => cases h
  | cons x r => cases h; exact ⟨r, rfl⟩
def rdP (l : List Nat) : Option P := match rp 101 l with
  | some (p, []) => some p
  | _ => none
theorem figs_loop {k : Nat} (F : CallF) {l : List Nat} (hl : l.length ≤ 100000) (a : Option D) (st : Store) : ∀ (m e f : Nat), l.length - e = m → e ≤ l.length → m < f →
    whileL (ev F (w_figures_from_1 k)) (ex F (b_figures_from_2 k)) f [some (.str (mkS l)), a, some (.int (e : Nat))] st = .nx [some (.str (mkS l)), a, some (.int ((e + ((l.drop e).takeWhile dig).length : Nat) : Int))] st := by
  intro m
  have ln := fun st => len_s false hl st
  have zF : Str.ofString "0123456789" = FIG := rfl
  induction m with
  | zero =>
    intro e f hm he hf
    obtain ⟨f, rfl⟩ : ∃ g, f = g + 1 := ⟨f - 1, by omega⟩
    have d : decide (((e : Nat) : Int) < (l.length : Nat)) = false := decide_eq_false (by omega)
    rw [List.drop_of_length_le (by omega), while_f]
    · rfl
    · simp only [w_figures_from_1]
      simp! [ln, d]
  | succ m ih =>
    intro e f hm he hf
    obtain ⟨f, rfl⟩ : ∃ g, f = g + 1 := ⟨f - 1, by omega⟩
    have hlt : e < l.length := by omega
    have d : decide (((e : Nat) : Int) < (l.length : Nat)) = true := decide_eq_true (by omega)
    have s0 := fun st => sub_s (l := l) (i := e) (c := l[e]) (List.getElem?_eq_getElem hlt) hl st
    have id := fun st => in_dig l[e] st
    rw [List.drop_eq_getElem_cons hlt]
    cases hd : dig l[e] with
    | false =>
      rw [hd] at id
      rw [List.takeWhile_cons_of_neg (by rw [hd]; decide), while_f]
      · rfl
      · simp only [w_figures_from_1]
        simp! [ln, d, s0, zF, id]
    | true =>
      rw [hd] at id
      rw [List.takeWhile_cons_of_pos hd, while_t (env' := [some (.str (mkS l)), a, some (.int ((e + 1 : Nat) : Int))]) (st1 := st) (st' := st)]
      · rw [ih (e + 1) f (by omega) (by omega) (by omega), List.length_cons]
        rw [show e + 1 + ((l.drop (e + 1)).takeWhile dig).length = e + (((l.drop (e + 1)).takeWhile dig).length + 1) by omega]
      · simp only [w_figures_from_1]
        simp! [ln, d, s0, zF, id]
      · simp only [b_figures_from_2]
        simp! []
        rfl
theorem take_tw (p : Nat → Bool) (l : List Nat) : l.take (l.takeWhile p).length = l.takeWhile p := by
  induction l with
  | nil => rfl
  | cons x l ih =>
    by_cases h : p x = true
    · rw [List.takeWhile_cons_of_pos h, List.length_cons, List.take_succ_cons, ih]
    · rw [List.takeWhile_cons_of_neg h]; rfl
theorem drop_tw (p : Nat → Bool) (l : List Nat) : l.drop (l.takeWhile p).length = l.dropWhile p := by
  induction l with
  | nil => rfl
  | cons x l ih =>
    by_cases h : p x = true
    · rw [List.takeWhile_cons_of_pos h, List.length_cons, List.drop_succ_cons, ih, List.dropWhile_cons_of_pos h]
    · rw [List.takeWhile_cons_of_neg h, List.dropWhile_cons_of_neg h]; rfl
theorem figs_ok {i k : Nat} (hi : Fs[i]? = some (f_figures_from k)) {l : List Nat} (hl : l.length ≤ 100000) {a : Nat} (h : a ≤ l.length) (n : Nat) (st : Store) :
    cf Fs (n + 1) i [.str (mkS l), .int (a : Nat)] st = .ok (.str (mkS ((l.drop a).takeWhile dig))) st := by
  rw [cf_at (fn := f_figures_from k) hi rfl]; simp only [f_figures_from, t_figures_from]
  have lp := fun st => figs_loop (k := k) (cf Fs n) hl (some (.int (a : Nat))) st _ a fuel rfl h (by unfold fuel; omega)
  have sl := fun st => slc_s false hl a (a + ((l.drop a).takeWhile dig).length) st
  rw [show a + ((l.drop a).takeWhile dig).length - a = ((l.drop a).takeWhile dig).length by omega, take_tw] at sl
  simp! [x_swhile, lp, sl]
theorem sign_ok {b : Bool} {i : Nat} (hi : Fs[i]? = some (f_sign_at (rsT b))) {l : List Nat} (ha : Asc l) (hl : l.length ≤ 100000) (a c : Nat) (hc : c < 128) (n : Nat) (st : Store) :
    cf Fs (n + 1) i [.str (mkS l), .int (a : Nat), .str (mkS [c])] st = if (l.drop a).head? = some c then .ok .non st else rsR b st := by
  rw [cf_at (fn := f_sign_at (rsT b)) hi rfl]; simp only [f_sign_at, t_sign_at]
  have sl := fun st => slc_s false hl a (a + 1) st
  rw [show a + 1 - a = 1 by omega, show ((a + 1 : Nat) : Int) = (a : Int) + 1 by omega] at sl
  have e0 := eqS (a := (l.drop a).take 1) (b := [c]) ((ha.drop a).take 1) (.cons hc .nil)
  have q : (l.drop a).take 1 = [c] ↔ (l.drop a).head? = some c := by
    cases l.drop a with
    | nil => simp
    | cons x r => simp
  by_cases h : (l.drop a).head? = some c
  · rw [if_pos h]
    rw [decide_eq_true (q.mpr h)] at e0
    simp! [sl, e0]
  · rw [if_neg h]
    rw [decide_eq_false (fun z => h (q.mp z))] at e0
    cases b <;> simp! [rs_t, rs_f, rr_t, rr_f, sl, e0, x_sdead, be_err, andThen_err']

theorem lt_len : ∀ n : Nat, n < 10 ^ (numL n).length := by
  intro n
  induction n using Nat.strongRecOn with
  | ind n ih =>
    by_cases h : n < 10
    · rw [numL_lt h]; simpa using h
    · rw [numL_step (by omega), List.length_append, List.length_singleton, Nat.pow_succ]
      have := ih (n / 10) (by omega)
      omega
theorem val_fit {l : List Nat} (h : many l = true) : valL l < 10 ^ 50 := by
  have e := num_of_many h
  have := lt_len (valL l)
  rw [e] at this
  simp only [many, Bool.and_eq_true, decide_eq_true_eq] at h
  exact Nat.lt_of_lt_of_le this (Nat.pow_le_pow_right (by omega) h.1.1.2)
theorem tw_dw (p : Nat → Bool) (l : List Nat) : l.takeWhile p ++ l.dropWhile p = l := List.takeWhile_append_dropWhile
theorem rp_sh : ∀ (k : Nat) (l : List Nat) (p : P) (r : List Nat), rp k l = some (p, r) → l = p.sh ++ r ∧ p.fit ∧ p.dp < k := by
  intro k
  induction k with
  | zero => intro l p r h; cases h
  | succ k ih =>
    intro l p r h
    unfold rp at h
    split at h
    · rename_i hm
      have e := tw_dw dig l
      by_cases h40 : (l.dropWhile dig).head? = some 40
      · obtain ⟨r1, hd⟩ := hd_ex h40
        rw [hd, rpA_40] at h
        cases h1 : rp k r1 with
        | none => rw [h1] at h; cases h
        | some q1 =>
          obtain ⟨a, s1⟩ := q1
          rw [h1] at h
          by_cases h44 : s1.head? = some 44
          · obtain ⟨r2, rfl⟩ := hd_ex h44
            rw [rpB_44] at h
            cases h2 : rp k r2 with
            | none => rw [h2] at h; cases h
            | some q2 =>
              obtain ⟨c, s2⟩ := q2
              rw [h2] at h
              by_cases h41 : s2.head? = some 41
              · obtain ⟨r3, rfl⟩ := hd_ex h41
                rw [rpC_41] at h
                cases h
                obtain ⟨e1, f1, d1⟩ := ih _ _ _ h1
                obtain ⟨e2, f2, d2⟩ := ih _ _ _ h2
                refine ⟨?_, ⟨val_fit hm, f1, f2⟩, by simp only [P.dp]; omega⟩
                refine e.symm.trans ?_
                rw [hd, e1, e2]
                simp only [P.sh, num_of_many hm]
                simp
              · rw [rpC_no _ _ _ h41] at h; cases h
          · rw [rpB_no _ _ _ h44] at h; cases h
      · rw [rpA_no _ _ h40] at h
        cases h
        refine ⟨?_, val_fit hm, by simp only [P.dp]; omega⟩
        simp only [P.sh, num_of_many hm]
        exact e.symm
    · cases h
theorem tw_num {n : Nat} {r : List Nat} (h : ∀ c, r.head? = some c → dig c = false) : (numL n ++ r).takeWhile dig = numL n ∧ (numL n ++ r).dropWhile dig = r := by
  have hd : ∀ c ∈ numL n, dig c = true := fun c hc => (dig_iff c).mpr (by have := numL_digits n c hc; omega)
  revert hd
  induction numL n with
  | nil =>
    intro _
    cases r with
    | nil => exact ⟨rfl, rfl⟩
    | cons c r =>
      have := h c rfl
      exact ⟨by rw [List.nil_append, List.takeWhile_cons_of_neg (by rw [this]; decide)], by rw [List.nil_append, List.dropWhile_cons_of_neg (by rw [this]; decide)]⟩
  | cons x l ih =>
    intro hd
    obtain ⟨i1, i2⟩ := ih fun c hc => hd c (List.mem_cons_of_mem _ hc)
    have := hd x (by simp)
    exact ⟨by rw [List.cons_append, List.takeWhile_cons_of_pos this, i1], by rw [List.cons_append, List.dropWhile_cons_of_pos this, i2]⟩
def Beh (r : List Nat) : Prop := ∀ c, r.head? = some c → dig c = false ∧ c ≠ 40
theorem rp_of : ∀ (p : P) (k : Nat) (r : List Nat), p.fit → p.dp < k → Beh r → rp k (p.sh ++ r) = some (p, r)
  | .all n, k, r, hf, hk, hr => by
    obtain ⟨k, rfl⟩ : ∃ j, k = j + 1 := ⟨k - 1, by omega⟩
    obtain ⟨t1, t2⟩ := tw_num (n := n) (r := r) fun c hc => (hr c hc).1
    simp only [P.sh]
    unfold rp
    rw [t1, t2, many_num hf, val_num, if_pos rfl]
    rw [rpA_no _ _ fun z => (hr 40 z).2 rfl]
  | .split n a b, k, r, hf, hk, hr => by
    obtain ⟨k, rfl⟩ : ∃ j, k = j + 1 := ⟨k - 1, by omega⟩
    simp only [P.dp] at hk
    have e : (P.split n a b).sh ++ r = numL n ++ (40 :: (a.sh ++ (44 :: (b.sh ++ (41 :: r))))) := by simp [P.sh]
    obtain ⟨t1, t2⟩ := tw_num (n := n) (r := 40 :: (a.sh ++ (44 :: (b.sh ++ (41 :: r))))) fun c hc => by cases hc; rfl
    rw [e]
    unfold rp
    rw [t1, t2, many_num hf.1, val_num, if_pos rfl]
    have h1 := rp_of a k (44 :: (b.sh ++ (41 :: r))) hf.2.1 (by omega) (fun c hc => by cases hc; exact ⟨rfl, by omega⟩)
    have h2 := rp_of b k (41 :: r) hf.2.2 (by omega) (fun c hc => by cases hc; exact ⟨rfl, by omega⟩)
    rw [rpA_40, h1, rpB_44, h2, rpC_41]
theorem rdP_sh {p : P} (hf : p.fit) (hd : p.dp ≤ 100) : rdP p.sh = some p := by
  have := rp_of p 101 [] hf (by omega) (fun c hc => by cases hc)
  rw [List.append_nil] at this
  unfold rdP
  rw [this]
theorem P.noref (p : P) : p.d.isRef = false := by cases p <;> rfl
def optP (b : Bool) (len : Nat) (o : Option (P × List Nat)) (st : Store) : Res D := match o with
  | some (p, r) => .ok (.tup [p.d, .int ((len - r.length : Nat) : Int)]) st
  | none => rsR b st
theorem read_part_ok {b : Bool} {i ig im is j k0 kf kd : Nat} (hi : Fs[i]? = some (f_read_part (rsT b) ig i is im kd)) (hg : Fs[ig]? = some (f_figures_from kf)) (hm : Fs[im]? = some (f_is_many j k0)) (hs : Fs[is]? = some (f_sign_at (rsT b)))
    {l : List Nat} (ha : Asc l) (hl : l.length ≤ 90000) : ∀ (k deep a n : Nat) (st : Store), deep + k = 101 → a ≤ l.length →
    cf Fs (n + k + 2) i [.str (mkS l), .int (a : Nat), .int (deep : Nat)] st = optP b l.length (rp k (l.drop a)) st := by
  intro k
  have z0 : Str.ofString "(" = mkS [40] := by decide +kernel
  have z1 : Str.ofString "," = mkS [44] := by decide +kernel
  have z2 : Str.ofString ")" = mkS [41] := by decide +kernel
  have tl : ∀ a, ((l.drop a).takeWhile dig).length ≤ (l.drop a).length := fun a => by
    have := congrArg List.length (tw_dw dig (l.drop a))
    rw [List.length_append] at this
    omega
  have ta : ∀ a, Asc ((l.drop a).takeWhile dig) := fun a c hc => (ha.drop a) c (by
    have := tw_dw dig (l.drop a)
    rw [← this]; exact List.mem_append_left _ hc)
  induction k with
  | zero =>
    intro deep a n st hd hal
    obtain rfl : deep = 101 := by omega
    rw [cf_at (fn := f_read_part (rsT b) ig i is im kd) hi rfl]; simp only [f_read_part, t_read_part]
    have fg := fun st => figs_ok hg (l := l) (by omega) hal n st
    have tl' := tl a
    rw [List.length_drop] at tl'
    have mo := fun st => many_ok hm (ta a) (by omega) n st
    have d : decide ((100 : Int) < ((101 : Nat) : Int)) = true := by decide
    cases hq : many ((l.drop a).takeWhile dig) <;> rw [hq] at mo <;> cases b <;> simp! [rs_t, rs_f, rr_t, rr_f, fg, mo, d, x_sdead, be_err, andThen_err', rp, optP]
  | succ k ih =>
    intro deep a n st hd hal
    rw [show n + (k + 1) + 2 = n + k + 2 + 1 by omega]
    rw [cf_at (fn := f_read_part (rsT b) ig i is im kd) hi rfl]; simp only [f_read_part, t_read_part]
    have fg := fun st => figs_ok hg (l := l) (by omega) hal (n + k + 1) st
    have tl' := tl a
    rw [List.length_drop] at tl'
    have mo := fun st => many_ok hm (ta a) (by omega) (n + k + 1) st
    have d : decide ((100 : Int) < (deep : Nat)) = false := decide_eq_false (by omega)
    have sgn := fun x c hc st => sign_ok hs ha (by omega) x c hc (n + k + 1) st
    unfold rp
    cases hq : many ((l.drop a).takeWhile dig) with
    | false =>
      rw [hq] at mo
      cases b <;> simp! [rs_t, rs_f, rr_t, rr_f, fg, mo, d, x_sdead, be_err, andThen_err', optP, Bool.false_eq_true]
    | true =>
      rw [hq] at mo
      rw [if_pos rfl]
      have ln := fun st => len_s false (l := (l.drop a).takeWhile dig) (by omega) st
      have it := fun st => int_s hq false st
      have dr : l.drop (a + ((l.drop a).takeWhile dig).length) = (l.drop a).dropWhile dig := by rw [← List.drop_drop, drop_tw]
      have dl := congrArg List.length dr
      rw [List.length_drop] at dl
      generalize hB : a + ((l.drop a).takeWhile dig).length = B at dr dl
      have hBI : (a : Int) + (((l.drop a).takeWhile dig).length : Nat) = (B : Nat) := by omega
      have sl := fun st => slc_s false (l := l) (by omega) B (B + 1) st
      rw [show B + 1 - B = 1 by omega, dr, show ((B + 1 : Nat) : Int) = (B : Int) + 1 by omega] at sl
      generalize hR : (l.drop a).dropWhile dig = R at dr dl sl
      have aR : Asc R := by rw [← dr]; exact ha.drop _
      generalize hV : valL ((l.drop a).takeWhile dig) = V at it
      by_cases h40 : R.head? = some 40
      · obtain ⟨r1, rfl⟩ := hd_ex h40
        rw [rpA_40]
        have e0 := eqS (a := [40]) (b := [40]) (.cons (by omega) .nil) (.cons (by omega) .nil)
        rw [decide_eq_true rfl] at e0
        rw [show (40 :: r1).take 1 = [40] from rfl] at sl
        rw [List.length_cons] at dl
        have ih1 := fun st => ih (deep + 1) (B + 1) n st (by omega) (by omega)
        rw [show l.drop (B + 1) = r1 by rw [← List.drop_drop, dr]; rfl, show ((B + 1 : Nat) : Int) = (B : Int) + 1 by omega, show ((deep + 1 : Nat) : Int) = (deep : Int) + 1 by omega] at ih1
        cases h1 : rp k r1 with
        | none =>
          rw [h1] at ih1
          rw [rpB_none]
          cases b <;> simp! [rs_t, rs_f, rr_t, rr_f, fg, mo, d, ln, hBI, sl, z0, e0, ih1, optP, x_sdead, be_err, andThen_err']
        | some q1 =>
          obtain ⟨p1, s1⟩ := q1
          rw [h1] at ih1
          obtain ⟨e1, _, _⟩ := rp_sh _ _ _ _ h1
          have l1 := congrArg List.length e1
          rw [List.length_append] at l1
          have dr1 : l.drop (l.length - s1.length) = s1 := by
            have : l = (l.take (B + 1) ++ p1.sh) ++ s1 := by
              rw [List.append_assoc, ← e1]
              have := List.take_append_drop (B + 1) l
              rw [show l.drop (B + 1) = r1 by rw [← List.drop_drop, dr]; rfl] at this
              exact this.symm
            have ll := congrArg List.length this
            rw [List.length_append] at ll
            rw [show l.length - s1.length = (l.take (B + 1) ++ p1.sh).length by omega]
            exact (congrArg (List.drop _) this).trans List.drop_left
          have sg1 := fun st => sgn (l.length - s1.length) 44 (by omega) st
          rw [dr1] at sg1
          by_cases h44 : s1.head? = some 44
          · obtain ⟨r2, rfl⟩ := hd_ex h44
            rw [rpB_44]
            simp only [List.head?_cons, if_pos] at sg1
            rw [List.length_cons] at l1
            have ih2 := fun st => ih (deep + 1) (l.length - (44 :: r2).length + 1) n st (by omega) (by rw [List.length_cons]; omega)
            have dr2 : l.drop (l.length - (44 :: r2).length + 1) = r2 := by rw [← List.drop_drop, dr1]; rfl
            rw [dr2, show ((l.length - (44 :: r2).length + 1 : Nat) : Int) = ((l.length - (44 :: r2).length : Nat) : Int) + 1 by omega, show ((deep + 1 : Nat) : Int) = (deep : Int) + 1 by omega] at ih2
            generalize hC : l.length - (44 :: r2).length = C at ih1 ih2 sg1 dr2
            rw [List.length_cons] at hC
            cases h2 : rp k r2 with
            | none =>
              rw [h2] at ih2
              rw [rpC_none]
              cases b <;> simp! [rs_t, rs_f, rr_t, rr_f, fg, mo, d, ln, hBI, sl, z0, z1, e0, ih1, hC, sg1, ih2, optP, x_sdead, be_err, andThen_err']
            | some q2 =>
              obtain ⟨p2, s2⟩ := q2
              rw [h2] at ih2
              obtain ⟨e2, _, _⟩ := rp_sh _ _ _ _ h2
              have l2 := congrArg List.length e2
              rw [List.length_append] at l2
              have dr3 : l.drop (l.length - s2.length) = s2 := by
                have : l = (l.take (C + 1) ++ p2.sh) ++ s2 := by
                  rw [List.append_assoc, ← e2]
                  have := List.take_append_drop (C + 1) l
                  rw [dr2] at this
                  exact this.symm
                have ll := congrArg List.length this
                rw [List.length_append] at ll
                rw [show l.length - s2.length = (l.take (C + 1) ++ p2.sh).length by omega]
                exact (congrArg (List.drop _) this).trans List.drop_left
              have sg2 := fun st => sgn (l.length - s2.length) 41 (by omega) st
              rw [dr3] at sg2
              by_cases h41 : s2.head? = some 41
              · obtain ⟨r3, rfl⟩ := hd_ex h41
                rw [rpC_41]
                simp only [List.head?_cons, if_pos] at sg2
                rw [List.length_cons] at l2
                have hE : ((l.length - (41 :: r3).length : Nat) : Int) + 1 = ((l.length - r3.length : Nat) : Int) := by rw [List.length_cons]; omega
                generalize hD : l.length - (41 :: r3).length = D0 at ih2 sg2 hE
                rw [List.length_cons] at hD
                simp! [fg, mo, d, ln, hBI, sl, z0, z1, z2, e0, ih1, hC, sg1, ih2, hD, sg2, hE, it, optP, P.noref, P.d]
              · simp only [if_neg h41] at sg2
                rw [rpC_no _ _ _ h41]
                cases b <;> simp! [rs_t, rs_f, rr_t, rr_f, fg, mo, d, ln, hBI, sl, z0, z1, z2, e0, ih1, hC, sg1, ih2, sg2, optP, x_sdead, be_err, andThen_err']
          · simp only [if_neg h44] at sg1
            rw [rpB_no _ _ _ h44]
            cases b <;> simp! [rs_t, rs_f, rr_t, rr_f, fg, mo, d, ln, hBI, sl, z0, z1, e0, ih1, sg1, optP, x_sdead, be_err, andThen_err']
      · have q : ¬ R.take 1 = [40] := fun z => h40 (by
          cases R with
          | nil => cases z
          | cons c r => simp at z; subst z; rfl)
        have e0 := eqS (a := R.take 1) (b := [40]) (aR.take 1) (.cons (by omega) .nil)
        rw [decide_eq_false q] at e0
        have hE : ((l.length - R.length : Nat) : Int) = (B : Int) := by omega
        rw [rpA_no _ _ h40]
        simp! [fg, mo, d, ln, hBI, sl, z0, e0, it, optP, hE, P.d]

def optD (b : Bool) (o : Option P) (st : Store) : Res D := match o with
  | some p => .ok p.d st
  | none => rsR b st
theorem val_pd (p : P) (st : Store) : val st p.d = p.d := val_dat st p.noref
theorem ce_pd (m : Bool) (n : Nat) (p : P) (st : Store) : callEnd m n p.d st = .ok p.d (st.take n) := by cases p <;> rfl
theorem read_paper_ok {b : Bool} {i ip ig im is j k0 kf kd : Nat} (h0 : Fs[i]? = some (f_read_paper (rsT b) ip)) (hi : Fs[ip]? = some (f_read_part (rsT b) ig ip is im kd)) (hg : Fs[ig]? = some (f_figures_from kf)) (hm : Fs[im]? = some (f_is_many j k0)) (hs : Fs[is]? = some (f_sign_at (rsT b)))
    {l : List Nat} (ha : Asc l) (hl : l.length ≤ 90000) (n : Nat) (st : Store) : cf Fs (n + 104) i [.str (mkS l)] st = optD b (rdP l) st := by
  rw [cf_at (fn := f_read_paper (rsT b) ip) h0 rfl]; simp only [f_read_paper, t_read_paper]
  have rp' := fun st => read_part_ok hi hg hm hs ha hl 101 0 0 n st (by omega) (Nat.zero_le _)
  rw [List.drop_zero, show ((0 : Nat) : Int) = 0 from rfl, show n + 101 + 2 = n + 103 by omega] at rp'
  have ln := fun st => len_s false (l := l) (by omega) st
  unfold rdP
  cases h : rp 101 l with
  | none =>
    rw [h] at rp'
    cases b <;> simp! [rs_t, rs_f, rr_t, rr_f, rp', optP, optD, x_sdead, be_err, andThen_err']
  | some q =>
    obtain ⟨p, r⟩ := q
    rw [h] at rp'
    obtain ⟨e, _, _⟩ := rp_sh _ _ _ _ h
    have el := congrArg List.length e
    rw [List.length_append] at el
    cases r with
    | nil =>
      simp only [optP, List.length_nil, Nat.sub_zero] at rp'
      show _ = Res.ok p.d st
      have q0 : decide ((((l.length - 0 : Nat) : Int)) = ((l.length : Nat) : Int)) = true := decide_eq_true (by omega)
      have q1 : decide ((((l.length : Nat) : Int)) = ((l.length : Nat) : Int)) = true := decide_eq_true rfl
      simp! [rp', optP, optD, ln, val_pd, ce_pd, P.noref, q0, q1]
    | cons c r =>
      rw [List.length_cons] at el
      show _ = rsR b st
      have q1 : decide ((((l.length - (r.length + 1) : Nat) : Int)) = ((l.length : Nat) : Int)) = false := decide_eq_false (by omega)
      cases b <;> simp! [rs_t, rs_f, rr_t, rr_f, rp', optP, optD, ln, val_pd, ce_pd, P.noref, q1, x_sdead, be_err, andThen_err']
def P.n : P → Nat
  | .all n => n
  | .split n _ _ => n
theorem P.asc : ∀ p : P, Asc p.sh
  | .all n => fun c hc => by have := numL_digits n c hc; omega
  | .split n a b => by
    have h : Asc (numL n) := fun c hc => by have := numL_digits n c hc; omega
    exact h.app (((((Asc.cons (by omega) .nil).app a.asc).app (.cons (by omega) .nil)).app b.asc).app (.cons (by omega) .nil))
theorem ofS_all : Str.ofString "all" = mkS [97, 108, 108] := by decide +kernel
theorem ofS_split : Str.ofString "split" = mkS [115, 112, 108, 105, 116] := by decide +kernel
theorem asc_all : Asc [97, 108, 108] := by intro c hc; simp at hc; omega
theorem asc_split : Asc [115, 112, 108, 105, 116] := by intro c hc; simp at hc; omega
theorem eq_all : eqD (.str (Str.ofString "all")) (.str (Str.ofString "all")) = some true := by rw [ofS_all, eqS asc_all asc_all, decide_eq_true rfl]
theorem eq_split : eqD (.str (Str.ofString "split")) (.str (Str.ofString "all")) = some false := by rw [ofS_all, ofS_split, eqS asc_split asc_all, decide_eq_false (by decide)]
theorem show_paper_ok {i iN : Nat} (hi : Fs[i]? = some (f_show_paper iN i)) (hn : Fs[iN]? = some f_show_number) : ∀ (p : P) (n : Nat) (st : Store), p.fit → p.sh.length ≤ 90000 →
    cf Fs (n + p.dp + 2) i [p.d] st = .ok (.str (mkS p.sh)) st
  | .all m, n, st, hf, hl => by
    rw [cf_at (fn := f_show_paper iN i) hi rfl]; simp only [f_show_paper, t_show_paper, P.d, P.sh]
    have sn := fun st => show_num_ok hn (v := (m : Int)) (by simp only [P.fit] at hf; omega) (n + (P.all m).dp) st
    rw [shN_nat] at sn
    simp! [eq_all, sn]
  | .split m a b, n, st, hf, hl => by
    have e : n + (P.split m a b).dp + 2 = (n + (P.split m a b).dp + 1) + 1 := rfl
    rw [e, cf_at (fn := f_show_paper iN i) hi rfl]; simp only [f_show_paper, t_show_paper, P.d]
    simp only [P.dp]
    simp only [P.fit] at hf
    simp only [P.sh, List.length_append, List.length_singleton] at hl
    have sn := fun st => show_num_ok hn (v := (m : Int)) (by omega) (n + (max a.dp b.dp + 1)) st
    rw [shN_nat] at sn
    have z0 : Str.ofString "(" = mkS [40] := by decide +kernel
    have z1 : Str.ofString "," = mkS [44] := by decide +kernel
    have z2 : Str.ofString ")" = mkS [41] := by decide +kernel
    have s1 := fun st => show_paper_ok hi hn a (n + (max a.dp b.dp - a.dp)) st hf.2.1 (by omega)
    have s2 := fun st => show_paper_ok hi hn b (n + (max a.dp b.dp - b.dp)) st hf.2.2 (by omega)
    rw [show n + (max a.dp b.dp - a.dp) + a.dp + 2 = n + (max a.dp b.dp + 1) + 1 by omega] at s1
    rw [show n + (max a.dp b.dp - b.dp) + b.dp + 2 = n + (max a.dp b.dp + 1) + 1 by omega] at s2
    have a1 := fun st => add_s false (a := numL m) (b := [40]) (by rw [List.length_singleton]; omega) st
    have a2 := fun st => add_s false (a := numL m ++ [40]) (b := a.sh) (by rw [List.length_append, List.length_singleton]; omega) st
    have a3 := fun st => add_s false (a := numL m ++ [40] ++ a.sh) (b := [44]) (by simp only [List.length_append, List.length_singleton]; omega) st
    have a4 := fun st => add_s false (a := numL m ++ [40] ++ a.sh ++ [44]) (b := b.sh) (by simp only [List.length_append, List.length_singleton]; omega) st
    have a5 := fun st => add_s false (a := numL m ++ [40] ++ a.sh ++ [44] ++ b.sh) (b := [41]) (by simp only [List.length_append, List.length_singleton]; omega) st
    have fin : numL m ++ [40] ++ a.sh ++ [44] ++ b.sh ++ [41] = (P.split m a b).sh := by simp [P.sh]
    rw [fin] at a5
    generalize (P.split m a b).sh = S at a5 ⊢
    generalize numL m ++ [40] ++ a.sh ++ [44] ++ b.sh = S4 at a4 a5
    generalize numL m ++ [40] ++ a.sh ++ [44] = S3 at a3 a4
    generalize numL m ++ [40] ++ a.sh = S2 at a2 a3
    generalize numL m ++ [40] = S1 at a1 a2
    simp! [eq_split, sn, z0, z1, z2, s1, s2, a1, a2, a3, a4, a5]
theorem P.pl : ∀ p : P, Pl (p.dp + 1) p.d
  | .all n => .tup fun d hd => by
    simp only [List.mem_cons, List.not_mem_nil, or_false] at hd
    rcases hd with rfl | rfl
    · exact .str (by rw [ofS_all]; exact ascI asc_all)
    · exact .int _
  | .split n a b => .tup fun d hd => by
    simp only [List.mem_cons, List.not_mem_nil, or_false] at hd
    simp only [P.dp]
    rcases hd with rfl | rfl | rfl | rfl
    · exact .str (by rw [ofS_split]; exact ascI asc_split)
    · exact .int _
    · exact a.pl.le (by omega)
    · exact b.pl.le (by omega)
theorem eqD_nil' {xs : List D} (h : Pl 150 (.lst xs)) : eqD (.lst xs) (.lst []) = some xs.isEmpty := by
  obtain ⟨p, a, b, c⟩ := h
  rw [eqD_of' a (show (D.lst []).py = some (.list []) from rfl) b rfl c (by decide)]
  cases xs with
  | nil => simp only [D.py, pys, Option.map_some] at a; cases a; rfl
  | cons x xs =>
    simp only [D.py, pys] at a
    rcases h1 : x.py with _ | q
    · rw [h1] at a; cases a
    · rcases h2 : pys xs with _ | qs
      · rw [h1, h2] at a; cases a
      · rw [h1, h2] at a; cases a; rfl
end
end Zn.RU

/-! RV: numbers, papers and chains drawn, and papers written by a law. -/
namespace Zn.RU
open PySem PySem.Spec PyProof.Rows L2 Zn TL Zn.RT Zn.PB Zn.PG
def t__law_many (i__law_take : Nat) : T :=
  (.cons (.sret (.sub (.lst false (.cons (.call i__law_take false (.cons (.var 0) (.cons (.con (.int 10)) .nil))) (.cons (.call i__law_take false (.cons (.var 0) (.cons (.con (.int 1000)) .nil))) (.cons (.bin false .Add (.bin false .Mult (.call i__law_take false (.cons (.var 0) (.cons (.bin false .Pow (.con (.int 10)) (.con (.int 17))) .nil))) (.bin false .Pow (.con (.int 10)) (.con (.int 33)))) (.con (.int 7))) (.cons (.con (.int 0)) .nil))))) (.call i__law_take false (.cons (.var 0) (.cons (.con (.int 4)) .nil))))) .nil)
def f__law_many (i__law_take : Nat) : Fn := ⟨"_law_many", ["_law_pen_here"], ["_law_pen_here"], t__law_many i__law_take⟩
def t__law_paper (i__law_many i__law_paper i__law_take : Nat) : T :=
  (.cons (.sif (.bop .Or (.cons (.cmp .Eq (.var 1) (.con (.int 0))) (.cons (.cmp .Eq (.call i__law_take false (.cons (.var 0) (.cons (.con (.int 3)) .nil))) (.con (.int 0))) .nil))) (.cons (.sret (.tup (.cons (.con (.str "all")) (.cons (.call i__law_many false (.cons (.var 0) .nil)) .nil)))) .nil) .nil) (.cons (.sset (.tnm 2) (.call i__law_many false (.cons (.var 0) .nil))) (.cons (.sset (.tnm 3) (.call i__law_paper false (.cons (.var 0) (.cons (.bin false .Sub (.var 1) (.con (.int 1))) .nil)))) (.cons (.sret (.tup (.cons (.con (.str "split")) (.cons (.var 2) (.cons (.var 3) (.cons (.call i__law_paper false (.cons (.var 0) (.cons (.bin false .Sub (.var 1) (.con (.int 1))) .nil))) .nil)))))) .nil))))
def f__law_paper (i__law_many i__law_paper i__law_take : Nat) : Fn := ⟨"_law_paper", ["_law_pen_here", "_law_deep"], ["_law_pen_here", "_law_deep", "_law_many_here", "_law_lower"], t__law_paper i__law_many i__law_paper i__law_take⟩
def b__law_chain_1 (i__law_many i__law_take : Nat) : T := (.cons (.sset (.tnm 4) (.lst false (.cons (.var 2) (.cons (.tup (.cons (.con (.str "all")) (.cons (.call i__law_take false (.cons (.var 0) (.cons (.con (.int 10)) .nil))) .nil))) .nil)))) (.cons (.sif (.cmp .Eq (.call i__law_take false (.cons (.var 0) (.cons (.con (.int 2)) .nil))) (.con (.int 0))) (.cons (.sset (.tnm 4) (.rev false (.var 4))) .nil) .nil) (.cons (.sset (.tnm 2) (.tup (.cons (.con (.str "split")) (.cons (.call i__law_take false (.cons (.var 0) (.cons (.con (.int 100)) .nil))) (.cons (.sub (.var 4) (.con (.int 0))) (.cons (.sub (.var 4) (.con (.int 1))) .nil)))))) .nil)))
def t__law_chain (i__law_many i__law_take : Nat) : T :=
  (.cons (.sset (.tnm 2) (.tup (.cons (.con (.str "all")) (.cons (.call i__law_many false (.cons (.var 0) .nil)) .nil)))) (.cons (.sfor (.srng 1 (.cons (.var 1) .nil)) (.tnm 3) (b__law_chain_1 i__law_many i__law_take)) (.cons (.sret (.var 2)) .nil)))
def f__law_chain (i__law_many i__law_take : Nat) : Fn := ⟨"_law_chain", ["_law_pen_here", "_law_deep"], ["_law_pen_here", "_law_deep", "_law_found", "_law_k", "_law_halves"], t__law_chain i__law_many i__law_take⟩
def w__law_written_1 : T := (.cmp .NotEq (.var 2) (.lst false .nil))
def b__law_written_2 : T := (.cons (.sset (.tnm 3) (.mth .pop (.var 2) .nil)) (.cons (.sif (.isi (.var 3) "str") (.cons (.sset (.tnm 1) (.bin false .Add (.var 1) (.var 3))) .nil) (.cons (.sif (.cmp .Eq (.sub (.var 3) (.con (.int 0))) (.con (.str "all"))) (.cons (.sset (.tnm 1) (.bin false .Add (.var 1) (.blt .str false (.cons (.sub (.var 3) (.con (.int 1))) .nil)))) .nil) (.cons (.sset (.tnm 1) (.bin false .Add (.bin false .Add (.var 1) (.blt .str false (.cons (.sub (.var 3) (.con (.int 1))) .nil))) (.con (.str "(")))) (.cons (.sexp (.mth .extend (.var 2) (.cons (.lst false (.cons (.con (.str ")")) (.cons (.sub (.var 3) (.con (.int 3))) (.cons (.con (.str ",")) (.cons (.sub (.var 3) (.con (.int 2))) .nil))))) .nil))) .nil))) .nil)) .nil))
def t__law_written : T :=
  (.cons (.sset (.tnm 1) (.con (.str ""))) (.cons (.sset (.tnm 2) (.lst true (.cons (.var 0) .nil))) (.cons (.swhile w__law_written_1 b__law_written_2) (.cons (.sret (.var 1)) .nil))))
def f__law_written : Fn := ⟨"_law_written", ["_law_paper_here"], ["_law_paper_here", "_law_found", "_law_waiting", "_law_one"], t__law_written⟩

def P.sz : P → Nat
  | .all _ => 1
  | .split _ a b => 1 + a.sz + b.sz
/-! ### a list of our own: its last thing taken off, others put behind -/
theorem pop_last (A R : Store) (xs : List D) (d : D) : mthF .pop (.ref A.length) [] (A ++ some (.lst (xs ++ [d])) :: R) = .ok d (A ++ some (.lst xs) :: R) := by
  simp only [mthF, mid_get]
  simp
theorem ext_lst (A R : Store) (xs ys : List D) (h : xs.length + ys.length ≤ 100000) : mthF .extend (.ref A.length) [.lst ys] (A ++ some (.lst xs) :: R) = .ok .non (A ++ some (.lst (xs ++ ys)) :: R) := by
  simp only [mthF, mid_get, seqOf, lstOf]
  rw [if_pos (by simp only [sizeLine]; omega), mid_set]
/-! ### draws -/
section
variable {Fs : List Fn}
theorem many_draw {i it : Nat} (hi : Fs[i]? = some (f__law_many it)) (ht : Fs[it]? = some f__law_take) (n : Nat) (A R : Store) (c : Int) {q : Int} (hq0 : -1 ≤ q) (hq : q < 10 ^ 28) :
    ∃ (v : Nat) (c' q' : Int), cf Fs (n + 2) i [.ref A.length] (A ++ penB c q :: R) = .ok (.int (v : Nat)) (A ++ penB c' q' :: R) ∧ v < 10 ^ 50 ∧ -1 ≤ q' ∧ q' ≤ q + 4 := by
  have take := fun (c q : Int) (h0 : -1 ≤ q) (h : q < 10 ^ 30) (m : Int) (hm : 0 < m) (hm2 : m < 10 ^ 100) => takeB_ok (n := n) ht A R c q h0 h m hm hm2
  obtain ⟨v, c1, q1, e1, hv0, hv1, ha1, hb1⟩ := take c q hq0 (by omega) 10 (by omega) (by omega)
  obtain ⟨w, c2, q2, e2, hw0, hw1, ha2, hb2⟩ := take c1 q1 ha1 (by omega) 1000 (by omega) (by omega)
  obtain ⟨t, c3, q3, e3, ht0, ht1, ha3, hb3⟩ := take c2 q2 ha2 (by omega) 100000000000000000 (by omega) (by omega)
  obtain ⟨s, c5, q5, e5, hs0, hs1, ha5, hb5⟩ := take c3 q3 ha3 (by omega) 4 (by omega) (by omega)
  obtain ⟨y, hy, hym⟩ := PA.atI_mem (xs := [D.int v, .int w, .int (t * 1000000000000000000000000000000000 + 7), .int 0]) hs0 hs1
  obtain ⟨z, rfl, hz⟩ : ∃ z : Nat, y = .int z ∧ z < 10 ^ 50 := by
    simp only [List.mem_cons, List.not_mem_nil, or_false] at hym
    rcases hym with rfl | rfl | rfl | rfl
    · exact ⟨v.toNat, by rw [Int.toNat_of_nonneg hv0], by omega⟩
    · exact ⟨w.toNat, by rw [Int.toNat_of_nonneg hw0], by omega⟩
    · exact ⟨(t * 1000000000000000000000000000000000 + 7).toNat, by rw [Int.toNat_of_nonneg (by omega)], by omega⟩
    · exact ⟨0, rfl, by omega⟩
  rw [cf_at hi rfl]; simp only [f__law_many, t__law_many]
  refine ⟨z, c5, q5, ?_, hz, ha5, by omega⟩
  simp! [e1, e2, tkB]
  ((try simp! [e3, e5, hy, tkB]); (repeat (walk_at "zo"; try simp! [e3, e5, hy, tkB])))
theorem paper_draw {i im it : Nat} (hi : Fs[i]? = some (f__law_paper im i it)) (hm : Fs[im]? = some (f__law_many it)) (ht : Fs[it]? = some f__law_take) (A : Store) : ∀ (e n : Nat) (R : Store) (c q : Int), e ≤ 30 → -1 ≤ q → q + 5 * 2 ^ (e + 1) - 5 < 10 ^ 27 →
    ∃ (p : P) (c' q' : Int), cf Fs (n + e + 3) i [.ref A.length, .int (e : Nat)] (A ++ penB c q :: R) = .ok p.d (A ++ penB c' q' :: R) ∧ p.fit ∧ p.dp ≤ e ∧ p.sz ≤ 2 ^ (e + 1) - 1 ∧ -1 ≤ q' ∧ q' ≤ q + 5 * 2 ^ (e + 1) - 5 := by
  intro e
  induction e with
  | zero =>
    intro n R c q he hq0 hq
    obtain ⟨v, c1, q1, e1, hv, ha1, hb1⟩ := many_draw hm ht n A R c hq0 (by omega)
    refine ⟨.all v, c1, q1, ?_, hv, Nat.le_refl _, by simp [P.sz], ha1, by omega⟩
    rw [cf_at hi rfl]; simp only [f__law_paper, t__law_paper]
    simp! [e1, tkB, show decide (((0 : Nat) : Int) = 0) = true from rfl, P.d]
  | succ e ih =>
    intro n R c q he hq0 hq
    have pI0 : ((2 : Int) ^ (e + 1 + 1)) = 2 * 2 ^ (e + 1) := by rw [Int.pow_succ]; omega
    have pP : (1 : Int) ≤ 2 ^ (e + 1) := by have := Int.pow_pos (n := 2) (m := e + 1) (by omega); omega
    rw [pI0] at hq
    have d0 : decide (((e + 1 : Nat) : Int) = 0) = false := decide_eq_false (by omega)
    obtain ⟨t, c1, q1, e1, ht0, ht1, ha1, hb1⟩ := takeB_ok (n := n + e + 2) ht A R c q hq0 (by omega) 3 (by omega) (by omega)
    have pw : 2 ^ (e + 1 + 1) = 2 * 2 ^ (e + 1) := by rw [Nat.pow_succ]; omega
    have pz : 2 ^ (e + 1) ≤ 2 ^ 30 := Nat.pow_le_pow_right (by omega) (by omega)
    have pI : ((2 : Int) ^ (e + 1 + 1)) = 2 * 2 ^ (e + 1) := by rw [Int.pow_succ]; omega
    have pJ : ((2 ^ (e + 1) : Nat) : Int) = 2 ^ (e + 1) := by simp
    have p1 : 1 ≤ 2 ^ (e + 1) := Nat.one_le_two_pow
    obtain ⟨v, c2, q2, e2, hv, ha2, hb2⟩ := many_draw hm ht (n + e + 1) A R c1 ha1 (by omega)
    by_cases h : t = 0
    · subst h
      refine ⟨.all v, c2, q2, ?_, hv, Nat.zero_le _, by simp only [P.sz]; omega, ha2, by rw [pI]; omega⟩
      rw [show n + (e + 1) + 3 = n + e + 1 + 2 + 1 by omega, cf_at hi rfl]; simp only [f__law_paper, t__law_paper]
      simp! [d0, e1, e2, tkB, show decide ((0 : Int) = 0) = true from rfl, P.d]
    · have d1 : decide (t = 0) = false := decide_eq_false h
      obtain ⟨a, c3, q3, e3, f3, g3, z3, ha3, hb3⟩ := ih n R c2 q2 (by omega) ha2 (by omega)
      obtain ⟨b, c4, q4, e4, f4, g4, z4, ha4, hb4⟩ := ih n R c3 q3 (by omega) ha3 (by omega)
      refine ⟨.split v a b, c4, q4, ?_, ⟨hv, f3, f4⟩, by simp only [P.dp]; omega, by simp only [P.sz]; omega, ha4, by rw [pI]; omega⟩
      rw [show n + (e + 1) + 3 = n + e + 3 + 1 by omega, cf_at hi rfl]; simp only [f__law_paper, t__law_paper]
      have s1 : ((e + 1 : Nat) : Int) - 1 = (e : Nat) := by omega
      simp! [d0, d1, e1, e2, e3, e4, s1, tkB, ce_pd, P.noref, P.d]
theorem rng_D (k : Nat) : rngD 0 k = (List.range k).map fun (j : Nat) => D.int (j : Nat) := by
  unfold rngD
  exact List.map_congr_left fun j _ => by rw [Int.zero_add]
theorem chain_turn {im it : Nat} (hm : Fs[im]? = some (f__law_many it)) (ht : Fs[it]? = some f__law_take) (n : Nat) (A R : Store) (p : P) (hf : p.fit) (c : Int) {q : Int} (hq0 : -1 ≤ q) (hq : q < 10 ^ 27) (s0 s1 : Option D) (j : D) (s3 s4 : Option D) (hs0 : s0 = some (.ref A.length)) :
    ∃ (p' : P) (c' q' : Int) (s4' : Option D), turn (cf Fs (n + 1)) (.tnm 3) (b__law_chain_1 im it) j [s0, s1, some p.d, s3, s4] (A ++ penB c q :: R) = .nx [s0, s1, some p'.d, some j, s4'] (A ++ penB c' q' :: R) ∧ p'.fit ∧ p'.dp = p.dp + 1 ∧ p'.sz = p.sz + 2 ∧ -1 ≤ q' ∧ q' ≤ q + 3 := by
  subst hs0
  obtain ⟨v, c1, q1, e1, hv0, hv1, ha1, hb1⟩ := takeB_ok (n := n) ht A R c q hq0 (by omega) 10 (by omega) (by omega)
  obtain ⟨t, c2, q2, e2, ht0, ht1, ha2, hb2⟩ := takeB_ok (n := n) ht A R c1 q1 ha1 (by omega) 2 (by omega) (by omega)
  obtain ⟨w, c3, q3, e3, hw0, hw1, ha3, hb3⟩ := takeB_ok (n := n) ht A R c2 q2 ha2 (by omega) 100 (by omega) (by omega)
  obtain ⟨V, rfl⟩ : ∃ V : Nat, v = V := ⟨v.toNat, by omega⟩
  obtain ⟨W, rfl⟩ : ∃ W : Nat, w = W := ⟨w.toNat, by omega⟩
  have e0 : (P.all V).d = .tup [.str "all", .int (V : Nat)] := rfl
  generalize hX : (P.all V).d = X at e0
  have nX : X.isRef = false := by rw [e0]; rfl
  have hp : p.d.isRef = false := p.noref
  have b1 : ∀ (s3 s4 : Option D) (rest : T), ex (cf Fs (n + 1)) (.cons (.sset (.tnm 4) (.lst false (.cons (.var 2) (.cons (.tup (.cons (.con (.str "all")) (.cons (.call it false (.cons (.var 0) (.cons (.con (.int 10)) .nil))) .nil))) .nil)))) rest) [some (.ref A.length), s1, some p.d, s3, s4] (A ++ penB c q :: R) =
      ex (cf Fs (n + 1)) rest [some (.ref A.length), s1, some p.d, s3, some (.lst [p.d, X])] (A ++ penB c1 q1 :: R) := fun s3 s4 rest => by
    rw [e0]
    generalize p.d = Y at hp ⊢
    simp! [e1, tkB, hp]
  have b2 : ∀ (s3 : Option D) (rest : T), ex (cf Fs (n + 1)) (.cons (.sif (.cmp .Eq (.call it false (.cons (.var 0) (.cons (.con (.int 2)) .nil))) (.con (.int 0))) (.cons (.sset (.tnm 4) (.rev false (.var 4))) .nil) .nil) rest) [some (.ref A.length), s1, some p.d, s3, some (.lst [p.d, X])] (A ++ penB c1 q1 :: R) =
      ex (cf Fs (n + 1)) rest [some (.ref A.length), s1, some p.d, s3, some (.lst (if t = 0 then [X, p.d] else [p.d, X]))] (A ++ penB c2 q2 :: R) := fun s3 rest => by
    generalize p.d = Y at hp ⊢
    by_cases h : t = 0
    · subst h
      rw [if_pos rfl]
      simp! [e2, tkB, show decide ((0 : Int) = 0) = true from rfl, List.reverse_cons, List.reverse_nil]
    · rw [if_neg h]
      have d1 : decide (t = 0) = false := decide_eq_false h
      simp! [e2, tkB, d1]
  have b3 : ∀ (s3 : Option D) (a b : D), a.isRef = false → b.isRef = false → ex (cf Fs (n + 1)) (.cons (.sset (.tnm 2) (.tup (.cons (.con (.str "split")) (.cons (.call it false (.cons (.var 0) (.cons (.con (.int 100)) .nil))) (.cons (.sub (.var 4) (.con (.int 0))) (.cons (.sub (.var 4) (.con (.int 1))) .nil)))))) .nil) [some (.ref A.length), s1, some p.d, s3, some (.lst [a, b])] (A ++ penB c2 q2 :: R) =
      .nx [some (.ref A.length), s1, some (.tup [.str "split", .int (W : Nat), a, b]), s3, some (.lst [a, b])] (A ++ penB c3 q3 :: R) := fun s3 a b ra rb => by
    simp! [e3, tkB, ra, rb]
  have ht : turn (cf Fs (n + 1)) (.tnm 3) (b__law_chain_1 im it) j [some (.ref A.length), s1, some p.d, s3, s4] (A ++ penB c q :: R) = ex (cf Fs (n + 1)) (b__law_chain_1 im it) [some (.ref A.length), s1, some p.d, some j, s4] (A ++ penB c q :: R) := rfl
  rw [ht, b__law_chain_1, b1, b2]
  by_cases h : t = 0
  · rw [if_pos h, b3 _ _ _ nX hp]
    exact ⟨.split W (.all V) p, c3, q3, _, by rw [← hX]; rfl, ⟨by omega, by show V < _; omega, hf⟩, by simp only [P.dp]; omega, by simp only [P.sz]; omega, ha3, by omega⟩
  · rw [if_neg h, b3 _ _ _ hp nX]
    exact ⟨.split W p (.all V), c3, q3, _, by rw [← hX]; rfl, ⟨by omega, hf, by show V < _; omega⟩, by simp only [P.dp]; omega, by simp only [P.sz]; omega, ha3, by omega⟩
theorem chain_loop {im it : Nat} (hm : Fs[im]? = some (f__law_many it)) (ht : Fs[it]? = some f__law_take) (n : Nat) (A R : Store) (s1 : Option D) : ∀ (js : List D) (p : P) (c q : Int) (s3 s4 : Option D), p.fit → js.length ≤ 1000 → -1 ≤ q → q + 3 * js.length < 10 ^ 27 →
    ∃ (p' : P) (c' q' : Int) (s3' s4' : Option D), forL (turn (cf Fs (n + 1)) (.tnm 3) (b__law_chain_1 im it)) js [some (.ref A.length), s1, some p.d, s3, s4] (A ++ penB c q :: R) = .nx [some (.ref A.length), s1, some p'.d, s3', s4'] (A ++ penB c' q' :: R) ∧ p'.fit ∧ p'.dp = p.dp + js.length ∧ p'.sz = p.sz + 2 * js.length ∧ -1 ≤ q' ∧ q' ≤ q + 3 * js.length
  | [], p, c, q, s3, s4, hf, _, h0, _ => ⟨p, c, q, s3, s4, forL_nil _ _ _, hf, rfl, rfl, h0, by simp⟩
  | j :: js, p, c, q, s3, s4, hf, hl, h0, h1 => by
    rw [List.length_cons] at h1 hl
    obtain ⟨p1, c1, q1, t1, e1, f1, d1, z1, a1, b1⟩ := chain_turn hm ht n A R p hf c h0 (by omega) _ s1 j s3 s4 rfl
    obtain ⟨p2, c2, q2, t3, t4, e2, f2, d2, z2, a2, b2⟩ := chain_loop hm ht n A R s1 js p1 c1 q1 (some j) t1 f1 (by omega) a1 (by omega)
    refine ⟨p2, c2, q2, t3, t4, by rw [forL_nx e1, e2], f2, by rw [List.length_cons]; omega, by rw [List.length_cons]; omega, a2, by rw [List.length_cons]; omega⟩
theorem chain_draw {i im it : Nat} (hi : Fs[i]? = some (f__law_chain im it)) (hm : Fs[im]? = some (f__law_many it)) (ht : Fs[it]? = some f__law_take) (n : Nat) (A R : Store) (c : Int) {q : Int} (hq0 : -1 ≤ q) (hq : q < 10 ^ 26) {k : Nat} (hk : k ≤ 1000) :
    ∃ (p : P) (c' q' : Int), cf Fs (n + 3) i [.ref A.length, .int (k : Nat)] (A ++ penB c q :: R) = .ok p.d (A ++ penB c' q' :: R) ∧ p.fit ∧ p.dp = k ∧ p.sz = 1 + 2 * k ∧ -1 ≤ q' ∧ q' ≤ q + 4 + 3 * k := by
  obtain ⟨v, c1, q1, e1, hv, ha1, hb1⟩ := many_draw hm ht n A R c hq0 (by omega)
  obtain ⟨p2, c2, q2, t3, t4, e2, f2, d2, z2, a2, b2⟩ := chain_loop hm ht (n + 1) A R (some (.int (k : Nat))) (rngD 0 k) (.all v) c1 q1 none none hv (by rw [rng_D, List.length_map, List.length_range]; exact hk) ha1 (by rw [rng_D, List.length_map, List.length_range]; omega)
  rw [rng_D, List.length_map, List.length_range] at d2 z2 b2
  refine ⟨p2, c2, q2, ?_, f2, by rw [d2]; simp [P.dp], by rw [z2]; simp [P.sz], a2, by omega⟩
  rw [cf_at hi rfl]; simp only [f__law_chain, t__law_chain]
  have hr : rngOk ((k : Nat) : Int) = true := by
    unfold rngOk
    rw [decide_eq_true (by omega), decide_eq_true (by omega)]
    rfl
  have rg : ∀ st, rngF 1 [.int (k : Nat)] st = .ok (.fix (rngD 0 k)) st := fun st => by
    simp! [rngF, rng1F, hr, Int.toNat_natCast]
  have nn : (P.all v).d = .tup [.str "all", .int (v : Nat)] := rfl
  rw [nn] at e2
  simp! [e1, rg, e2, tkB, ce_pd, P.noref]
/-! ### papers written -/
inductive It where
  | tx (l : List Nat)
  | pa (x : P)
def It.d : It → D
  | .tx l => .str (mkS l)
  | .pa p => p.d
def It.sh : It → List Nat
  | .tx l => l
  | .pa p => p.sh
def It.wt : It → Nat
  | .tx _ => 1
  | .pa p => 4 * p.sz
def It.ok : It → Prop
  | .tx l => Asc l
  | .pa p => p.fit ∧ p.dp ≤ 120
theorem It.noref (x : It) : x.d.isRef = false := by cases x with
  | tx l => rfl
  | pa p => exact p.noref
theorem It.pl {x : It} (h : x.ok) : Pl 121 x.d := by
  cases x with
  | tx l => exact .str (ascI h)
  | pa p => exact p.pl.le (by have : p.dp ≤ 120 := h.2; omega)
theorem wait_eq {ws : List It} (h : ∀ x ∈ ws, x.ok) : eqD (.lst (ws.map It.d)) (.lst []) = some ws.isEmpty := by
  rw [eqD_nil' ((Pl.lst (k := 121) fun d hd => by
    obtain ⟨x, hx, rfl⟩ := List.mem_map.mp hd
    exact It.pl (h x hx)).le (by omega))]
  cases ws <;> rfl
theorem P.sz_pos (p : P) : 1 ≤ p.sz := by cases p <;> simp only [P.sz] <;> omega
def outS : List It → List Nat
  | [] => []
  | x :: r => outS r ++ x.sh
theorem outS_app (a b : List It) : outS (a ++ b) = outS b ++ outS a := by
  induction a with
  | nil => simp [outS]
  | cons x a ih => simp [outS, ih]
theorem written_loop (F : CallF) (A R : Store) (s0 : Option D) : ∀ (m : Nat) (ws : List It) (acc : List Nat) (f : Nat) (s3 : Option D), (ws.map It.wt).sum ≤ m → m < f → (∀ x ∈ ws, x.ok) → ws.length ≤ 10000 → m ≤ 10000 → acc.length + (outS ws).length ≤ 90000 →
    ∃ s3', whileL (ev F w__law_written_1) (ex F b__law_written_2) f [s0, some (.str (mkS acc)), some (.ref A.length), s3] (A ++ some (.lst (ws.map It.d)) :: R) = .nx [s0, some (.str (mkS (acc ++ outS ws))), some (.ref A.length), s3'] (A ++ some (.lst []) :: R) := by
  intro m
  have z0 : Str.ofString "(" = mkS [40] := by decide +kernel
  have z1 : Str.ofString "," = mkS [44] := by decide +kernel
  have z2 : Str.ofString ")" = mkS [41] := by decide +kernel
  induction m with
  | zero =>
    intro ws acc f s3 hw hf hok hl hm hs
    obtain ⟨f, rfl⟩ : ∃ g, f = g + 1 := ⟨f - 1, by omega⟩
    obtain rfl : ws = [] := by
      cases ws with
      | nil => rfl
      | cons x r =>
        rw [List.map_cons, List.sum_cons] at hw
        cases x with
        | tx l => simp only [It.wt] at hw; omega
        | pa p => have := p.sz_pos; simp only [It.wt] at hw; omega
    refine ⟨s3, ?_⟩
    rw [while_f (st1 := A ++ some (.lst []) :: R)]
    · simp [outS]
    · simp only [w__law_written_1]
      simp! [eqD_nil' (xs := []) ((Pl.lst (k := 0) fun d hd => by cases hd).le (by omega))]
      rfl
  | succ m ih =>
    intro ws acc f s3 hw hf hok hl hm hs
    obtain ⟨f, rfl⟩ : ∃ g, f = g + 1 := ⟨f - 1, by omega⟩
    rcases List.eq_nil_or_concat ws with rfl | ⟨r, x, rfl⟩
    · refine ⟨s3, ?_⟩
      rw [while_f (st1 := A ++ some (.lst []) :: R)]
      · simp [outS]
      · simp only [w__law_written_1]
        simp! [eqD_nil' (xs := []) ((Pl.lst (k := 0) fun d hd => by cases hd).le (by omega))]
        rfl
    · rw [List.concat_eq_append] at *
      have hc : ev F w__law_written_1 [s0, some (.str (mkS acc)), some (.ref A.length), s3] (A ++ some (.lst ((r ++ [x]).map It.d)) :: R) = .ok (.bl true) (A ++ some (.lst ((r ++ [x]).map It.d)) :: R) := by
        have e := wait_eq hok
        have e' : (r ++ [x]).isEmpty = false := by simp
        rw [e'] at e
        simp only [w__law_written_1]
        simp! [e]
      have hpop := pop_last A R (r.map It.d) x.d
      rw [show r.map It.d ++ [x.d] = (r ++ [x]).map It.d by simp] at hpop
      have hx := hok x (by simp)
      have hr : ∀ y ∈ r, y.ok := fun y hy => hok y (by simp [hy])
      rw [List.map_append, List.sum_append] at hw
      rw [List.length_append, List.length_singleton] at hl
      rw [outS_app, List.length_append] at hs
      have o1 : outS [x] = x.sh := by simp [outS]
      rw [o1] at hs
      rw [outS_app, o1]
      generalize hW : (r ++ [x]).map It.d = W at hc hpop ⊢
      cases x with
      | tx l =>
        have hw1 : ([It.tx l].map It.wt).sum = 1 := rfl
        have ad := fun st => add_s false (a := acc) (b := l) (by simp only [It.sh] at hs; omega) st
        obtain ⟨s3', h⟩ := ih r (acc ++ l) f (some (.str (mkS l))) (by omega) (by omega) hr (by omega) (by omega) (by rw [List.length_append]; simp only [It.sh] at hs; omega)
        refine ⟨s3', ?_⟩
        rw [while_t (env' := [s0, some (.str (mkS (acc ++ l))), some (.ref A.length), some (.str (mkS l))]) (st' := A ++ some (.lst (r.map It.d)) :: R) hc]
        · rw [h, List.append_assoc]; rfl
        · simp only [b__law_written_2]
          simp only [It.d] at hpop
          simp! [hpop, ad]
      | pa p =>
        cases p with
        | all v =>
          have hw1 : ([It.pa (.all v)].map It.wt).sum = 4 := rfl
          simp only [It.sh, P.sh] at hs
          have hv : v < 10 ^ 50 := hx.1
          have sv := fun st => str_i false (v := (v : Int)) (by omega) st
          rw [shN_nat] at sv
          have ad := fun st => add_s false (a := acc) (b := numL v) (by omega) st
          obtain ⟨s3', h⟩ := ih r (acc ++ numL v) f (some (P.all v).d) (by omega) (by omega) hr (by omega) (by omega) (by rw [List.length_append]; omega)
          refine ⟨s3', ?_⟩
          rw [while_t (env' := [s0, some (.str (mkS (acc ++ numL v))), some (.ref A.length), some (P.all v).d]) (st' := A ++ some (.lst (r.map It.d)) :: R) hc]
          · rw [h, List.append_assoc]; rfl
          · simp only [b__law_written_2]
            simp only [It.d, P.d] at hpop ⊢
            simp! [hpop, eq_all, sv, ad]
        | split v a b =>
          have hw1 : ([It.pa (.split v a b)].map It.wt).sum = 4 * (P.split v a b).sz := by simp [It.wt]
          simp only [P.sz] at hw1
          simp only [It.sh, P.sh, List.length_append, List.length_singleton] at hs
          have hv : v < 10 ^ 50 := hx.1.1
          have hd : max a.dp b.dp + 1 ≤ 120 := hx.2
          have sv := fun st => str_i false (v := (v : Int)) (by omega) st
          rw [shN_nat] at sv
          have ad := fun st => add_s false (a := acc) (b := numL v) (by omega) st
          have ad2 := fun st => add_s false (a := acc ++ numL v) (b := [40]) (by rw [List.length_append, List.length_singleton]; omega) st
          have hrl : r.length ≤ (r.map It.wt).sum := by
            clear hw hpop hc hW hl hs hr ih hok
            induction r with
            | nil => simp
            | cons y r ih =>
              rw [List.map_cons, List.sum_cons, List.length_cons]
              have : 1 ≤ y.wt := by
                cases y with
                | tx l => exact Nat.le_refl _
                | pa p => have := p.sz_pos; simp only [It.wt]; omega
              omega
          have ha1 := a.sz_pos
          have ws' : ((r ++ [It.tx [41], .pa b, .tx [44], .pa a]).map It.wt).sum = (r.map It.wt).sum + (1 + (4 * b.sz + (1 + 4 * a.sz))) := by
            rw [List.map_append, List.sum_append]; simp [It.wt]
          have os : outS (r ++ [It.tx [41], .pa b, .tx [44], .pa a]) = a.sh ++ [44] ++ b.sh ++ [41] ++ outS r := by rw [outS_app]; simp [outS, It.sh]
          obtain ⟨s3', h⟩ := ih (r ++ [It.tx [41], .pa b, .tx [44], .pa a]) (acc ++ numL v ++ [40]) f (some (P.split v a b).d) (by rw [ws']; omega) (by omega) (fun y hy => by
            rcases List.mem_append.mp hy with hy | hy
            · exact hr y hy
            · simp only [List.mem_cons, List.not_mem_nil, or_false] at hy
              rcases hy with rfl | rfl | rfl | rfl
              · exact .cons (by omega) .nil
              · exact ⟨hx.1.2.2, by omega⟩
              · exact .cons (by omega) .nil
              · exact ⟨hx.1.2.1, by omega⟩) (by rw [List.length_append]; simp only [List.length_cons, List.length_nil]; omega) (by omega) (by rw [os]; simp only [List.length_append, List.length_singleton]; omega)
          refine ⟨s3', ?_⟩
          rw [while_t (env' := [s0, some (.str (mkS (acc ++ numL v ++ [40]))), some (.ref A.length), some (P.split v a b).d]) (st' := A ++ some (.lst ((r ++ [It.tx [41], .pa b, .tx [44], .pa a]).map It.d)) :: R) hc]
          · rw [h, os]
            simp [It.sh, P.sh]
          · have ex := ext_lst A R (r.map It.d) [.str (mkS [41]), b.d, .str (mkS [44]), a.d] (by rw [List.length_map]; simp only [List.length_cons, List.length_nil]; omega)
            simp only [b__law_written_2]
            simp only [It.d, P.d] at hpop ⊢
            rw [show (r ++ [It.tx [41], .pa b, .tx [44], .pa a]).map It.d = r.map It.d ++ [.str (mkS [41]), b.d, .str (mkS [44]), a.d] by simp [It.d]]
            simp! [hpop, eq_split, sv, ad, ad2, z0, z1, z2, P.noref, ex]
theorem written_ok {i : Nat} (hi : Fs[i]? = some f__law_written) {p : P} (hf : p.fit) (hd : p.dp ≤ 120) (hs : p.sz ≤ 2000) (hl : p.sh.length ≤ 90000) (n : Nat) (st : Store) :
    (cf Fs (n + 1) i [p.d] st).bind (callEnd false st.length) = .ok (.str (mkS p.sh)) st := by
  rw [cf_at hi rfl]; simp only [f__law_written, t__law_written]
  have z : Str.ofString "" = mkS [] := by decide +kernel
  obtain ⟨s3', h⟩ := written_loop (cf Fs n) st [] (some p.d) (4 * p.sz) [.pa p] [] fuel none (by simp [It.wt]) (by unfold fuel; omega) (fun y hy => by
    rw [List.mem_singleton] at hy; subst hy; exact ⟨hf, hd⟩) (by simp) (by omega) (by simp [outS, It.sh]; omega)
  rw [show ([It.pa p].map It.d) = [p.d] from rfl, show ([] : List Nat) ++ outS [.pa p] = p.sh by simp [outS, It.sh]] at h
  simp! [x_swhile, z, P.noref, h]
theorem P.len : ∀ {p : P}, p.fit → p.sh.length ≤ 53 * p.sz
  | .all n, h => by
    have := numL_len (by omega) h
    simp only [P.sh, P.sz]; omega
  | .split n a b, h => by
    have := numL_len (by omega) h.1
    have := P.len h.2.1
    have := P.len h.2.2
    simp only [P.sh, P.sz, List.length_append, List.length_singleton]; omega
theorem joinL_asc {S : List Nat} (hS : Asc S) : ∀ {ws : List (List Nat)}, (∀ w ∈ ws, Asc w) → Asc (joinL S ws)
  | [], _ => .nil
  | [w], h => h w (by simp)
  | w :: v :: r, h => (h w (by simp)).app (hS.app (joinL_asc hS fun x hx => h x (List.mem_cons_of_mem _ hx)))
theorem joinL_len {S : List Nat} {k : Nat} : ∀ {ws : List (List Nat)}, (∀ w ∈ ws, w.length ≤ k) → (joinL S ws).length ≤ ws.length * (k + S.length)
  | [], _ => by simp [joinL]
  | [w], h => by have := h w (by simp); simp [joinL]; omega
  | w :: v :: r, h => by
    have h1 := h w (by simp)
    have h2 := joinL_len (S := S) (k := k) (ws := v :: r) fun x hx => h x (List.mem_cons_of_mem _ hx)
    have e : (w :: v :: r).length * (k + S.length) = (v :: r).length * (k + S.length) + (k + S.length) := by
      rw [show (w :: v :: r).length = (v :: r).length + 1 from rfl, Nat.succ_mul]
    have e2 : (joinL S (w :: v :: r)).length = w.length + (S.length + (joinL S (v :: r)).length) := by
      show (w ++ (S ++ joinL S (v :: r))).length = _
      rw [List.length_append, List.length_append]
    rw [e, e2]
    omega
end
end Zn.RU

/-! ### the trees of the text -/
namespace Tx
open PySem PySem.Spec PyProof.Rows L2 Zn
def topS (i : Nat) : Stmt := PySem.Challenge.pw_manyleast_k57_texts_written_and_read.main.body.getD i (.Pass ⟨0, 0, 0, 0⟩)
def t_show_number : T :=
  (.cons (.sret (.blt .str false (.cons (.var 0) .nil))) .nil)
def f_show_number : Fn := ⟨"show_number", ["number"], ["number"], t_show_number⟩
def e_show_row_1 : T := (.call 0 false (.cons (.var 1) .nil))
def t_show_row : T :=
  (.cons (.sret (.smth 0 false (.con (.str " ")) (.comp false (.sit (.var 0)) (.tnm 1) [("number", 1)] .no e_show_row_1))) .nil)
def f_show_row : Fn := ⟨"show_row", ["row"], ["row", "number"], t_show_row⟩
def t_show_paper : T :=
  (.cons (.sif (.cmp .Eq (.sub (.var 0) (.con (.int 0))) (.con (.str "all"))) (.cons (.sret (.call 0 false (.cons (.sub (.var 0) (.con (.int 1))) .nil))) .nil) .nil) (.cons (.sret (.bin false .Add (.bin false .Add (.bin false .Add (.bin false .Add (.bin false .Add (.call 0 false (.cons (.sub (.var 0) (.con (.int 1))) .nil)) (.con (.str "("))) (.call 2 false (.cons (.sub (.var 0) (.con (.int 2))) .nil))) (.con (.str ","))) (.call 2 false (.cons (.sub (.var 0) (.con (.int 3))) .nil))) (.con (.str ")")))) .nil))
def f_show_paper : Fn := ⟨"show_paper", ["paper"], ["paper"], t_show_paper⟩
def e_is_many_1 : T := (.cmp .In (.var 1) (.gsv 21 "0123456789"))
def t_is_many : T :=
  (.cons (.sif (.bop .Or (.cons (.nt (.cmp2 .LtE .LtE (.con (.int 1)) (.blt .len false (.cons (.var 0) .nil)) (.gi 22 (50)))) (.cons (.bop .And (.cons (.cmp .Eq (.sub (.var 0) (.con (.int 0))) (.con (.str "0"))) (.cons (.cmp .NotEq (.var 0) (.con (.str "0"))) .nil))) .nil))) (.cons (.sret (.con (.bl false))) .nil) .nil) (.cons (.sret (.blt .all false (.cons (.comp false (.sit (.var 0)) (.tnm 1) [("sign", 1)] .no e_is_many_1) .nil))) .nil))
def f_is_many : Fn := ⟨"is_many", ["text"], ["text", "sign"], t_is_many⟩
def t_read_number : T :=
  (.cons (.sif (.nt (.isi (.var 0) "str")) (.cons .sdead .nil) .nil) (.cons (.sif (.call 3 false (.cons (.var 0) .nil)) (.cons (.sret (.blt .int false (.cons (.var 0) .nil))) .nil) .nil) (.cons (.sif (.bop .Or (.cons (.cmp .NotEq (.slc false (.var 0) .no (.so (.con (.int 1)))) (.con (.str "-"))) (.cons (.cmp .Eq (.var 0) (.con (.str "-0"))) (.cons (.nt (.call 3 false (.cons (.slc false (.var 0) (.so (.con (.int 1))) .no) .nil))) .nil)))) (.cons .sdead .nil) .nil) (.cons (.sret (.neg (.blt .int false (.cons (.slc false (.var 0) (.so (.con (.int 1))) .no) .nil)))) .nil))))
def f_read_number : Fn := ⟨"read_number", ["text"], ["text"], t_read_number⟩
def e_read_row_1 : T := (.call 4 false (.cons (.var 1) .nil))
def t_read_row : T :=
  (.cons (.sif (.nt (.isi (.var 0) "str")) (.cons .sdead .nil) .nil) (.cons (.sif (.cmp .Eq (.var 0) (.con (.str ""))) (.cons (.sret (.lst true .nil)) .nil) .nil) (.cons (.sret (.comp true (.sit (.smth 1 false (.var 0) (.con (.str " ")))) (.tnm 1) [("word", 1)] .no e_read_row_1)) .nil)))
def f_read_row : Fn := ⟨"read_row", ["text"], ["text", "word"], t_read_row⟩
def w_figures_from_1 : T := (.bop .And (.cons (.cmp .Lt (.var 2) (.blt .len false (.cons (.var 0) .nil))) (.cons (.cmp .In (.sub (.var 0) (.var 2)) (.gsv 21 "0123456789")) .nil)))
def b_figures_from_2 : T := (.cons (.sset (.tnm 2) (.bin false .Add (.var 2) (.con (.int 1)))) .nil)
def t_figures_from : T :=
  (.cons (.sset (.tnm 2) (.var 1)) (.cons (.swhile w_figures_from_1 b_figures_from_2) (.cons (.sret (.slc false (.var 0) (.so (.var 1)) (.so (.var 2)))) .nil)))
def f_figures_from : Fn := ⟨"figures_from", ["text", "at"], ["text", "at", "end"], t_figures_from⟩
def t_sign_at : T :=
  (.cons (.sif (.cmp .NotEq (.slc false (.var 0) (.so (.var 1)) (.so (.bin false .Add (.var 1) (.con (.int 1))))) (.var 2)) (.cons .sdead .nil) .nil) .nil)
def f_sign_at : Fn := ⟨"sign_at", ["text", "at", "sign"], ["text", "at", "sign"], t_sign_at⟩
def t_read_part : T :=
  (.cons (.sset (.tnm 3) (.call 6 false (.cons (.var 0) (.cons (.var 1) .nil)))) (.cons (.sif (.bop .Or (.cons (.nt (.call 3 false (.cons (.var 3) .nil))) (.cons (.cmp .Gt (.var 2) (.gi 23 (100))) .nil))) (.cons .sdead .nil) .nil) (.cons (.sset (.tnm 4) (.bin false .Add (.var 1) (.blt .len false (.cons (.var 3) .nil)))) (.cons (.sif (.cmp .NotEq (.slc false (.var 0) (.so (.var 4)) (.so (.bin false .Add (.var 4) (.con (.int 1))))) (.con (.str "("))) (.cons (.sret (.tup (.cons (.tup (.cons (.con (.str "all")) (.cons (.blt .int false (.cons (.var 3) .nil)) .nil))) (.cons (.var 4) .nil)))) .nil) .nil) (.cons (.sset (.ttp (.cons (.tnm 5) (.cons (.tnm 6) .nil))) (.call 8 false (.cons (.var 0) (.cons (.bin false .Add (.var 4) (.con (.int 1))) (.cons (.bin false .Add (.var 2) (.con (.int 1))) .nil))))) (.cons (.sexp (.call 7 false (.cons (.var 0) (.cons (.var 6) (.cons (.con (.str ",")) .nil))))) (.cons (.sset (.ttp (.cons (.tnm 7) (.cons (.tnm 8) .nil))) (.call 8 false (.cons (.var 0) (.cons (.bin false .Add (.var 6) (.con (.int 1))) (.cons (.bin false .Add (.var 2) (.con (.int 1))) .nil))))) (.cons (.sexp (.call 7 false (.cons (.var 0) (.cons (.var 8) (.cons (.con (.str ")")) .nil))))) (.cons (.sret (.tup (.cons (.tup (.cons (.con (.str "split")) (.cons (.blt .int false (.cons (.var 3) .nil)) (.cons (.var 5) (.cons (.var 7) .nil))))) (.cons (.bin false .Add (.var 8) (.con (.int 1))) .nil)))) .nil)))))))))
def f_read_part : Fn := ⟨"read_part", ["text", "at", "deep"], ["text", "at", "deep", "figures", "behind", "lower", "comma", "upper", "last"], t_read_part⟩
def t_read_paper : T :=
  (.cons (.sif (.nt (.isi (.var 0) "str")) (.cons .sdead .nil) .nil) (.cons (.sset (.ttp (.cons (.tnm 1) (.cons (.tnm 2) .nil))) (.call 8 false (.cons (.var 0) (.cons (.con (.int 0)) (.cons (.con (.int 0)) .nil))))) (.cons (.sif (.cmp .NotEq (.var 2) (.blt .len false (.cons (.var 0) .nil))) (.cons .sdead .nil) .nil) (.cons (.sret (.var 1)) .nil))))
def f_read_paper : Fn := ⟨"read_paper", ["text"], ["text", "found", "last"], t_read_paper⟩
def t__law_cell : T :=
  (.cons (.sif (.cmp .Lt (.var 1) (.blt .len false (.cons (.var 0) .nil))) (.cons (.sret (.sub (.var 0) (.var 1))) .nil) .nil) (.cons (.sset (.tnm 2) (.bin false .Add (.bin false .Mult (.var 1) (.con (.int 7919))) (.con (.int 5)))) (.cons (.sif (.cmp .Gt (.blt .len false (.cons (.var 0) .nil)) (.con (.int 0))) (.cons (.sset (.tnm 2) (.bin false .Add (.bin false .Mult (.bin false .Mod (.sub (.var 0) (.bin false .Mod (.bin false .Mult (.var 1) (.con (.int 7))) (.blt .len false (.cons (.var 0) .nil)))) (.con (.int 2147483647))) (.con (.int 48271))) (.bin false .Mult (.var 1) (.con (.int 7919))))) .nil) .nil) (.cons (.sret (.bin false .Mod (.bin false .Mult (.var 2) (.var 2)) (.con (.int 2147483629)))) .nil))))
def f__law_cell : Fn := ⟨"_law_cell", ["_law_script", "_law_k"], ["_law_script", "_law_k", "_law_number_here"], t__law_cell⟩
def t__law_pen : T :=
  (.cons (.sret (.lst true (.cons (.var 0) (.cons (.con (.int 0)) .nil)))) .nil)
def f__law_pen : Fn := ⟨"_law_pen", ["_law_cell_here"], ["_law_cell_here"], t__law_pen⟩
def t__law_take : T :=
  (.cons (.sif (.bop .Or (.cons (.cmp .Lt (.sub (.var 0) (.con (.int 1))) (.con (.int 0))) (.cons (.bop .And (.cons (.cmp .Eq (.sub (.var 0) (.con (.int 1))) (.con (.int 0))) (.cons (.cmp .GtE (.sub (.var 0) (.con (.int 0))) (.bin false .Pow (.con (.int 10)) (.con (.int 18)))) .nil))) .nil))) (.cons (.sset (.tix (.var 0) (.con (.int 1))) (.neg (.con (.int 1)))) (.cons (.sset (.tnm 3) (.bin false .Mod (.sub (.var 0) (.con (.int 0))) (.var 1))) (.cons (.sset (.tix (.var 0) (.con (.int 0))) (.bin false .FloorDiv (.sub (.var 0) (.con (.int 0))) (.var 1))) (.cons (.sret (.var 3)) .nil)))) .nil) (.cons (.sset (.tix (.var 0) (.con (.int 1))) (.bin false .Add (.sub (.var 0) (.con (.int 1))) (.con (.int 1)))) (.cons (.sset (.tnm 2) (.bin false .Mod (.bin false .Add (.bin false .Add (.bin false .Mod (.sub (.var 0) (.con (.int 0))) (.con (.int 2147483647))) (.bin false .Mult (.con (.int 40503)) (.sub (.var 0) (.con (.int 1))))) (.con (.int 11))) (.con (.int 2147483629)))) (.cons (.sset (.tnm 2) (.bin false .Mod (.bin false .Mult (.var 2) (.bin false .Add (.var 2) (.con (.int 48271)))) (.con (.int 2147483587)))) (.cons (.sret (.bin false .Mod (.bin false .FloorDiv (.bin false .Mod (.bin false .Mult (.var 2) (.bin false .Add (.var 2) (.con (.int 69621)))) (.con (.int 2305843009213693951))) (.con (.int 5))) (.var 1))) .nil)))))
def f__law_take : Fn := ⟨"_law_take", ["_law_pen_here", "_law_size"], ["_law_pen_here", "_law_size", "_law_number_here", "_law_digit"], t__law_take⟩
def t__law_is_number : T :=
  (.cons (.sret (.bop .And (.cons (.isi (.var 0) "int") (.cons (.nt (.isi (.var 0) "bool")) .nil)))) .nil)
def f__law_is_number : Fn := ⟨"_law_is_number", ["_law_thing"], ["_law_thing"], t__law_is_number⟩
def t__law_many : T :=
  (.cons (.sret (.sub (.lst false (.cons (.call 12 false (.cons (.var 0) (.cons (.con (.int 10)) .nil))) (.cons (.call 12 false (.cons (.var 0) (.cons (.con (.int 1000)) .nil))) (.cons (.bin false .Add (.bin false .Mult (.call 12 false (.cons (.var 0) (.cons (.bin false .Pow (.con (.int 10)) (.con (.int 17))) .nil))) (.bin false .Pow (.con (.int 10)) (.con (.int 33)))) (.con (.int 7))) (.cons (.con (.int 0)) .nil))))) (.call 12 false (.cons (.var 0) (.cons (.con (.int 4)) .nil))))) .nil)
def f__law_many : Fn := ⟨"_law_many", ["_law_pen_here"], ["_law_pen_here"], t__law_many⟩
def t__law_paper : T :=
  (.cons (.sif (.bop .Or (.cons (.cmp .Eq (.var 1) (.con (.int 0))) (.cons (.cmp .Eq (.call 12 false (.cons (.var 0) (.cons (.con (.int 3)) .nil))) (.con (.int 0))) .nil))) (.cons (.sret (.tup (.cons (.con (.str "all")) (.cons (.call 14 false (.cons (.var 0) .nil)) .nil)))) .nil) .nil) (.cons (.sset (.tnm 2) (.call 14 false (.cons (.var 0) .nil))) (.cons (.sset (.tnm 3) (.call 15 false (.cons (.var 0) (.cons (.bin false .Sub (.var 1) (.con (.int 1))) .nil)))) (.cons (.sret (.tup (.cons (.con (.str "split")) (.cons (.var 2) (.cons (.var 3) (.cons (.call 15 false (.cons (.var 0) (.cons (.bin false .Sub (.var 1) (.con (.int 1))) .nil))) .nil)))))) .nil))))
def f__law_paper : Fn := ⟨"_law_paper", ["_law_pen_here", "_law_deep"], ["_law_pen_here", "_law_deep", "_law_many_here", "_law_lower"], t__law_paper⟩
def b__law_chain_1 : T := (.cons (.sset (.tnm 4) (.lst false (.cons (.var 2) (.cons (.tup (.cons (.con (.str "all")) (.cons (.call 12 false (.cons (.var 0) (.cons (.con (.int 10)) .nil))) .nil))) .nil)))) (.cons (.sif (.cmp .Eq (.call 12 false (.cons (.var 0) (.cons (.con (.int 2)) .nil))) (.con (.int 0))) (.cons (.sset (.tnm 4) (.rev false (.var 4))) .nil) .nil) (.cons (.sset (.tnm 2) (.tup (.cons (.con (.str "split")) (.cons (.call 12 false (.cons (.var 0) (.cons (.con (.int 100)) .nil))) (.cons (.sub (.var 4) (.con (.int 0))) (.cons (.sub (.var 4) (.con (.int 1))) .nil)))))) .nil)))
def t__law_chain : T :=
  (.cons (.sset (.tnm 2) (.tup (.cons (.con (.str "all")) (.cons (.call 14 false (.cons (.var 0) .nil)) .nil)))) (.cons (.sfor (.srng 1 (.cons (.var 1) .nil)) (.tnm 3) b__law_chain_1) (.cons (.sret (.var 2)) .nil)))
def f__law_chain : Fn := ⟨"_law_chain", ["_law_pen_here", "_law_deep"], ["_law_pen_here", "_law_deep", "_law_found", "_law_k", "_law_halves"], t__law_chain⟩
def w__law_written_1 : T := (.cmp .NotEq (.var 2) (.lst false .nil))
def b__law_written_2 : T := (.cons (.sset (.tnm 3) (.mth .pop (.var 2) .nil)) (.cons (.sif (.isi (.var 3) "str") (.cons (.sset (.tnm 1) (.bin false .Add (.var 1) (.var 3))) .nil) (.cons (.sif (.cmp .Eq (.sub (.var 3) (.con (.int 0))) (.con (.str "all"))) (.cons (.sset (.tnm 1) (.bin false .Add (.var 1) (.blt .str false (.cons (.sub (.var 3) (.con (.int 1))) .nil)))) .nil) (.cons (.sset (.tnm 1) (.bin false .Add (.bin false .Add (.var 1) (.blt .str false (.cons (.sub (.var 3) (.con (.int 1))) .nil))) (.con (.str "(")))) (.cons (.sexp (.mth .extend (.var 2) (.cons (.lst false (.cons (.con (.str ")")) (.cons (.sub (.var 3) (.con (.int 3))) (.cons (.con (.str ",")) (.cons (.sub (.var 3) (.con (.int 2))) .nil))))) .nil))) .nil))) .nil)) .nil))
def t__law_written : T :=
  (.cons (.sset (.tnm 1) (.con (.str ""))) (.cons (.sset (.tnm 2) (.lst true (.cons (.var 0) .nil))) (.cons (.swhile w__law_written_1 b__law_written_2) (.cons (.sret (.var 1)) .nil))))
def f__law_written : Fn := ⟨"_law_written", ["_law_paper_here"], ["_law_paper_here", "_law_found", "_law_waiting", "_law_one"], t__law_written⟩
def t__law_number : T :=
  (.cons (.sset (.tnm 1) (.call 14 false (.cons (.var 0) .nil))) (.cons (.sret (.sub (.lst false (.cons (.var 1) (.cons (.bin false .Sub (.con (.int 0)) (.var 1)) .nil))) (.call 12 false (.cons (.var 0) (.cons (.con (.int 2)) .nil))))) .nil))
def f__law_number : Fn := ⟨"_law_number", ["_law_pen_here"], ["_law_pen_here", "_law_many_here"], t__law_number⟩
def w__law_right_1 : T := (.cmp .NotEq (.var 1) (.lst false .nil))
def b__law_right_2 : T := (.cons (.sset (.tnm 2) (.mth .pop (.var 1) .nil)) (.cons (.sif (.bop .Or (.cons (.nt (.isi (.var 2) "tuple")) (.cons (.nt (.call 13 false (.cons (.sub (.var 2) (.con (.int 1))) .nil))) .nil))) (.cons (.sret (.con (.bl false))) .nil) .nil) (.cons (.sexp (.mth .extend (.var 1) (.cons (.slc false (.var 2) (.so (.con (.int 2))) .no) .nil))) .nil)))
def t__law_right : T :=
  (.cons (.sset (.tnm 1) (.lst true (.cons (.var 0) .nil))) (.cons (.swhile w__law_right_1 b__law_right_2) (.cons (.sret (.con (.bl true))) .nil)))
def f__law_right : Fn := ⟨"_law_right", ["_law_paper_here"], ["_law_paper_here", "_law_waiting", "_law_one"], t__law_right⟩
def e_law_1 : T := (.call 18 false (.cons (.var 2) .nil))
def b_law_2 : T := (.cons (.sif (.bop .Or (.cons (.cmp .NotEq (.call 0 false (.cons (.var 4) .nil)) (.blt .str false (.cons (.var 4) .nil))) (.cons (.cmp .NotEq (.call 4 false (.cons (.blt .str false (.cons (.var 4) .nil)) .nil)) (.var 4)) .nil))) (.cons (.sret (.con (.bl false))) .nil) .nil) (.cons (.sif (.nt (.call 13 false (.cons (.call 4 false (.cons (.blt .str false (.cons (.var 4) .nil)) .nil)) .nil))) (.cons (.sret (.con (.bl false))) .nil) .nil) .nil))
def e_law_3 : T := (.blt .str false (.cons (.var 4) .nil))
def b_law_4 : T := (.cons (.sset (.tnm 2) (.call 11 true (.cons (.call 10 false (.cons (.var 0) (.cons (.var 1) .nil))) .nil))) (.cons (.sset (.tnm 3) (.comp false (.srng 1 (.cons (.call 12 false (.cons (.var 2) (.cons (.con (.int 31)) .nil))) .nil)) (.tnm 9) [("_law_k", 9)] .no e_law_1)) (.cons (.sfor (.sit (.bin false .Add (.var 3) (.lst false (.cons (.con (.int 0)) .nil)))) (.tnm 4) b_law_2) (.cons (.sset (.tnm 5) (.smth 0 false (.con (.str " ")) (.comp false (.sit (.var 3)) (.tnm 4) [("_law_number_here", 4)] .no e_law_3))) (.cons (.sset (.tnm 6) (.blt .list false (.cons (.var 3) .nil))) (.cons (.sset (.tnm 7) (.call 5 true (.cons (.var 5) .nil))) (.cons (.sif (.bop .Or (.cons (.cmp .NotEq (.call 1 false (.cons (.var 6) .nil)) (.var 5)) (.cons (.cmp .NotEq (.var 6) (.var 3)) (.cons (.nt (.isi (.var 7) "list")) (.cons (.cmp .NotEq (.var 7) (.var 3)) .nil))))) (.cons (.sret (.con (.bl false))) .nil) .nil) (.cons (.sexp (.mth .append (.var 7) (.cons (.con (.int 1)) .nil))) (.cons (.sif (.bop .Or (.cons (.cmp .NotEq (.call 5 false (.cons (.var 5) .nil)) (.var 3)) (.cons (.cmp .NotEq (.call 5 false (.cons (.con (.str "")) .nil)) (.lst false .nil)) (.cons (.cmp .NotEq (.call 1 false (.cons (.lst false .nil) .nil)) (.con (.str ""))) .nil)))) (.cons (.sret (.con (.bl false))) .nil) .nil) (.cons (.sset (.tnm 8) (.call 15 false (.cons (.var 2) (.cons (.con (.int 4)) .nil)))) (.cons (.sif (.cmp .Eq (.call 12 false (.cons (.var 2) (.cons (.con (.int 4)) .nil))) (.con (.int 0))) (.cons (.sset (.tnm 8) (.call 16 false (.cons (.var 2) (.cons (.sub (.lst false (.cons (.con (.int 100)) (.cons (.con (.int 99)) (.cons (.con (.int 1)) (.cons (.call 12 false (.cons (.var 2) (.cons (.con (.int 101)) .nil))) .nil))))) (.call 12 false (.cons (.var 2) (.cons (.con (.int 4)) .nil)))) .nil)))) .nil) .nil) (.cons (.sset (.tnm 5) (.call 17 false (.cons (.var 8) .nil))) (.cons (.sif (.bop .Or (.cons (.cmp .NotEq (.call 2 false (.cons (.var 8) .nil)) (.var 5)) (.cons (.cmp .NotEq (.call 9 false (.cons (.var 5) .nil)) (.var 8)) (.cons (.nt (.call 19 false (.cons (.call 9 false (.cons (.var 5) .nil)) .nil))) .nil)))) (.cons (.sret (.con (.bl false))) .nil) .nil) .nil)))))))))))))
def t_law : T :=
  (.cons (.sfor (.srng 1 (.cons (.con (.int 3)) .nil)) (.tnm 1) b_law_4) (.cons (.sret (.con (.bl true))) .nil))
def f_law : Fn := ⟨"law", ["_law_script"], ["_law_script", "_law_turn", "_law_pen_here", "_law_row", "_law_number_here", "_law_text", "_law_handed", "_law_found", "_law_paper_here", "_law_k"], t_law⟩
def f_FIGURES : Fn := ⟨"FIGURES", [], [], .con (.str "0123456789")⟩
def f_MOST_FIGURES : Fn := ⟨"MOST_FIGURES", [], [], .con (.int (50))⟩
def f_DEEPEST : Fn := ⟨"DEEPEST", [], [], .con (.int (100))⟩
def Fs : List Fn := [f_show_number, f_show_row, f_show_paper, f_is_many, f_read_number, f_read_row, f_figures_from, f_sign_at, f_read_part, f_read_paper, f__law_cell, f__law_pen, f__law_take, f__law_is_number, f__law_many, f__law_paper, f__law_chain, f__law_written, f__law_number, f__law_right, f_law, f_FIGURES, f_MOST_FIGURES, f_DEEPEST]
abbrev C (n f : Nat) (ds : List D) (st : Store) : Res D := cf Fs n f ds st
def i_show_number : Nat := 0
def i_show_row : Nat := 1
def i_show_paper : Nat := 2
def i_is_many : Nat := 3
def i_read_number : Nat := 4
def i_read_row : Nat := 5
def i_figures_from : Nat := 6
def i_sign_at : Nat := 7
def i_read_part : Nat := 8
def i_read_paper : Nat := 9
def i__law_cell : Nat := 10
def i__law_pen : Nat := 11
def i__law_take : Nat := 12
def i__law_is_number : Nat := 13
def i__law_many : Nat := 14
def i__law_paper : Nat := 15
def i__law_chain : Nat := 16
def i__law_written : Nat := 17
def i__law_number : Nat := 18
def i__law_right : Nat := 19
def i_law : Nat := 20
def i_FIGURES : Nat := 21
def i_MOST_FIGURES : Nat := 22
def i_DEEPEST : Nat := 23
end Tx


/-! ### the text has these trees; the end -/
namespace Tx
open PySem PySem.Spec PyProof.Rows L2 Zn
theorem s_show_number : FnScope f_show_number.N f_show_number.ps (defScope (topS 7)) := ⟨rfl, rfl, rfl, by decide +kernel, rfl, by decide +kernel, by decide +kernel⟩
theorem c_show_number : chkSs f_show_number.N Fs (defScope (topS 7)) f_show_number.body (defBody (topS 7)) = true := by decide +kernel
theorem s_show_row : FnScope f_show_row.N f_show_row.ps (defScope (topS 8)) := ⟨rfl, rfl, rfl, by decide +kernel, rfl, by decide +kernel, by decide +kernel⟩
theorem c_show_row : chkSs f_show_row.N Fs (defScope (topS 8)) f_show_row.body (defBody (topS 8)) = true := by decide +kernel
theorem s_show_paper : FnScope f_show_paper.N f_show_paper.ps (defScope (topS 9)) := ⟨rfl, rfl, rfl, by decide +kernel, rfl, by decide +kernel, by decide +kernel⟩
theorem c_show_paper : chkSs f_show_paper.N Fs (defScope (topS 9)) f_show_paper.body (defBody (topS 9)) = true := by decide +kernel
theorem s_is_many : FnScope f_is_many.N f_is_many.ps (defScope (topS 10)) := ⟨rfl, rfl, rfl, by decide +kernel, rfl, by decide +kernel, by decide +kernel⟩
theorem c_is_many : chkSs f_is_many.N Fs (defScope (topS 10)) f_is_many.body (defBody (topS 10)) = true := by decide +kernel
theorem s_read_number : FnScope f_read_number.N f_read_number.ps (defScope (topS 11)) := ⟨rfl, rfl, rfl, by decide +kernel, rfl, by decide +kernel, by decide +kernel⟩
theorem c_read_number : chkSs f_read_number.N Fs (defScope (topS 11)) f_read_number.body (defBody (topS 11)) = true := by decide +kernel
theorem s_read_row : FnScope f_read_row.N f_read_row.ps (defScope (topS 12)) := ⟨rfl, rfl, rfl, by decide +kernel, rfl, by decide +kernel, by decide +kernel⟩
theorem c_read_row : chkSs f_read_row.N Fs (defScope (topS 12)) f_read_row.body (defBody (topS 12)) = true := by decide +kernel
theorem s_figures_from : FnScope f_figures_from.N f_figures_from.ps (defScope (topS 13)) := ⟨rfl, rfl, rfl, by decide +kernel, rfl, by decide +kernel, by decide +kernel⟩
theorem c_figures_from : chkSs f_figures_from.N Fs (defScope (topS 13)) f_figures_from.body (defBody (topS 13)) = true := by decide +kernel
theorem s_sign_at : FnScope f_sign_at.N f_sign_at.ps (defScope (topS 14)) := ⟨rfl, rfl, rfl, by decide +kernel, rfl, by decide +kernel, by decide +kernel⟩
theorem c_sign_at : chkSs f_sign_at.N Fs (defScope (topS 14)) f_sign_at.body (defBody (topS 14)) = true := by decide +kernel
theorem s_read_part : FnScope f_read_part.N f_read_part.ps (defScope (topS 15)) := ⟨rfl, rfl, rfl, by decide +kernel, rfl, by decide +kernel, by decide +kernel⟩
theorem c_read_part : chkSs f_read_part.N Fs (defScope (topS 15)) f_read_part.body (defBody (topS 15)) = true := by decide +kernel
theorem s_read_paper : FnScope f_read_paper.N f_read_paper.ps (defScope (topS 16)) := ⟨rfl, rfl, rfl, by decide +kernel, rfl, by decide +kernel, by decide +kernel⟩
theorem c_read_paper : chkSs f_read_paper.N Fs (defScope (topS 16)) f_read_paper.body (defBody (topS 16)) = true := by decide +kernel
theorem s__law_cell : FnScope f__law_cell.N f__law_cell.ps (defScope (topS 18)) := ⟨rfl, rfl, rfl, by decide +kernel, rfl, by decide +kernel, by decide +kernel⟩
theorem c__law_cell : chkSs f__law_cell.N Fs (defScope (topS 18)) f__law_cell.body (defBody (topS 18)) = true := by decide +kernel
theorem s__law_pen : FnScope f__law_pen.N f__law_pen.ps (defScope (topS 19)) := ⟨rfl, rfl, rfl, by decide +kernel, rfl, by decide +kernel, by decide +kernel⟩
theorem c__law_pen : chkSs f__law_pen.N Fs (defScope (topS 19)) f__law_pen.body (defBody (topS 19)) = true := by decide +kernel
theorem s__law_take : FnScope f__law_take.N f__law_take.ps (defScope (topS 20)) := ⟨rfl, rfl, rfl, by decide +kernel, rfl, by decide +kernel, by decide +kernel⟩
theorem c__law_take : chkSs f__law_take.N Fs (defScope (topS 20)) f__law_take.body (defBody (topS 20)) = true := by decide +kernel
theorem s__law_is_number : FnScope f__law_is_number.N f__law_is_number.ps (defScope (topS 21)) := ⟨rfl, rfl, rfl, by decide +kernel, rfl, by decide +kernel, by decide +kernel⟩
theorem c__law_is_number : chkSs f__law_is_number.N Fs (defScope (topS 21)) f__law_is_number.body (defBody (topS 21)) = true := by decide +kernel
theorem s__law_many : FnScope f__law_many.N f__law_many.ps (defScope (topS 22)) := ⟨rfl, rfl, rfl, by decide +kernel, rfl, by decide +kernel, by decide +kernel⟩
theorem c__law_many : chkSs f__law_many.N Fs (defScope (topS 22)) f__law_many.body (defBody (topS 22)) = true := by decide +kernel
theorem s__law_paper : FnScope f__law_paper.N f__law_paper.ps (defScope (topS 23)) := ⟨rfl, rfl, rfl, by decide +kernel, rfl, by decide +kernel, by decide +kernel⟩
theorem c__law_paper : chkSs f__law_paper.N Fs (defScope (topS 23)) f__law_paper.body (defBody (topS 23)) = true := by decide +kernel
theorem s__law_chain : FnScope f__law_chain.N f__law_chain.ps (defScope (topS 24)) := ⟨rfl, rfl, rfl, by decide +kernel, rfl, by decide +kernel, by decide +kernel⟩
theorem c__law_chain : chkSs f__law_chain.N Fs (defScope (topS 24)) f__law_chain.body (defBody (topS 24)) = true := by decide +kernel
theorem s__law_written : FnScope f__law_written.N f__law_written.ps (defScope (topS 25)) := ⟨rfl, rfl, rfl, by decide +kernel, rfl, by decide +kernel, by decide +kernel⟩
theorem c__law_written : chkSs f__law_written.N Fs (defScope (topS 25)) f__law_written.body (defBody (topS 25)) = true := by decide +kernel
theorem s__law_number : FnScope f__law_number.N f__law_number.ps (defScope (topS 26)) := ⟨rfl, rfl, rfl, by decide +kernel, rfl, by decide +kernel, by decide +kernel⟩
theorem c__law_number : chkSs f__law_number.N Fs (defScope (topS 26)) f__law_number.body (defBody (topS 26)) = true := by decide +kernel
theorem s__law_right : FnScope f__law_right.N f__law_right.ps (defScope (topS 27)) := ⟨rfl, rfl, rfl, by decide +kernel, rfl, by decide +kernel, by decide +kernel⟩
theorem c__law_right : chkSs f__law_right.N Fs (defScope (topS 27)) f__law_right.body (defBody (topS 27)) = true := by decide +kernel
theorem s_law : FnScope f_law.N f_law.ps (defScope (topS 28)) := ⟨rfl, rfl, rfl, by decide +kernel, rfl, by decide +kernel, by decide +kernel⟩
theorem c_law : chkSs f_law.N Fs (defScope (topS 28)) f_law.body (defBody (topS 28)) = true := by decide +kernel
set_option maxHeartbeats 0 in
theorem tab {K : PySem.W.Frag} {h : Heap} {mg : Str → Option Value} (X : K.In h) (G : h.Ns mainGlobals mg)
    {f0 f1 f2 f3 f4 f5 f6 f7 f8 f9 f10 f11 f12 f13 f14 f15 f16 f17 f18 f19 f20 : Addr} {od0 an0 od1 an1 od2 an2 od3 an3 od4 an4 od5 an5 od6 an6 od7 an7 od8 an8 od9 an9 od10 an10 od11 an11 od12 an12 od13 an13 od14 an14 od15 an15 od16 an16 od17 an17 od18 an18 od19 an19 od20 an20 : Option Addr} {sl0 sl1 sl2 sl3 sl4 sl5 sl6 sl7 sl8 sl9 sl10 sl11 sl12 sl13 sl14 sl15 sl16 sl17 sl18 sl19 sl20 : Array (Option Value)} {oc0 kV0 dc0 pm0 cd0 ct0 oc1 kV1 dc1 pm1 cd1 ct1 oc2 kV2 dc2 pm2 cd2 ct2 oc3 kV3 dc3 pm3 cd3 ct3 oc4 kV4 dc4 pm4 cd4 ct4 oc5 kV5 dc5 pm5 cd5 ct5 oc6 kV6 dc6 pm6 cd6 ct6 oc7 kV7 dc7 pm7 cd7 ct7 oc8 kV8 dc8 pm8 cd8 ct8 oc9 kV9 dc9 pm9 cd9 ct9 oc10 kV10 dc10 pm10 cd10 ct10 oc11 kV11 dc11 pm11 cd11 ct11 oc12 kV12 dc12 pm12 cd12 ct12 oc13 kV13 dc13 pm13 cd13 ct13 oc14 kV14 dc14 pm14 cd14 ct14 oc15 kV15 dc15 pm15 cd15 ct15 oc16 kV16 dc16 pm16 cd16 ct16 oc17 kV17 dc17 pm17 cd17 ct17 oc18 kV18 dc18 pm18 cd18 ct18 oc19 kV19 dc19 pm19 cd19 ct19 oc20 kV20 dc20 pm20 cd20 ct20 : Value}
    (a0 : PySem.W.nsIn K mainGlobals "show_number" = some (some (.ref f0))) (l0 : K.lookup f0 = some ⟨oc0, od0, .func (PySem.W.fnOf "show_number" "show_number" (defArgs (topS 7)) (defBody (topS 7)) (defScope (topS 7)) .none kV0 dc0 pm0 an0 cd0 ct0), sl0⟩) (c0 : PySem.W.codeIn K cd0 "show_number" = true) (k0 : PySem.W.keepIn K (.ref f0) = true)
    (a1 : PySem.W.nsIn K mainGlobals "show_row" = some (some (.ref f1))) (l1 : K.lookup f1 = some ⟨oc1, od1, .func (PySem.W.fnOf "show_row" "show_row" (defArgs (topS 8)) (defBody (topS 8)) (defScope (topS 8)) .none kV1 dc1 pm1 an1 cd1 ct1), sl1⟩) (c1 : PySem.W.codeIn K cd1 "show_row" = true) (k1 : PySem.W.keepIn K (.ref f1) = true)
    (a2 : PySem.W.nsIn K mainGlobals "show_paper" = some (some (.ref f2))) (l2 : K.lookup f2 = some ⟨oc2, od2, .func (PySem.W.fnOf "show_paper" "show_paper" (defArgs (topS 9)) (defBody (topS 9)) (defScope (topS 9)) .none kV2 dc2 pm2 an2 cd2 ct2), sl2⟩) (c2 : PySem.W.codeIn K cd2 "show_paper" = true) (k2 : PySem.W.keepIn K (.ref f2) = true)
    (a3 : PySem.W.nsIn K mainGlobals "is_many" = some (some (.ref f3))) (l3 : K.lookup f3 = some ⟨oc3, od3, .func (PySem.W.fnOf "is_many" "is_many" (defArgs (topS 10)) (defBody (topS 10)) (defScope (topS 10)) .none kV3 dc3 pm3 an3 cd3 ct3), sl3⟩) (c3 : PySem.W.codeIn K cd3 "is_many" = true) (k3 : PySem.W.keepIn K (.ref f3) = true)
    (a4 : PySem.W.nsIn K mainGlobals "read_number" = some (some (.ref f4))) (l4 : K.lookup f4 = some ⟨oc4, od4, .func (PySem.W.fnOf "read_number" "read_number" (defArgs (topS 11)) (defBody (topS 11)) (defScope (topS 11)) .none kV4 dc4 pm4 an4 cd4 ct4), sl4⟩) (c4 : PySem.W.codeIn K cd4 "read_number" = true) (k4 : PySem.W.keepIn K (.ref f4) = true)
    (a5 : PySem.W.nsIn K mainGlobals "read_row" = some (some (.ref f5))) (l5 : K.lookup f5 = some ⟨oc5, od5, .func (PySem.W.fnOf "read_row" "read_row" (defArgs (topS 12)) (defBody (topS 12)) (defScope (topS 12)) .none kV5 dc5 pm5 an5 cd5 ct5), sl5⟩) (c5 : PySem.W.codeIn K cd5 "read_row" = true) (k5 : PySem.W.keepIn K (.ref f5) = true)
    (a6 : PySem.W.nsIn K mainGlobals "figures_from" = some (some (.ref f6))) (l6 : K.lookup f6 = some ⟨oc6, od6, .func (PySem.W.fnOf "figures_from" "figures_from" (defArgs (topS 13)) (defBody (topS 13)) (defScope (topS 13)) .none kV6 dc6 pm6 an6 cd6 ct6), sl6⟩) (c6 : PySem.W.codeIn K cd6 "figures_from" = true) (k6 : PySem.W.keepIn K (.ref f6) = true)
    (a7 : PySem.W.nsIn K mainGlobals "sign_at" = some (some (.ref f7))) (l7 : K.lookup f7 = some ⟨oc7, od7, .func (PySem.W.fnOf "sign_at" "sign_at" (defArgs (topS 14)) (defBody (topS 14)) (defScope (topS 14)) .none kV7 dc7 pm7 an7 cd7 ct7), sl7⟩) (c7 : PySem.W.codeIn K cd7 "sign_at" = true) (k7 : PySem.W.keepIn K (.ref f7) = true)
    (a8 : PySem.W.nsIn K mainGlobals "read_part" = some (some (.ref f8))) (l8 : K.lookup f8 = some ⟨oc8, od8, .func (PySem.W.fnOf "read_part" "read_part" (defArgs (topS 15)) (defBody (topS 15)) (defScope (topS 15)) .none kV8 dc8 pm8 an8 cd8 ct8), sl8⟩) (c8 : PySem.W.codeIn K cd8 "read_part" = true) (k8 : PySem.W.keepIn K (.ref f8) = true)
    (a9 : PySem.W.nsIn K mainGlobals "read_paper" = some (some (.ref f9))) (l9 : K.lookup f9 = some ⟨oc9, od9, .func (PySem.W.fnOf "read_paper" "read_paper" (defArgs (topS 16)) (defBody (topS 16)) (defScope (topS 16)) .none kV9 dc9 pm9 an9 cd9 ct9), sl9⟩) (c9 : PySem.W.codeIn K cd9 "read_paper" = true) (k9 : PySem.W.keepIn K (.ref f9) = true)
    (a10 : PySem.W.nsIn K mainGlobals "_law_cell" = some (some (.ref f10))) (l10 : K.lookup f10 = some ⟨oc10, od10, .func (PySem.W.fnOf "_law_cell" "_law_cell" (defArgs (topS 18)) (defBody (topS 18)) (defScope (topS 18)) .none kV10 dc10 pm10 an10 cd10 ct10), sl10⟩) (c10 : PySem.W.codeIn K cd10 "_law_cell" = true) (k10 : PySem.W.keepIn K (.ref f10) = true)
    (a11 : PySem.W.nsIn K mainGlobals "_law_pen" = some (some (.ref f11))) (l11 : K.lookup f11 = some ⟨oc11, od11, .func (PySem.W.fnOf "_law_pen" "_law_pen" (defArgs (topS 19)) (defBody (topS 19)) (defScope (topS 19)) .none kV11 dc11 pm11 an11 cd11 ct11), sl11⟩) (c11 : PySem.W.codeIn K cd11 "_law_pen" = true) (k11 : PySem.W.keepIn K (.ref f11) = true)
    (a12 : PySem.W.nsIn K mainGlobals "_law_take" = some (some (.ref f12))) (l12 : K.lookup f12 = some ⟨oc12, od12, .func (PySem.W.fnOf "_law_take" "_law_take" (defArgs (topS 20)) (defBody (topS 20)) (defScope (topS 20)) .none kV12 dc12 pm12 an12 cd12 ct12), sl12⟩) (c12 : PySem.W.codeIn K cd12 "_law_take" = true) (k12 : PySem.W.keepIn K (.ref f12) = true)
    (a13 : PySem.W.nsIn K mainGlobals "_law_is_number" = some (some (.ref f13))) (l13 : K.lookup f13 = some ⟨oc13, od13, .func (PySem.W.fnOf "_law_is_number" "_law_is_number" (defArgs (topS 21)) (defBody (topS 21)) (defScope (topS 21)) .none kV13 dc13 pm13 an13 cd13 ct13), sl13⟩) (c13 : PySem.W.codeIn K cd13 "_law_is_number" = true) (k13 : PySem.W.keepIn K (.ref f13) = true)
    (a14 : PySem.W.nsIn K mainGlobals "_law_many" = some (some (.ref f14))) (l14 : K.lookup f14 = some ⟨oc14, od14, .func (PySem.W.fnOf "_law_many" "_law_many" (defArgs (topS 22)) (defBody (topS 22)) (defScope (topS 22)) .none kV14 dc14 pm14 an14 cd14 ct14), sl14⟩) (c14 : PySem.W.codeIn K cd14 "_law_many" = true) (k14 : PySem.W.keepIn K (.ref f14) = true)
    (a15 : PySem.W.nsIn K mainGlobals "_law_paper" = some (some (.ref f15))) (l15 : K.lookup f15 = some ⟨oc15, od15, .func (PySem.W.fnOf "_law_paper" "_law_paper" (defArgs (topS 23)) (defBody (topS 23)) (defScope (topS 23)) .none kV15 dc15 pm15 an15 cd15 ct15), sl15⟩) (c15 : PySem.W.codeIn K cd15 "_law_paper" = true) (k15 : PySem.W.keepIn K (.ref f15) = true)
    (a16 : PySem.W.nsIn K mainGlobals "_law_chain" = some (some (.ref f16))) (l16 : K.lookup f16 = some ⟨oc16, od16, .func (PySem.W.fnOf "_law_chain" "_law_chain" (defArgs (topS 24)) (defBody (topS 24)) (defScope (topS 24)) .none kV16 dc16 pm16 an16 cd16 ct16), sl16⟩) (c16 : PySem.W.codeIn K cd16 "_law_chain" = true) (k16 : PySem.W.keepIn K (.ref f16) = true)
    (a17 : PySem.W.nsIn K mainGlobals "_law_written" = some (some (.ref f17))) (l17 : K.lookup f17 = some ⟨oc17, od17, .func (PySem.W.fnOf "_law_written" "_law_written" (defArgs (topS 25)) (defBody (topS 25)) (defScope (topS 25)) .none kV17 dc17 pm17 an17 cd17 ct17), sl17⟩) (c17 : PySem.W.codeIn K cd17 "_law_written" = true) (k17 : PySem.W.keepIn K (.ref f17) = true)
    (a18 : PySem.W.nsIn K mainGlobals "_law_number" = some (some (.ref f18))) (l18 : K.lookup f18 = some ⟨oc18, od18, .func (PySem.W.fnOf "_law_number" "_law_number" (defArgs (topS 26)) (defBody (topS 26)) (defScope (topS 26)) .none kV18 dc18 pm18 an18 cd18 ct18), sl18⟩) (c18 : PySem.W.codeIn K cd18 "_law_number" = true) (k18 : PySem.W.keepIn K (.ref f18) = true)
    (a19 : PySem.W.nsIn K mainGlobals "_law_right" = some (some (.ref f19))) (l19 : K.lookup f19 = some ⟨oc19, od19, .func (PySem.W.fnOf "_law_right" "_law_right" (defArgs (topS 27)) (defBody (topS 27)) (defScope (topS 27)) .none kV19 dc19 pm19 an19 cd19 ct19), sl19⟩) (c19 : PySem.W.codeIn K cd19 "_law_right" = true) (k19 : PySem.W.keepIn K (.ref f19) = true)
    (a20 : PySem.W.nsIn K mainGlobals "law" = some (some (.ref f20))) (l20 : K.lookup f20 = some ⟨oc20, od20, .func (PySem.W.fnOf "law" "law" (defArgs (topS 28)) (defBody (topS 28)) (defScope (topS 28)) .none kV20 dc20 pm20 an20 cd20 ct20), sl20⟩) (c20 : PySem.W.codeIn K cd20 "law" = true) (k20 : PySem.W.keepIn K (.ref f20) = true)
    (g0 : ∃ t, mg "FIGURES" = some (.str "0123456789" t))
    (g1 : ∃ t, mg "MOST_FIGURES" = some (.int (50) t))
    (g2 : ∃ t, mg "DEEPEST" = some (.int (100) t))
    (zz : ∀ x ∈ bltNames, PySem.W.nsIn K mainGlobals x = some none) : TabOk K mg Fs := by
  refine ⟨fun x hx => PySem.W.mg_none_of X G (zz x hx), fun f fn x i hf hi => ?_, fun f fn x i hf hi => ?_, fun r hr => ?_, fun fn x m hf hi => ?_, fun f fn hf hC hM => ?_, fun c h1 h2 => ?_, fun f fn hf hC hM => ?_⟩
  · match f, hf with
    | 0, hf => cases hf; simp [Fn.isI, f_show_number, t_show_number] at hi
    | 1, hf => cases hf; simp [Fn.isI, f_show_row, t_show_row] at hi
    | 2, hf => cases hf; simp [Fn.isI, f_show_paper, t_show_paper] at hi
    | 3, hf => cases hf; simp [Fn.isI, f_is_many, t_is_many] at hi
    | 4, hf => cases hf; simp [Fn.isI, f_read_number, t_read_number] at hi
    | 5, hf => cases hf; simp [Fn.isI, f_read_row, t_read_row] at hi
    | 6, hf => cases hf; simp [Fn.isI, f_figures_from, t_figures_from] at hi
    | 7, hf => cases hf; simp [Fn.isI, f_sign_at, t_sign_at] at hi
    | 8, hf => cases hf; simp [Fn.isI, f_read_part, t_read_part] at hi
    | 9, hf => cases hf; simp [Fn.isI, f_read_paper, t_read_paper] at hi
    | 10, hf => cases hf; simp [Fn.isI, f__law_cell, t__law_cell] at hi
    | 11, hf => cases hf; simp [Fn.isI, f__law_pen, t__law_pen] at hi
    | 12, hf => cases hf; simp [Fn.isI, f__law_take, t__law_take] at hi
    | 13, hf => cases hf; simp [Fn.isI, f__law_is_number, t__law_is_number] at hi
    | 14, hf => cases hf; simp [Fn.isI, f__law_many, t__law_many] at hi
    | 15, hf => cases hf; simp [Fn.isI, f__law_paper, t__law_paper] at hi
    | 16, hf => cases hf; simp [Fn.isI, f__law_chain, t__law_chain] at hi
    | 17, hf => cases hf; simp [Fn.isI, f__law_written, t__law_written] at hi
    | 18, hf => cases hf; simp [Fn.isI, f__law_number, t__law_number] at hi
    | 19, hf => cases hf; simp [Fn.isI, f__law_right, t__law_right] at hi
    | 20, hf => cases hf; simp [Fn.isI, f_law, t_law] at hi
    | 21, hf => cases hf; simp [Fn.isI, f_FIGURES] at hi
    | 22, hf => cases hf; obtain ⟨rfl, rfl⟩ := isI_mk hi; exact g1
    | 23, hf => cases hf; obtain ⟨rfl, rfl⟩ := isI_mk hi; exact g2
    | n + 24, hf => cases hf
  · match f, hf with
    | 0, hf => cases hf; simp [Fn.isS, f_show_number, t_show_number] at hi
    | 1, hf => cases hf; simp [Fn.isS, f_show_row, t_show_row] at hi
    | 2, hf => cases hf; simp [Fn.isS, f_show_paper, t_show_paper] at hi
    | 3, hf => cases hf; simp [Fn.isS, f_is_many, t_is_many] at hi
    | 4, hf => cases hf; simp [Fn.isS, f_read_number, t_read_number] at hi
    | 5, hf => cases hf; simp [Fn.isS, f_read_row, t_read_row] at hi
    | 6, hf => cases hf; simp [Fn.isS, f_figures_from, t_figures_from] at hi
    | 7, hf => cases hf; simp [Fn.isS, f_sign_at, t_sign_at] at hi
    | 8, hf => cases hf; simp [Fn.isS, f_read_part, t_read_part] at hi
    | 9, hf => cases hf; simp [Fn.isS, f_read_paper, t_read_paper] at hi
    | 10, hf => cases hf; simp [Fn.isS, f__law_cell, t__law_cell] at hi
    | 11, hf => cases hf; simp [Fn.isS, f__law_pen, t__law_pen] at hi
    | 12, hf => cases hf; simp [Fn.isS, f__law_take, t__law_take] at hi
    | 13, hf => cases hf; simp [Fn.isS, f__law_is_number, t__law_is_number] at hi
    | 14, hf => cases hf; simp [Fn.isS, f__law_many, t__law_many] at hi
    | 15, hf => cases hf; simp [Fn.isS, f__law_paper, t__law_paper] at hi
    | 16, hf => cases hf; simp [Fn.isS, f__law_chain, t__law_chain] at hi
    | 17, hf => cases hf; simp [Fn.isS, f__law_written, t__law_written] at hi
    | 18, hf => cases hf; simp [Fn.isS, f__law_number, t__law_number] at hi
    | 19, hf => cases hf; simp [Fn.isS, f__law_right, t__law_right] at hi
    | 20, hf => cases hf; simp [Fn.isS, f_law, t_law] at hi
    | 21, hf => cases hf; obtain ⟨rfl, rfl⟩ := isS_mk hi; exact g0
    | 22, hf => cases hf; simp [Fn.isS, f_MOST_FIGURES] at hi
    | 23, hf => cases hf; simp [Fn.isS, f_DEEPEST] at hi
    | n + 24, hf => cases hf
  · have hz : False := by
      by_cases h : r ∈ ([] : List Nat)
      · simpa using h
      · exfalso; revert hr h; simp [rzB, Fs, Fn.isE, f_show_number, f_show_row, f_show_paper, f_is_many, f_read_number, f_read_row, f_figures_from, f_sign_at, f_read_part, f_read_paper, f__law_cell, f__law_pen, f__law_take, f__law_is_number, f__law_many, f__law_paper, f__law_chain, f__law_written, f__law_number, f__law_right, f_law, f_FIGURES, f_MOST_FIGURES, f_DEEPEST, t_show_number, t_show_row, t_show_paper, t_is_many, t_read_number, t_read_row, t_figures_from, t_sign_at, t_read_part, t_read_paper, t__law_cell, t__law_pen, t__law_take, t__law_is_number, t__law_many, t__law_paper, t__law_chain, t__law_written, t__law_number, t__law_right, t_law]
    exact hz.elim
  · have hA : fn ∈ ([] : List Fn) := by
      have hq := isAl_A hi
      have : fn ∈ Fs.filter Fn.isA := List.mem_filter.mpr ⟨hf, hq⟩
      have e : Fs.filter Fn.isA = [] := by rfl
      rw [e] at this; exact this
    cases hA
  · match f, hf with
    | 0, hf => cases hf; exact absurd hM (by decide +kernel)
    | 1, hf => cases hf; exact absurd hM (by decide +kernel)
    | 2, hf => cases hf; exact absurd hM (by decide +kernel)
    | 3, hf => cases hf; exact absurd hM (by decide +kernel)
    | 4, hf => cases hf; exact absurd hM (by decide +kernel)
    | 5, hf => cases hf; exact absurd hM (by decide +kernel)
    | 6, hf => cases hf; exact absurd hM (by decide +kernel)
    | 7, hf => cases hf; exact absurd hM (by decide +kernel)
    | 8, hf => cases hf; exact absurd hM (by decide +kernel)
    | 9, hf => cases hf; exact absurd hM (by decide +kernel)
    | 10, hf => cases hf; exact absurd hM (by decide +kernel)
    | 11, hf => cases hf; exact absurd hM (by decide +kernel)
    | 12, hf => cases hf; exact absurd hM (by decide +kernel)
    | 13, hf => cases hf; exact absurd hM (by decide +kernel)
    | 14, hf => cases hf; exact absurd hM (by decide +kernel)
    | 15, hf => cases hf; exact absurd hM (by decide +kernel)
    | 16, hf => cases hf; exact absurd hM (by decide +kernel)
    | 17, hf => cases hf; exact absurd hM (by decide +kernel)
    | 18, hf => cases hf; exact absurd hM (by decide +kernel)
    | 19, hf => cases hf; exact absurd hM (by decide +kernel)
    | 20, hf => cases hf; exact absurd hM (by decide +kernel)
    | 21, hf => cases hf; cases hC
    | 22, hf => cases hf; cases hC
    | 23, hf => cases hf; cases hC
    | n + 24, hf => cases hf
  · match c, h1 with
    | 0, _ => exact absurd h2 (by decide +kernel)
    | 1, _ => exact absurd h2 (by decide +kernel)
    | n + 2, h1 => exact absurd h1 (by omega)
  · match f, hf with
    | 0, hf => cases hf; refine ⟨f0, _, (topS 7), PySem.W.mg_of X G a0, k0, ?_, fun_mk (st := (topS 7)) l0 c0 k0, s_show_number, c_show_number⟩; exact fun us hl => match us, hl with | [_], _ => rfl
    | 1, hf => cases hf; refine ⟨f1, _, (topS 8), PySem.W.mg_of X G a1, k1, ?_, fun_mk (st := (topS 8)) l1 c1 k1, s_show_row, c_show_row⟩; exact fun us hl => match us, hl with | [_], _ => rfl
    | 2, hf => cases hf; refine ⟨f2, _, (topS 9), PySem.W.mg_of X G a2, k2, ?_, fun_mk (st := (topS 9)) l2 c2 k2, s_show_paper, c_show_paper⟩; exact fun us hl => match us, hl with | [_], _ => rfl
    | 3, hf => cases hf; refine ⟨f3, _, (topS 10), PySem.W.mg_of X G a3, k3, ?_, fun_mk (st := (topS 10)) l3 c3 k3, s_is_many, c_is_many⟩; exact fun us hl => match us, hl with | [_], _ => rfl
    | 4, hf => cases hf; refine ⟨f4, _, (topS 11), PySem.W.mg_of X G a4, k4, ?_, fun_mk (st := (topS 11)) l4 c4 k4, s_read_number, c_read_number⟩; exact fun us hl => match us, hl with | [_], _ => rfl
    | 5, hf => cases hf; refine ⟨f5, _, (topS 12), PySem.W.mg_of X G a5, k5, ?_, fun_mk (st := (topS 12)) l5 c5 k5, s_read_row, c_read_row⟩; exact fun us hl => match us, hl with | [_], _ => rfl
    | 6, hf => cases hf; refine ⟨f6, _, (topS 13), PySem.W.mg_of X G a6, k6, ?_, fun_mk (st := (topS 13)) l6 c6 k6, s_figures_from, c_figures_from⟩; exact fun us hl => match us, hl with | [_, _], _ => rfl
    | 7, hf => cases hf; refine ⟨f7, _, (topS 14), PySem.W.mg_of X G a7, k7, ?_, fun_mk (st := (topS 14)) l7 c7 k7, s_sign_at, c_sign_at⟩; exact fun us hl => match us, hl with | [_, _, _], _ => rfl
    | 8, hf => cases hf; refine ⟨f8, _, (topS 15), PySem.W.mg_of X G a8, k8, ?_, fun_mk (st := (topS 15)) l8 c8 k8, s_read_part, c_read_part⟩; exact fun us hl => match us, hl with | [_, _, _], _ => rfl
    | 9, hf => cases hf; refine ⟨f9, _, (topS 16), PySem.W.mg_of X G a9, k9, ?_, fun_mk (st := (topS 16)) l9 c9 k9, s_read_paper, c_read_paper⟩; exact fun us hl => match us, hl with | [_], _ => rfl
    | 10, hf => cases hf; refine ⟨f10, _, (topS 18), PySem.W.mg_of X G a10, k10, ?_, fun_mk (st := (topS 18)) l10 c10 k10, s__law_cell, c__law_cell⟩; exact fun us hl => match us, hl with | [_, _], _ => rfl
    | 11, hf => cases hf; refine ⟨f11, _, (topS 19), PySem.W.mg_of X G a11, k11, ?_, fun_mk (st := (topS 19)) l11 c11 k11, s__law_pen, c__law_pen⟩; exact fun us hl => match us, hl with | [_], _ => rfl
    | 12, hf => cases hf; refine ⟨f12, _, (topS 20), PySem.W.mg_of X G a12, k12, ?_, fun_mk (st := (topS 20)) l12 c12 k12, s__law_take, c__law_take⟩; exact fun us hl => match us, hl with | [_, _], _ => rfl
    | 13, hf => cases hf; refine ⟨f13, _, (topS 21), PySem.W.mg_of X G a13, k13, ?_, fun_mk (st := (topS 21)) l13 c13 k13, s__law_is_number, c__law_is_number⟩; exact fun us hl => match us, hl with | [_], _ => rfl
    | 14, hf => cases hf; refine ⟨f14, _, (topS 22), PySem.W.mg_of X G a14, k14, ?_, fun_mk (st := (topS 22)) l14 c14 k14, s__law_many, c__law_many⟩; exact fun us hl => match us, hl with | [_], _ => rfl
    | 15, hf => cases hf; refine ⟨f15, _, (topS 23), PySem.W.mg_of X G a15, k15, ?_, fun_mk (st := (topS 23)) l15 c15 k15, s__law_paper, c__law_paper⟩; exact fun us hl => match us, hl with | [_, _], _ => rfl
    | 16, hf => cases hf; refine ⟨f16, _, (topS 24), PySem.W.mg_of X G a16, k16, ?_, fun_mk (st := (topS 24)) l16 c16 k16, s__law_chain, c__law_chain⟩; exact fun us hl => match us, hl with | [_, _], _ => rfl
    | 17, hf => cases hf; refine ⟨f17, _, (topS 25), PySem.W.mg_of X G a17, k17, ?_, fun_mk (st := (topS 25)) l17 c17 k17, s__law_written, c__law_written⟩; exact fun us hl => match us, hl with | [_], _ => rfl
    | 18, hf => cases hf; refine ⟨f18, _, (topS 26), PySem.W.mg_of X G a18, k18, ?_, fun_mk (st := (topS 26)) l18 c18 k18, s__law_number, c__law_number⟩; exact fun us hl => match us, hl with | [_], _ => rfl
    | 19, hf => cases hf; refine ⟨f19, _, (topS 27), PySem.W.mg_of X G a19, k19, ?_, fun_mk (st := (topS 27)) l19 c19 k19, s__law_right, c__law_right⟩; exact fun us hl => match us, hl with | [_], _ => rfl
    | 20, hf => cases hf; refine ⟨f20, _, (topS 28), PySem.W.mg_of X G a20, k20, ?_, fun_mk (st := (topS 28)) l20 c20 k20, s_law, c_law⟩; exact fun us hl => match us, hl with | [_], _ => rfl
    | 21, hf => cases hf; cases hC
    | 22, hf => cases hf; cases hC
    | 23, hf => cases hf; cases hC
    | n + 24, hf => cases hf
end Tx


namespace Tx
open PySem PySem.Spec PyProof.Rows L2 Zn Zn.PB Zn.PT Zn.PG Zn.PM


def Gs : List Fn := [f_show_number, f_show_row, f_show_paper, f_is_many, f_read_number, f_read_row, f_figures_from, f_sign_at, f_read_part, f_read_paper, ⟨"_law_cell", ["_law_script", "_law_k"], ["_law_script", "_law_k", "_law_number"], t__law_cell⟩, f__law_pen, ⟨"_law_take", ["_law_pen_here", "_law_size"], ["_law_pen_here", "_law_size", "_law_number", "_law_digit"], t__law_take⟩, f__law_is_number, f__law_many, f__law_paper, f__law_chain, f__law_written, f__law_number, f__law_right, f_law, f_FIGURES, f_MOST_FIGURES, f_DEEPEST]
theorem Gs_key : Fs.map Fn.key2 = Gs.map Fn.key2 := rfl
theorem k_cell (ns : List Int) {k : Nat} (hk : k < 10 ^ 30) : ∃ v : Int, ∀ (N : Nat) (hN : 50 ≤ N) (st : Store), cf Gs N 10 [.scr ns, .int k] st = .ok (.int v) st := by
  obtain ⟨v, hv⟩ := cellB_all (Fs := Gs) (i := 10) rfl ns k hk
  refine ⟨v, fun N hN st => ?_⟩
  obtain ⟨n, rfl⟩ : ∃ n, N = n + 1 := ⟨N - 1, by omega⟩
  exact hv n st
theorem k_pen (v : Int) {N : Nat} (hN : 50 ≤ N) (st : Store) : (cf Gs N 11 [.int v] st).bind (callEnd true st.length) = .ok (.ref st.length) (st ++ [penB v 0]) := by
  obtain ⟨n, rfl⟩ : ∃ n, N = n + 1 := ⟨N - 1, by omega⟩; exact penB_ok rfl v st
theorem k_take (A R : Store) (c : Int) {q : Int} (hq0 : -1 ≤ q) (hq : q < 10 ^ 27) {m : Int} (hm : 0 < m) (hm2 : m < 10 ^ 100) {N : Nat} (hN : 50 ≤ N) : ∃ v c' q' : Int, cf Gs N 12 [.ref A.length, .int m] (A ++ penB c q :: R) = .ok (.int v) (A ++ penB c' q' :: R) ∧ 0 ≤ v ∧ v < m ∧ -1 ≤ q' ∧ q' ≤ q + 1 := by
  obtain ⟨n, rfl⟩ : ∃ n, N = n + 1 := ⟨N - 1, by omega⟩; exact takeB_ok rfl A R c q hq0 (by omega) m hm hm2
theorem k_isn (x : Int) {N : Nat} (hN : 50 ≤ N) (st : Store) : cf Gs N 13 [.int x] st = .ok (.bl true) st := by
  obtain ⟨n, rfl⟩ : ∃ n, N = n + 1 := ⟨N - 1, by omega⟩; exact isn_ok rfl x st
end Tx

namespace Tx
open PySem PySem.Spec PyProof.Rows L2 Zn TL Zn.RT Zn.RU Zn.PB Zn.PT Zn.PG Zn.PM
theorem n_many (A R : Store) (c : Int) {q : Int} (hq0 : -1 ≤ q) (hq : q < 10 ^ 27) {N : Nat} (hN : 50 ≤ N) : ∃ (v : Nat) (c' q' : Int), cf Gs N 14 [.ref A.length] (A ++ penB c q :: R) = .ok (.int (v : Nat)) (A ++ penB c' q' :: R) ∧ v < 10 ^ 50 ∧ -1 ≤ q' ∧ q' ≤ q + 4 := by
  obtain ⟨n, rfl⟩ : ∃ n, N = n + 2 := ⟨N - 2, by omega⟩
  exact many_draw (it := 12) rfl rfl n A R c hq0 (by omega)
theorem n_number (A R : Store) (c : Int) {q : Int} (hq0 : -1 ≤ q) (hq : q < 10 ^ 26) {N : Nat} (hN : 51 ≤ N) : ∃ (v c' q' : Int), cf Gs N 18 [.ref A.length] (A ++ penB c q :: R) = .ok (.int v) (A ++ penB c' q' :: R) ∧ v.natAbs < 10 ^ 50 ∧ -1 ≤ q' ∧ q' ≤ q + 5 := by
  obtain ⟨n, rfl⟩ : ∃ n, N = n + 50 + 1 := ⟨N - 51, by omega⟩
  obtain ⟨v, c1, q1, e1, hv, ha1, hb1⟩ := n_many A R c hq0 (by omega) (show 50 ≤ n + 50 by omega)
  obtain ⟨t, c2, q2, e2, ht0, ht1, ha2, hb2⟩ := k_take A R c1 ha1 (by omega) (m := 2) (by omega) (by omega) (show 50 ≤ n + 50 by omega)
  obtain ⟨y, hy, hym⟩ := PA.atI_mem (xs := [D.int (v : Nat), .int (0 - (v : Nat))]) ht0 ht1
  obtain ⟨z, rfl, hz⟩ : ∃ z : Int, y = .int z ∧ z.natAbs < 10 ^ 50 := by
    simp only [List.mem_cons, List.not_mem_nil, or_false] at hym
    rcases hym with rfl | rfl
    · exact ⟨_, rfl, by omega⟩
    · exact ⟨_, rfl, by omega⟩
  refine ⟨z, c2, q2, ?_, hz, ha2, by omega⟩
  rw [cf_at (fn := f__law_number) rfl rfl]; simp only [f__law_number, t__law_number]
  simp! [ce_bd, bd0, bd1, bd_nr, as_bd, ga_ce, ga_nr, ga_len, ga_wk, ga_val, st0, st1, st2, as_st, st_ce, tr_ce, up_nr, up_ce, tup_ce, tk_len, tkB, ce_int', x_swhile, Bool.false_eq_true, reduceIte, wk_lst', e1, e2, hy]
/-! ### a paper of tuples and numbers -/
theorem right_loop (A R : Store) (s0 : Option D) : ∀ (m : Nat) (ws : List P) (f : Nat) (s2 : Option D), (ws.map P.sz).sum ≤ m → m < f → (∀ x ∈ ws, x.fit ∧ x.dp ≤ 120) → m ≤ 10000 →
    ∃ s2', whileL (ev (cf Gs 148) w__law_right_1) (ex (cf Gs 148) b__law_right_2) f [s0, some (.ref A.length), s2] (A ++ some (.lst (ws.map P.d)) :: R) = .nx [s0, some (.ref A.length), s2'] (A ++ some (.lst []) :: R) := by
  have isn := fun (x : Int) st => k_isn x (show 50 ≤ 148 by omega) st
  have e0 : eqD (.lst []) (.lst []) = some true := eqD_nil' (xs := []) ((Pl.lst (k := 0) fun d hd => by cases hd).le (by omega))
  intro m
  induction m with
  | zero =>
    intro ws f s2 hw hf hok hm
    obtain ⟨f, rfl⟩ : ∃ g, f = g + 1 := ⟨f - 1, by omega⟩
    obtain rfl : ws = [] := by
      cases ws with
      | nil => rfl
      | cons x r => have := x.sz_pos; rw [List.map_cons, List.sum_cons] at hw; omega
    refine ⟨s2, while_f ?_⟩
    simp only [w__law_right_1]
    simp! [ce_bd, bd0, bd1, bd_nr, as_bd, ga_ce, ga_nr, ga_len, ga_wk, ga_val, st0, st1, st2, as_st, st_ce, tr_ce, up_nr, up_ce, tup_ce, tk_len, tkB, ce_int', x_swhile, Bool.false_eq_true, reduceIte, wk_lst', e0]
  | succ m ih =>
    intro ws f s2 hw hf hok hm
    obtain ⟨f, rfl⟩ : ∃ g, f = g + 1 := ⟨f - 1, by omega⟩
    rcases List.eq_nil_or_concat ws with rfl | ⟨r, x, rfl⟩
    · refine ⟨s2, while_f ?_⟩
      simp only [w__law_right_1]
      simp! [ce_bd, bd0, bd1, bd_nr, as_bd, ga_ce, ga_nr, ga_len, ga_wk, ga_val, st0, st1, st2, as_st, st_ce, tr_ce, up_nr, up_ce, tup_ce, tk_len, tkB, ce_int', x_swhile, Bool.false_eq_true, reduceIte, wk_lst', e0]
    · rw [List.concat_eq_append] at *
      have hc : ev (cf Gs 148) w__law_right_1 [s0, some (.ref A.length), s2] (A ++ some (.lst ((r ++ [x]).map P.d)) :: R) = .ok (.bl true) (A ++ some (.lst ((r ++ [x]).map P.d)) :: R) := by
        have e := wait_eq (ws := (r ++ [x]).map It.pa) (fun y hy => by
          obtain ⟨z, hz, rfl⟩ := List.mem_map.mp hy
          exact hok z hz)
        have e' : ((r ++ [x]).map It.pa).isEmpty = false := by simp
        rw [e', List.map_map] at e
        have e2 : eqD (.lst ((r ++ [x]).map P.d)) (.lst []) = some false := e
        simp only [w__law_right_1]
        simp! [ce_bd, bd0, bd1, bd_nr, as_bd, ga_ce, ga_nr, ga_len, ga_wk, ga_val, st0, st1, st2, as_st, st_ce, tr_ce, up_nr, up_ce, tup_ce, tk_len, tkB, ce_int', x_swhile, Bool.false_eq_true, reduceIte, wk_lst', e2]
      have hpop := pop_last A R (r.map P.d) x.d
      rw [show r.map P.d ++ [x.d] = (r ++ [x]).map P.d by simp] at hpop
      have hx := hok x (by simp)
      have hr : ∀ y ∈ r, y.fit ∧ y.dp ≤ 120 := fun y hy => hok y (by simp [hy])
      rw [List.map_append, List.sum_append] at hw
      have hrl : r.length ≤ (r.map P.sz).sum := by
        clear hw hpop hc hr ih hok
        induction r with
        | nil => simp
        | cons y r ih =>
          rw [List.map_cons, List.sum_cons, List.length_cons]
          have := y.sz_pos
          omega
      generalize hW : (r ++ [x]).map P.d = W at hc hpop ⊢
      have exT : ∀ ys : List D, ys.length ≤ 2 → mthF .extend (.ref A.length) [.tup ys] (A ++ some (.lst (r.map P.d)) :: R) = .ok .non (A ++ some (.lst (r.map P.d ++ ys)) :: R) := fun ys hy => by
        simp only [mthF, mid_get, seqOf]
        rw [if_pos (by rw [List.length_map]; simp only [sizeLine]; omega), mid_set]
      cases x with
      | all v =>
        have hw1 : ([P.all v].map P.sz).sum = 1 := rfl
        obtain ⟨s2', h⟩ := ih r f (some (P.all v).d) (by omega) (by omega) hr (by omega)
        refine ⟨s2', (while_t hc ?_).trans h⟩
        have ct : cutD [D.str (Str.ofString "all"), .int (v : Nat)] (some 2) none = [] := rfl
        have ex0 := exT [] (by simp)
        rw [List.append_nil] at ex0
        simp only [b__law_right_2]
        simp only [P.d] at hpop ⊢
        simp! [ce_bd, bd0, bd1, bd_nr, as_bd, ga_ce, ga_nr, ga_len, ga_wk, ga_val, st0, st1, st2, as_st, st_ce, tr_ce, up_nr, up_ce, tup_ce, tk_len, tkB, ce_int', x_swhile, Bool.false_eq_true, reduceIte, wk_lst', hpop, isn, ct, ex0]
      | split v a b =>
        have hw1 : ([P.split v a b].map P.sz).sum = 1 + a.sz + b.sz := by simp [P.sz]
        have hd : max a.dp b.dp + 1 ≤ 120 := hx.2
        obtain ⟨s2', h⟩ := ih (r ++ [a, b]) f (some (P.split v a b).d) (by rw [List.map_append, List.sum_append]; simp; omega) (by omega) (fun y hy => by
          rcases List.mem_append.mp hy with hy | hy
          · exact hr y hy
          · simp only [List.mem_cons, List.not_mem_nil, or_false] at hy
            rcases hy with rfl | rfl
            · exact ⟨hx.1.2.1, by omega⟩
            · exact ⟨hx.1.2.2, by omega⟩) (by omega)
        refine ⟨s2', (while_t hc ?_).trans h⟩
        have ct : cutD [D.str (Str.ofString "split"), .int (v : Nat), a.d, b.d] (some 2) none = [a.d, b.d] := rfl
        have ex0 := exT [a.d, b.d] (by simp)
        rw [show (r ++ [a, b]).map P.d = r.map P.d ++ [a.d, b.d] by simp]
        simp only [b__law_right_2]
        simp only [P.d] at hpop ⊢
        simp! [ce_bd, bd0, bd1, bd_nr, as_bd, ga_ce, ga_nr, ga_len, ga_wk, ga_val, st0, st1, st2, as_st, st_ce, tr_ce, up_nr, up_ce, tup_ce, tk_len, tkB, ce_int', x_swhile, Bool.false_eq_true, reduceIte, wk_lst', hpop, isn, ct, ex0]
theorem right_ok {p : P} (hf : p.fit) (hd : p.dp ≤ 120) (hs : p.sz ≤ 2000) (st : Store) : (cf Gs 149 19 [p.d] st).bind (callEnd false st.length) = .ok (.bl true) st := by
  obtain ⟨s', h⟩ := right_loop st [] (some p.d) p.sz [p] fuel none (by simp) (by unfold fuel; omega) (fun y hy => by rw [List.mem_singleton] at hy; subst hy; exact ⟨hf, hd⟩) (by omega)
  rw [show ([p].map P.d) = [p.d] from rfl] at h
  rw [cf_at (fn := f__law_right) rfl rfl]; simp only [f__law_right, t__law_right]
  simp! [ce_bd, bd0, bd1, bd_nr, as_bd, ga_ce, ga_nr, ga_len, ga_wk, ga_val, st0, st1, st2, as_st, st_ce, tr_ce, up_nr, up_ce, tup_ce, tk_len, tkB, ce_int', x_swhile, Bool.false_eq_true, reduceIte, wk_lst', P.noref, h]
theorem ex_nx {F : CallF} {s ss : T} {env env' : Zn.Env} {st st' : Store} (h : ex F s env st = .nx env' st') : ex F (.cons s ss) env st = ex F ss env' st' := by
  rw [x_cons, h, andThen_nx]
theorem b2_loop (s0 s1 s2 s3 s5 s6 s7 s8 s9 : Option D) : ∀ (vs : List Int) (s4 : Option D), (∀ v ∈ vs, v.natAbs < 10 ^ 50) →
    ∃ s4', ∀ st, forL (turn (cf Gs 149) (.tnm 4) b_law_2) (vs.map .int) [s0, s1, s2, s3, s4, s5, s6, s7, s8, s9] st = .nx [s0, s1, s2, s3, s4', s5, s6, s7, s8, s9] st
  | [], s4, _ => ⟨s4, fun st => forL_nil _ _ _⟩
  | v :: vs, s4, h => by
    have hv := h v (by simp)
    have sn := fun st => show_num_ok (Fs := Gs) (i := 0) rfl (v := v) (by omega) 148 st
    have rn := fun st => rdn_ok (Fs := Gs) (b := false) (i := 4) (im := 3) rfl rfl (shN_asc v) (by have := shN_len (k := 50) (by omega) hv; omega) 147 st
    rw [rdN_shN hv] at rn
    have s1' := fun st => str_i false (v := v) (by omega) st
    have isn := fun st => k_isn v (show 50 ≤ 149 by omega) st
    have es := eqS (shN_asc v) (shN_asc v)
    rw [decide_eq_true rfl] at es
    have t : ∀ st, turn (cf Gs 149) (.tnm 4) b_law_2 (.int v) [s0, s1, s2, s3, s4, s5, s6, s7, s8, s9] st = .nx [s0, s1, s2, s3, some (.int v), s5, s6, s7, s8, s9] st := fun st => by
      simp only [turn, b_law_2]
      simp! [ce_bd, bd0, bd1, bd_nr, as_bd, ga_ce, ga_nr, ga_len, ga_wk, ga_val, st0, st1, st2, as_st, st_ce, tr_ce, up_nr, up_ce, tup_ce, tk_len, tkB, ce_int', x_swhile, Bool.false_eq_true, reduceIte, wk_lst', sn, s1', rn, optN, isn, es, show ∀ v : Int, decide (v = v) = true from fun v => decide_eq_true rfl]
    obtain ⟨s4', r⟩ := b2_loop s0 s1 s2 s3 s5 s6 s7 s8 s9 vs (some (.int v)) (fun w hw => h w (by simp [hw]))
    exact ⟨s4', fun st => by rw [List.map_cons, forL_nx (t st), r]⟩
theorem law_turn (ns : List Int) (j : Nat) (hj : j < 3) (st : Store) (s1 s2 s3 s4 s5 s6 s7 s8 s9 : Option D) :
    ∃ (t2 t3 t4 t5 t6 t7 t8 t9 : Option D) (st' : Store), turn (cf Gs 149) (.tnm 1) b_law_4 (.int (j : Nat)) [some (.scr ns), s1, s2, s3, s4, s5, s6, s7, s8, s9] st = .nx [some (.scr ns), some (.int (j : Nat)), t2, t3, t4, t5, t6, t7, t8, t9] st' := by
  obtain ⟨cv, hc⟩ := k_cell ns (k := j) (by omega)
  have hc := fun st => hc 149 (by omega) st
  have hp := fun v st => k_pen v (show 50 ≤ 149 by omega) st
  have hb := fun (c q : Int) (R : Store) (h0 : -1 ≤ q) (h : q < 10 ^ 27) (m : Int) (hm : 0 < m) (hm2 : m < 10 ^ 100) => k_take st R c h0 h hm hm2 (show 50 ≤ 149 by omega)
  -- the row
  obtain ⟨k, c1, q1, e1, hk0, hk1, ha1, hb1⟩ := hb cv 0 [] (by omega) (by omega) 31 (by omega) (by omega)
  obtain ⟨K, rfl⟩ : ∃ K : Nat, k = K := ⟨k.toNat, by omega⟩
  have rl : (rngD 0 K).length = K := by rw [rng_D, List.length_map, List.length_range]
  obtain ⟨row, c2, q2, e2, hl2, hr2, ha2, hb2⟩ := drawB_gen (F := cf Gs 149) (m := false) (tg := .tnm 9) (elt := e_law_1) (env := [some (.scr ns), some (.int (j : Nat)), some (.ref st.length), s3, s4, s5, s6, s7, s8, none]) D.int (fun _ => rfl) (fun v => v.natAbs < 10 ^ 50) 5 (rngD 0 K) st [] (10 ^ 26) c1 q1 ha1 (by rw [rl]; omega) (by rw [rl]; simp only [sizeLine]; omega) (fun x hx c q R h0 h => by
    obtain ⟨v, c', q', e, hv, a, b⟩ := n_number st R c h0 h (show 51 ≤ 149 by omega)
    refine ⟨v, c', q', ?_, hv, a, b⟩
    rw [rng_D] at hx
    obtain ⟨i, _, rfl⟩ := List.mem_map.mp hx
    simp only [e_law_1]
    simp! [ce_bd, bd0, bd1, bd_nr, as_bd, ga_ce, ga_nr, ga_len, ga_wk, ga_val, st0, st1, st2, as_st, st_ce, tr_ce, up_nr, up_ce, tup_ce, tk_len, tkB, ce_int', x_swhile, Bool.false_eq_true, reduceIte, wk_lst', e])
  rw [rl] at hl2 hb2
  have rg : ∀ st, rngF 1 [.int (K : Nat)] st = .ok (.fix (rngD 0 K)) st := fun st => by
    have hr : rngOk ((K : Nat) : Int) = true := by
      unfold rngOk
      rw [decide_eq_true (by omega), decide_eq_true (by omega)]
      rfl
    simp! [rngF, rng1F, hr, Int.toNat_natCast]
  have hr100 : ∀ v ∈ row, v.natAbs < 10 ^ 100 := fun v hv => by have := hr2 v hv; omega
  obtain ⟨w4, lp⟩ : ∃ w4, ∀ sx, forL (turn (cf Gs 149) (.tnm 4) b_law_2) ((row ++ [0]).map .int) [some (.scr ns), some (.int (j : Nat)), some (.ref st.length), some (.lst (row.map .int)), s4, s5, s6, s7, s8, s9] sx = .nx [some (.scr ns), some (.int (j : Nat)), some (.ref st.length), some (.lst (row.map .int)), w4, s5, s6, s7, s8, s9] sx := b2_loop _ _ _ _ _ _ _ _ _ (row ++ [0]) s4 (fun v hv => by
    rcases List.mem_append.mp hv with hv | hv
    · exact hr2 v hv
    · rw [List.mem_singleton] at hv; subst hv; decide)
  -- the papers
  obtain ⟨p1, c3, q3, e3, f3, d3, z3, ha3, hb3⟩ := paper_draw (Fs := Gs) (i := 15) (im := 14) (it := 12) rfl rfl rfl st 4 142 [some (.lst (row.map .int ++ [.int 1]))] c2 q2 (by omega) ha2 (by omega)
  obtain ⟨u, c4, q4, e4, hu0, hu1, ha4, hb4⟩ := hb c3 q3 [some (.lst (row.map .int ++ [.int 1]))] ha3 (by omega) 4 (by omega) (by omega)
  have pap : ∃ (p : P) (c q : Int), (ex (cf Gs 149) (.sif (.cmp .Eq (.call 12 false (.cons (.var 2) (.cons (.con (.int 4)) .nil))) (.con (.int 0))) (.cons (.sset (.tnm 8) (.call 16 false (.cons (.var 2) (.cons (.sub (.lst false (.cons (.con (.int 100)) (.cons (.con (.int 99)) (.cons (.con (.int 1)) (.cons (.call 12 false (.cons (.var 2) (.cons (.con (.int 101)) .nil))) .nil))))) (.call 12 false (.cons (.var 2) (.cons (.con (.int 4)) .nil)))) .nil)))) .nil) .nil)
      [some (.scr ns), some (.int (j : Nat)), some (.ref st.length), some (.lst (row.map .int)), w4, some (.str (mkS (shR row))), some (.lst (row.map .int)), some (.ref (st.length + 1)), some p1.d, s9] (st ++ penB c3 q3 :: [some (.lst (row.map .int ++ [.int 1]))]) =
      .nx [some (.scr ns), some (.int (j : Nat)), some (.ref st.length), some (.lst (row.map .int)), w4, some (.str (mkS (shR row))), some (.lst (row.map .int)), some (.ref (st.length + 1)), some p.d, s9] (st ++ penB c q :: [some (.lst (row.map .int ++ [.int 1]))])) ∧ p.fit ∧ p.dp ≤ 100 ∧ p.sz ≤ 1000 := by
    by_cases h : u = 0
    · subst h
      obtain ⟨w, c5, q5, e5, hw0, hw1, ha5, hb5⟩ := hb c4 q4 [some (.lst (row.map .int ++ [.int 1]))] ha4 (by omega) 101 (by omega) (by omega)
      obtain ⟨y, c6, q6, e6, hy0, hy1, ha6, hb6⟩ := hb c5 q5 [some (.lst (row.map .int ++ [.int 1]))] ha5 (by omega) 4 (by omega) (by omega)
      obtain ⟨x, hx, hxm⟩ := PA.atI_mem (xs := [D.int 100, .int 99, .int 1, .int w]) hy0 hy1
      obtain ⟨z, rfl, hz⟩ : ∃ z : Nat, x = .int z ∧ z ≤ 100 := by
        simp only [List.mem_cons, List.not_mem_nil, or_false] at hxm
        rcases hxm with rfl | rfl | rfl | rfl
        · exact ⟨100, rfl, by omega⟩
        · exact ⟨99, rfl, by omega⟩
        · exact ⟨1, rfl, by omega⟩
        · exact ⟨w.toNat, by rw [Int.toNat_of_nonneg hw0], by omega⟩
      obtain ⟨p, c7, q7, e7, f7, d7, z7, _, _⟩ := chain_draw (Fs := Gs) (i := 16) (im := 14) (it := 12) rfl rfl rfl 146 st [some (.lst (row.map .int ++ [.int 1]))] c6 ha6 (by omega) (k := z) (by omega)
      have e7' : cf Gs 149 16 [.ref st.length, .int (z : Nat)] (st ++ penB c6 q6 :: [some (.lst (row.map .int ++ [.int 1]))]) = .ok p.d (st ++ penB c7 q7 :: [some (.lst (row.map .int ++ [.int 1]))]) := e7
      refine ⟨p, c7, q7, ?_, f7, by omega, by omega⟩
      simp! [ce_bd, bd0, bd1, bd_nr, as_bd, ga_ce, ga_nr, ga_len, ga_wk, ga_val, st0, st1, st2, as_st, st_ce, tr_ce, up_nr, up_ce, tup_ce, tk_len, tkB, ce_int', x_swhile, Bool.false_eq_true, reduceIte, wk_lst', e4, e5, e6, hx, e7', show decide ((0 : Int) = 0) = true from rfl, ce_pd, P.noref]
    · have d1 : decide (u = 0) = false := decide_eq_false h
      refine ⟨p1, c4, q4, ?_, f3, by omega, by omega⟩
      simp! [ce_bd, bd0, bd1, bd_nr, as_bd, ga_ce, ga_nr, ga_len, ga_wk, ga_val, st0, st1, st2, as_st, st_ce, tr_ce, up_nr, up_ce, tup_ce, tk_len, tkB, ce_int', x_swhile, Bool.false_eq_true, reduceIte, wk_lst', e4, d1]
  obtain ⟨p, cz, qz, ep, fp, dp, sp⟩ := pap
  have pl := P.len fp
  have wr := fun st => written_ok (Fs := Gs) (i := 17) rfl fp (show p.dp ≤ 120 by omega) (show p.sz ≤ 2000 by omega) (by omega) 148 st
  have sh := fun st => show_paper_ok (Fs := Gs) (i := 2) (iN := 0) rfl rfl p (147 - p.dp) st fp (by omega)
  rw [show 147 - p.dp + p.dp + 2 = 149 by omega] at sh
  have srow := shN_asc
  have aR : Asc (shR row) := joinL_asc (.cons (by omega) .nil) fun w hw => by
    obtain ⟨v, _, rfl⟩ := List.mem_map.mp hw
    exact shN_asc v
  have lR : (shR row).length ≤ 90000 := by
    have := joinL_len (S := [32]) (k := 51) (ws := row.map shN) (fun w hw => by
      obtain ⟨v, hv, rfl⟩ := List.mem_map.mp hw
      exact shN_len (k := 50) (by omega) (hr2 v hv))
    rw [List.length_map, List.length_singleton] at this
    have h31 : row.length ≤ 30 := by omega
    have h52 : row.length * (51 + 1) ≤ 30 * 52 := Nat.mul_le_mul_right _ h31
    unfold shR
    omega
  have str1 := fun (v : Int) (hv : v ∈ row) st => str_i false (hr100 v hv) st
  have cm : ∀ (t2 t5 : Option D) (st : Store), compS (cf Gs 149) false (.tnm 4) .no e_law_3 [some (.scr ns), some (.int (j : Nat)), t2, some (.lst (row.map .int)), none, t5, s6, s7, s8, s9] (.fix (row.map .int)) st = .ok (.lst ((row.map shN).map fun w => .str (mkS w))) st := fun t2 t5 st => by
    rw [compS_mapT (fun x => match x with | .int v => .str (mkS (shN v)) | _ => .non) (fun x hx acc => ?_) (fun x hx => ?_) (by rw [List.length_map]; simp only [sizeLine]; omega), mk_false, List.map_map, List.map_map]
    · rfl
    · obtain ⟨v, hv, rfl⟩ := List.mem_map.mp hx
      simp only [e_law_3]
      simp! [ce_bd, bd0, bd1, bd_nr, as_bd, ga_ce, ga_nr, ga_len, ga_wk, ga_val, st0, st1, st2, as_st, st_ce, tr_ce, up_nr, up_ce, tup_ce, tk_len, tkB, ce_int', x_swhile, Bool.false_eq_true, reduceIte, wk_lst', str1 v hv]
    · obtain ⟨v, hv, rfl⟩ := List.mem_map.mp hx
      rfl
  have jo := fun st => join_s false 32 (ws := row.map shN) (by rw [List.length_map]; omega) (fun w hw => by
    obtain ⟨v, hv, rfl⟩ := List.mem_map.mp hw
    have := shN_len (k := 50) (by omega) (hr2 v hv)
    omega) st
  have z32 : Str.ofString " " = mkS [32] := by decide +kernel
  have z0 : Str.ofString "" = mkS [] := by decide +kernel
  have rr := fun (m : Bool) (st : Store) => read_row_ok (Fs := Gs) (b := false) (m := m) (i := 5) (ir := 4) (im := 3) rfl rfl rfl aR lR 146 st
  rw [rdR_shR hr2] at rr
  have rr : ∀ (m : Bool) (st : Store), (cf Gs 149 5 [.str (mkS (shR row))] st).bind (callEnd m st.length) = mk m (row.map .int) st := rr
  have re := fun (m : Bool) (st : Store) => read_row_ok (Fs := Gs) (b := false) (m := m) (i := 5) (ir := 4) (im := 3) rfl rfl rfl .nil (Nat.zero_le _) 146 st
  have re : ∀ (m : Bool) (st : Store), (cf Gs 149 5 [.str (mkS [])] st).bind (callEnd m st.length) = mk m [] st := re
  have sr := fun st => show_row_ok (Fs := Gs) (i := 1) (k := 0) rfl rfl (ns := row) (by omega) hr100 147 st
  have se := fun st => show_row_ok (Fs := Gs) (i := 1) (k := 0) rfl rfl (ns := []) (by simp) (fun v hv => by cases hv) 147 st
  have se : ∀ st, cf Gs 149 1 [.lst []] st = .ok (.str (mkS [])) st := se
  have ee := eqS aR aR
  rw [decide_eq_true rfl] at ee
  have e0 := eqS .nil .nil
  rw [decide_eq_true rfl] at e0
  have plR : Pl 64 (.lst (row.map .int)) := (Pl.lst (k := 0) fun d hd => by
    obtain ⟨v, _, rfl⟩ := List.mem_map.mp hd
    exact .int v).le (by omega)
  have el := eqD_refl plR
  have eN : eqD (.lst []) (.lst []) = some true := eqD_nil' (xs := []) ((Pl.lst (k := 0) fun d hd => by cases hd).le (by omega))
  have rp := fun st => read_paper_ok (Fs := Gs) (b := false) (i := 9) (ip := 8) (ig := 6) (im := 3) (is := 7) rfl rfl rfl rfl rfl p.asc (show p.sh.length ≤ 90000 by omega) 45 st
  rw [rdP_sh fp (by omega)] at rp
  have rp : ∀ st, cf Gs 149 9 [.str (mkS p.sh)] st = .ok p.d st := rp
  have ri := fun st => right_ok fp (show p.dp ≤ 120 by omega) (show p.sz ≤ 2000 by omega) st
  have eP := eqS p.asc p.asc
  rw [decide_eq_true rfl] at eP
  have eD := eqD_refl' (p.pl.le (show p.dp + 1 ≤ 150 by omega))
  have g1 : ∀ c X, (st ++ [c, X])[st.length + 1]? = some X := fun c X => by
    rw [List.getElem?_append_right (by omega)]; simp
  have gs : ∀ c X Y, (st ++ [c, X]).set (st.length + 1) Y = st ++ [c, Y] := fun c X Y => by
    rw [List.set_append_right _ _ (by omega)]; simp
  have iL : ∀ c X, isiF (.ref (st.length + 1)) "list" (st ++ [c, some (.lst X)]) = .ok (.bl true) (st ++ [c, some (.lst X)]) := fun c X => by
    simp only [isiF, lstOf_ref, g1]
    rfl
  have T0 : turn (cf Gs 149) (.tnm 1) b_law_4 (.int (j : Nat)) [some (.scr ns), s1, s2, s3, s4, s5, s6, s7, s8, s9] st = ex (cf Gs 149) b_law_4 [some (.scr ns), some (.int (j : Nat)), s2, s3, s4, s5, s6, s7, s8, s9] st := by
    simp only [turn]; simp! [ce_bd, bd0, bd1, bd_nr, as_bd, ga_ce, ga_nr, ga_len, ga_wk, ga_val, st0, st1, st2, as_st, st_ce, tr_ce, up_nr, up_ce, tup_ce, tk_len, tkB, ce_int', x_swhile, Bool.false_eq_true, reduceIte, wk_lst']
  rw [T0, b_law_4]
  rw [ex_nx (env' := [some (.scr ns), some (.int (j : Nat)), some (.ref st.length), s3, s4, s5, s6, s7, s8, s9]) (st' := st ++ [penB cv 0]) ?_]
  rotate_left
  · simp! [ce_bd, bd0, bd1, bd_nr, as_bd, ga_ce, ga_nr, ga_len, ga_wk, ga_val, st0, st1, st2, as_st, st_ce, tr_ce, up_nr, up_ce, tup_ce, tk_len, tkB, ce_int', x_swhile, Bool.false_eq_true, reduceIte, wk_lst', hc, hp]
  rw [ex_nx (env' := [some (.scr ns), some (.int (j : Nat)), some (.ref st.length), some (.lst (row.map .int)), s4, s5, s6, s7, s8, s9]) (st' := st ++ [penB c2 q2]) ?_]
  rotate_left
  · simp! [ce_bd, bd0, bd1, bd_nr, as_bd, ga_ce, ga_nr, ga_len, ga_wk, ga_val, st0, st1, st2, as_st, st_ce, tr_ce, up_nr, up_ce, tup_ce, tk_len, tkB, ce_int', x_swhile, Bool.false_eq_true, reduceIte, wk_lst', e1, rg, e2]
  rw [ex_nx (env' := [some (.scr ns), some (.int (j : Nat)), some (.ref st.length), some (.lst (row.map .int)), w4, s5, s6, s7, s8, s9]) (st' := st ++ [penB c2 q2]) ?_]
  rotate_left
  · have em : (row ++ [0]).map D.int = row.map D.int ++ [.int 0] := by simp
    simp only [em] at lp
    ((try simp! [ce_bd, bd0, bd1, bd_nr, as_bd, ga_ce, ga_nr, ga_len, ga_wk, ga_val, st0, st1, st2, as_st, st_ce, tr_ce, up_nr, up_ce, tup_ce, tk_len, tkB, ce_int', x_swhile, Bool.false_eq_true, reduceIte, wk_lst', lp]); (repeat (walk_at "zo"; try simp! [ce_bd, bd0, bd1, bd_nr, as_bd, ga_ce, ga_nr, ga_len, ga_wk, ga_val, st0, st1, st2, as_st, st_ce, tr_ce, up_nr, up_ce, tup_ce, tk_len, tkB, ce_int', x_swhile, Bool.false_eq_true, reduceIte, wk_lst', lp])))
  rw [ex_nx (env' := [some (.scr ns), some (.int (j : Nat)), some (.ref st.length), some (.lst (row.map .int)), w4, some (.str (mkS (shR row))), s6, s7, s8, s9]) (st' := st ++ [penB c2 q2]) ?_]
  rotate_left
  · simp! [ce_bd, bd0, bd1, bd_nr, as_bd, ga_ce, ga_nr, ga_len, ga_wk, ga_val, st0, st1, st2, as_st, st_ce, tr_ce, up_nr, up_ce, tup_ce, tk_len, tkB, ce_int', x_swhile, Bool.false_eq_true, reduceIte, wk_lst', cm, z32, jo]
    rfl
  rw [ex_nx (env' := [some (.scr ns), some (.int (j : Nat)), some (.ref st.length), some (.lst (row.map .int)), w4, some (.str (mkS (shR row))), some (.lst (row.map .int)), s7, s8, s9]) (st' := st ++ [penB c2 q2]) ?_]
  rotate_left
  · simp! [ce_bd, bd0, bd1, bd_nr, as_bd, ga_ce, ga_nr, ga_len, ga_wk, ga_val, st0, st1, st2, as_st, st_ce, tr_ce, up_nr, up_ce, tup_ce, tk_len, tkB, ce_int', x_swhile, Bool.false_eq_true, reduceIte, wk_lst']
  rw [ex_nx (env' := [some (.scr ns), some (.int (j : Nat)), some (.ref st.length), some (.lst (row.map .int)), w4, some (.str (mkS (shR row))), some (.lst (row.map .int)), some (.ref (st.length + 1)), s8, s9]) (st' := st ++ penB c2 q2 :: [some (.lst (row.map .int))]) ?_]
  rotate_left
  · have e : (cf Gs 149 5 [.str (mkS (shR row))] (st ++ [penB c2 q2])).bind (callEnd true (st.length + 1)) = .ok (.ref (st.length + 1)) (st ++ [penB c2 q2, some (.lst (row.map .int))]) := by
      have := rr true (st ++ [penB c2 q2])
      rw [show (st ++ [penB c2 q2]).length = st.length + 1 by simp, mk_true] at this
      rw [this]
      simp
    simp! [ce_bd, bd0, bd1, bd_nr, as_bd, ga_ce, ga_nr, ga_len, ga_wk, ga_val, st0, st1, st2, as_st, st_ce, tr_ce, up_nr, up_ce, tup_ce, tk_len, tkB, ce_int', x_swhile, Bool.false_eq_true, reduceIte, wk_lst', e, List.append_assoc, List.length_append]
  rw [ex_nx (env' := [some (.scr ns), some (.int (j : Nat)), some (.ref st.length), some (.lst (row.map .int)), w4, some (.str (mkS (shR row))), some (.lst (row.map .int)), some (.ref (st.length + 1)), s8, s9]) (st' := st ++ penB c2 q2 :: [some (.lst (row.map .int))]) ?_]
  rotate_left
  · simp! [ce_bd, bd0, bd1, bd_nr, as_bd, ga_ce, ga_nr, ga_len, ga_wk, ga_val, st0, st1, st2, as_st, st_ce, tr_ce, up_nr, up_ce, tup_ce, tk_len, tkB, ce_int', x_swhile, Bool.false_eq_true, reduceIte, wk_lst', sr, ee, el, iL, g1]
  rw [ex_nx (env' := [some (.scr ns), some (.int (j : Nat)), some (.ref st.length), some (.lst (row.map .int)), w4, some (.str (mkS (shR row))), some (.lst (row.map .int)), some (.ref (st.length + 1)), s8, s9]) (st' := st ++ penB c2 q2 :: [some (.lst (row.map .int ++ [.int 1]))]) ?_]
  rotate_left
  · simp! [ce_bd, bd0, bd1, bd_nr, as_bd, ga_ce, ga_nr, ga_len, ga_wk, ga_val, st0, st1, st2, as_st, st_ce, tr_ce, up_nr, up_ce, tup_ce, tk_len, tkB, ce_int', x_swhile, Bool.false_eq_true, reduceIte, wk_lst', g1]
    rw [if_pos (by rw [List.length_map]; omega), gs]
    simp! [ce_bd, bd0, bd1, bd_nr, as_bd, ga_ce, ga_nr, ga_len, ga_wk, ga_val, st0, st1, st2, as_st, st_ce, tr_ce, up_nr, up_ce, tup_ce, tk_len, tkB, ce_int', x_swhile, Bool.false_eq_true, reduceIte, wk_lst']
  rw [ex_nx (env' := [some (.scr ns), some (.int (j : Nat)), some (.ref st.length), some (.lst (row.map .int)), w4, some (.str (mkS (shR row))), some (.lst (row.map .int)), some (.ref (st.length + 1)), s8, s9]) (st' := st ++ penB c2 q2 :: [some (.lst (row.map .int ++ [.int 1]))]) ?_]
  rotate_left
  · have r1 := fun st => rr false st
    have r2 := fun st => re false st
    simp only [mk_false] at r1 r2
    simp! [ce_bd, bd0, bd1, bd_nr, as_bd, ga_ce, ga_nr, ga_len, ga_wk, ga_val, st0, st1, st2, as_st, st_ce, tr_ce, up_nr, up_ce, tup_ce, tk_len, tkB, ce_int', x_swhile, Bool.false_eq_true, reduceIte, wk_lst', r1, r2, se, el, eN, e0, z0]
  rw [ex_nx (env' := [some (.scr ns), some (.int (j : Nat)), some (.ref st.length), some (.lst (row.map .int)), w4, some (.str (mkS (shR row))), some (.lst (row.map .int)), some (.ref (st.length + 1)), some p1.d, s9]) (st' := st ++ penB c3 q3 :: [some (.lst (row.map .int ++ [.int 1]))]) ?_]
  rotate_left
  · have e3' : cf Gs 149 15 [.ref st.length, .int 4] (st ++ penB c2 q2 :: [some (.lst (row.map .int ++ [.int 1]))]) = .ok p1.d (st ++ penB c3 q3 :: [some (.lst (row.map .int ++ [.int 1]))]) := e3
    simp! [ce_bd, bd0, bd1, bd_nr, as_bd, ga_ce, ga_nr, ga_len, ga_wk, ga_val, st0, st1, st2, as_st, st_ce, tr_ce, up_nr, up_ce, tup_ce, tk_len, tkB, ce_int', x_swhile, Bool.false_eq_true, reduceIte, wk_lst', e3', ce_pd, P.noref]
  rw [ex_nx ep]
  rw [ex_nx (env' := [some (.scr ns), some (.int (j : Nat)), some (.ref st.length), some (.lst (row.map .int)), w4, some (.str (mkS p.sh)), some (.lst (row.map .int)), some (.ref (st.length + 1)), some p.d, s9]) (st' := st ++ penB cz qz :: [some (.lst (row.map .int ++ [.int 1]))]) ?_]
  rotate_left
  · simp! [ce_bd, bd0, bd1, bd_nr, as_bd, ga_ce, ga_nr, ga_len, ga_wk, ga_val, st0, st1, st2, as_st, st_ce, tr_ce, up_nr, up_ce, tup_ce, tk_len, tkB, ce_int', x_swhile, Bool.false_eq_true, reduceIte, wk_lst', wr]
  rw [ex_nx (env' := [some (.scr ns), some (.int (j : Nat)), some (.ref st.length), some (.lst (row.map .int)), w4, some (.str (mkS p.sh)), some (.lst (row.map .int)), some (.ref (st.length + 1)), some p.d, s9]) (st' := st ++ penB cz qz :: [some (.lst (row.map .int ++ [.int 1]))]) ?_]
  rotate_left
  · simp! [ce_bd, bd0, bd1, bd_nr, as_bd, ga_ce, ga_nr, ga_len, ga_wk, ga_val, st0, st1, st2, as_st, st_ce, tr_ce, up_nr, up_ce, tup_ce, tk_len, tkB, ce_int', x_swhile, Bool.false_eq_true, reduceIte, wk_lst', sh, eP, rp, eD, ri, val_pd, ce_pd]
  exact ⟨_, _, _, _, _, _, _, _, _, x_nil _ _ _⟩
theorem law_true : ∀ ns : List Int, ns.length ≤ 63 → (∀ z ∈ ns, PySem.Builtin.Int.intBits z ≤ 1048576) → ∃ st', Zn.cf Tx.Fs 150 Tx.i_law [.scr ns] [] = .ok (.bl true) st' := by
  intro ns _ _
  rw [cf_key Gs_key]
  obtain ⟨a2, a3, a4, a5, a6, a7, a8, a9, s1, h1⟩ := law_turn ns 0 (by omega) [] none none none none none none none none none
  obtain ⟨b2, b3, b4, b5, b6, b7, b8, b9, s2, h2⟩ := law_turn ns 1 (by omega) s1 (some (.int (0 : Nat))) a2 a3 a4 a5 a6 a7 a8 a9
  obtain ⟨c2, c3, c4, c5, c6, c7, c8, c9, s3, h3⟩ := law_turn ns 2 (by omega) s2 (some (.int (1 : Nat))) b2 b3 b4 b5 b6 b7 b8 b9
  refine ⟨s3, ?_⟩
  rw [show ((0 : Nat) : Int) = 0 from rfl] at h1
  rw [show ((0 : Nat) : Int) = 0 from rfl, show ((1 : Nat) : Int) = 1 from rfl] at h2
  rw [show ((1 : Nat) : Int) = 1 from rfl, show ((2 : Nat) : Int) = 2 from rfl] at h3
  have e : Zn.cf Gs 150 20 [.scr ns] [] = bodyEnd (ex (cf Gs 149) f_law.body (startE f_law.N.length f_law.ps.length [.scr ns]) []) := cf_at (fn := f_law) rfl rfl
  have r3 : rngD 0 3 = [.int 0, .int 1, .int 2] := rfl
  show Zn.cf Gs 150 20 [.scr ns] [] = _
  rw [e]
  simp only [f_law, t_law]
  have lp : forL (turn (cf Gs 149) (.tnm 1) b_law_4) (rngD 0 3) [some (.scr ns), none, none, none, none, none, none, none, none, none] [] = .nx [some (.scr ns), some (.int 2), c2, c3, c4, c5, c6, c7, c8, c9] s3 := by
    rw [r3, forL_nx h1, forL_nx h2, forL_nx h3, forL_nil]
  simp! [ce_bd, bd0, bd1, bd_nr, as_bd, ga_ce, ga_nr, ga_len, ga_wk, ga_val, st0, st1, st2, as_st, st_ce, tr_ce, up_nr, up_ce, tup_ce, tk_len, tkB, ce_int', x_swhile, Bool.false_eq_true, reduceIte, wk_lst', show ∀ st, rngF 1 [.int 3] st = .ok (.fix (rngD 0 3)) st from fun _ => rfl, lp]
end Tx

open PySem PySem.W PyProof.Rows
set_option maxHeartbeats 0 in
theorem PySem.Challenge.cw_manyleast_k57_texts_written_and_read_holds : PySem.Challenge.rw_manyleast_k57_texts_written_and_read.Holds := by
  w_on; o_law; k_head; (case hw => w_witness2)
  k_fill
  refine Zn.walk_end (l := PySem.Challenge.rw_manyleast_k57_texts_written_and_read) (Fs := Tx.Fs) (k := 150) (f := 20) (fn := Tx.f_law) rfl rfl ⟨rfl, by decide, by decide⟩ (fun w h Y => PySem.W.kIn_of Y) rfl rfl rfl rfl ?F Tx.law_true
  case F =>
    intro w mg h KX G XX
    refine' Tx.tab KX G ?a0 ?l0 ?c0 ?k0 ?a1 ?l1 ?c1 ?k1 ?a2 ?l2 ?c2 ?k2 ?a3 ?l3 ?c3 ?k3 ?a4 ?l4 ?c4 ?k4 ?a5 ?l5 ?c5 ?k5 ?a6 ?l6 ?c6 ?k6 ?a7 ?l7 ?c7 ?k7 ?a8 ?l8 ?c8 ?k8 ?a9 ?l9 ?c9 ?k9 ?a10 ?l10 ?c10 ?k10 ?a11 ?l11 ?c11 ?k11 ?a12 ?l12 ?c12 ?k12 ?a13 ?l13 ?c13 ?k13 ?a14 ?l14 ?c14 ?k14 ?a15 ?l15 ?c15 ?k15 ?a16 ?l16 ?c16 ?k16 ?a17 ?l17 ?c17 ?k17 ?a18 ?l18 ?c18 ?k18 ?a19 ?l19 ?c19 ?k19 ?a20 ?l20 ?c20 ?k20 ?zg0 ?zg1 ?zg2 ?zz
    (case zg0 => first | (apply Exists.intro; refine PySem.W.mg_of KX G ?_; k_is) | exact Zn.loose_int XX.2 (by simp))
    (case zg1 => first | (apply Exists.intro; refine PySem.W.mg_of KX G ?_; k_is) | exact Zn.loose_int XX.2 (by simp))
    (case zg2 => first | (apply Exists.intro; refine PySem.W.mg_of KX G ?_; k_is) | exact Zn.loose_int XX.2 (by simp))
    (case a0 => k_is); (case l0 => k_is); (case c0 => k_is); (case k0 => k_is)
    (case a1 => k_is); (case l1 => k_is); (case c1 => k_is); (case k1 => k_is)
    (case a2 => k_is); (case l2 => k_is); (case c2 => k_is); (case k2 => k_is)
    (case a3 => k_is); (case l3 => k_is); (case c3 => k_is); (case k3 => k_is)
    (case a4 => k_is); (case l4 => k_is); (case c4 => k_is); (case k4 => k_is)
    (case a5 => k_is); (case l5 => k_is); (case c5 => k_is); (case k5 => k_is)
    (case a6 => k_is); (case l6 => k_is); (case c6 => k_is); (case k6 => k_is)
    (case a7 => k_is); (case l7 => k_is); (case c7 => k_is); (case k7 => k_is)
    (case a8 => k_is); (case l8 => k_is); (case c8 => k_is); (case k8 => k_is)
    (case a9 => k_is); (case l9 => k_is); (case c9 => k_is); (case k9 => k_is)
    (case a10 => k_is); (case l10 => k_is); (case c10 => k_is); (case k10 => k_is)
    (case a11 => k_is); (case l11 => k_is); (case c11 => k_is); (case k11 => k_is)
    (case a12 => k_is); (case l12 => k_is); (case c12 => k_is); (case k12 => k_is)
    (case a13 => k_is); (case l13 => k_is); (case c13 => k_is); (case k13 => k_is)
    (case a14 => k_is); (case l14 => k_is); (case c14 => k_is); (case k14 => k_is)
    (case a15 => k_is); (case l15 => k_is); (case c15 => k_is); (case k15 => k_is)
    (case a16 => k_is); (case l16 => k_is); (case c16 => k_is); (case k16 => k_is)
    (case a17 => k_is); (case l17 => k_is); (case c17 => k_is); (case k17 => k_is)
    (case a18 => k_is); (case l18 => k_is); (case c18 => k_is); (case k18 => k_is)
    (case a19 => k_is); (case l19 => k_is); (case c19 => k_is); (case k19 => k_is)
    (case a20 => k_is); (case l20 => k_is); (case c20 => k_is); (case k20 => k_is)
    (case zz => (unfold Zn.bltNames; (repeat (refine List.forall_mem_cons.mpr ⟨by k_is, ?_⟩)); exact fun _ h => nomatch h))

