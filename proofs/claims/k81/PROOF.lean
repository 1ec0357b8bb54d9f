import PyProof.Rows.All
import Wide.All
import OpenK.AllK
import Wide.FinOn
import HandS.ForMost
import HandS.Defaults
import HandS.Codes
import HandS.Deep
import HandS.TupAny
import HandS.TupLe
import HandS.Style
import HandS.IsInst
import HandS.Zip
import HandS.Walk
import HandS.Wide
import HandS.TupLen
import HandS.Conv
import HandS.Star
import KE.SortData
import HandS.Small
import KE.GoesEnum
import HandS.DictComp
import HandS.Words
import HandS.Iter
import HandS.List
import HandS.More
import HandS.Dict
import KE.KDictPairs
import HandS.HeadHook2
import HandS.Head3
import HandS.HeadEnd
import PySem.Challenge.RW_madetables_k81_strikes_clause_by_clause
set_option Elab.async false
set_option linter.all false
set_option maxRecDepth 100000
section
set_option maxHeartbeats 1000000
/-! values as data, cells, the relation between slots, heap and data -/
namespace Q
open PySem PySem.Spec PyProof.Rows L2

inductive D where
  | non | bl (b : Bool) | int (i : Int) | str (x : Str)
  | tup (l : List D) | lst (l : List D) | klst (l : List D) | dct (t : Bool) (l : List (D × D)) | obj (C : Addr) (l : List (Str × D))
  deriving Inhabited

inductive Cell where
  | val (d : D) | own (d : D) | par (j : Nat) (d : D) | old (d : D) | lent (d : D)
abbrev Env := List (Option Cell)
def Cell.d : Cell → D
  | .val d => d | .own d => d | .par _ d => d | .old d => d | .lent d => d

def Ex (H H' : Hp) : Prop := ∀ a o, H a = some o → H' a = some o
theorem Ex.refl (H : Hp) : Ex H H := fun _ _ h => h
theorem Ex.trans {H H1 H2 : Hp} (a : Ex H H1) (b : Ex H1 H2) : Ex H H2 := fun x o h => b x o (a x o h)
theorem Ex.new {H : Hp} {p : Addr} {o : HO} (h : H p = none) : Ex H (upd H p o) := fun a u e => by
  rw [upd_ne (ne_of_none e h)]
  exact e
theorem Ex.mut {H H' : Hp} {p : Addr} {o : HO} (e : Ex H H') (h : H p = none) : Ex H (upd H' p o) := fun a u ha => by
  rw [upd_ne (ne_of_none ha h)]
  exact e a u ha
theorem Ex.upd2 {H H' : Hp} {p : Addr} {o : HO} (e : Ex H H') : Ex (upd H p o) (upd H' p o) := fun a u ha => by
  by_cases h : a = p
  · subst h; rw [upd_same] at *; exact ha
  · rw [upd_ne h] at *; exact e a u ha
theorem Ex.back {H H' : Hp} {p : Addr} (e : Ex H H') (h : H' p = none) : H p = none := by
  cases h1 : H p with
  | none => rfl
  | some o => rw [e p o h1] at h; cases h
theorem ex_rd {H H' : Hp} {a : Addr} {u : HO} (e : Ex H H') (h : Rd H a u) : Rd H' a u := by
  rcases h with h | ⟨o, h⟩
  · exact Or.inl (e a _ h)
  · exact Or.inr ⟨o, e a _ h⟩
theorem ex_l {K : PySem.W.Frag} {H H' : Hp} {a : Addr} {xs : List V} (e : Ex H H') (h : SqL K H a xs) : SqL K H' a xs := by
  rcases h with h | h
  · exact Or.inl (ex_rd e h)
  · exact Or.inr h
theorem ex_t {K : PySem.W.Frag} {H H' : Hp} {a : Addr} {xs : List V} (e : Ex H H') (h : SqT K H a xs) : SqT K H' a xs := by
  rcases h with h | h
  · exact Or.inl (ex_rd e h)
  · exact Or.inr h

/-- what is frozen stays; a dict may be locked -/
def isDict : HO → Bool
  | .dK _ => true
  | .dT _ => true
  | _ => false
def Le (F F' : Hp) : Prop := ∀ a o, F a = some o → F' a = some o ∨ (isDict o = true ∧ ∃ od, F' a = some (.frz od o))
theorem Ex.le {F F' : Hp} (e : Ex F F') : Le F F' := fun a o h => .inl (e a o h)
theorem Le.refl (F : Hp) : Le F F := fun _ _ h => .inl h
theorem Le.trans {F F1 F2 : Hp} (a : Le F F1) (b : Le F1 F2) : Le F F2 := fun x o h => by
  rcases a x o h with h1 | ⟨d, od, h1⟩
  · exact b x o h1
  · rcases b x _ h1 with h2 | ⟨d2, _⟩
    · exact .inr ⟨d, od, h2⟩
    · cases d2
theorem Le.at {F F' : Hp} (e : Le F F') {a : Addr} {o : HO} (n : isDict o = false) (h : F a = some o) : F' a = some o := by
  rcases e a o h with h1 | ⟨d, _⟩
  · exact h1
  · rw [n] at d; cases d
theorem le_rd {H H' : Hp} {a : Addr} {u : HO} (e : Le H H') (h : Rd H a u) : Rd H' a u := by
  rcases h with h | ⟨o, h⟩
  · rcases e a _ h with h1 | ⟨_, od, h1⟩
    · exact Or.inl h1
    · exact Or.inr ⟨od, h1⟩
  · exact Or.inr ⟨o, e.at rfl h⟩
theorem le_l {K : PySem.W.Frag} {H H' : Hp} {a : Addr} {xs : List V} (e : Le H H') (h : SqL K H a xs) : SqL K H' a xs := by
  rcases h with h | h
  · exact Or.inl (le_rd e h)
  · exact Or.inr h
theorem le_t {K : PySem.W.Frag} {H H' : Hp} {a : Addr} {xs : List V} (e : Le H H') (h : SqT K H a xs) : SqT K H' a xs := by
  rcases h with h | h
  · exact Or.inl (le_rd e h)
  · exact Or.inr h

/-- a list of the written part -/
def KL (K : PySem.W.Frag) (a : Addr) (xs : List V) : Prop := SqL K (fun _ => none) a xs
theorem KL.sq {K : PySem.W.Frag} {a : Addr} {xs : List V} (h : KL K a xs) (H : Hp) : SqL K H a xs := ex_l (fun _ _ e => by cases (show (none : Option HO) = some _ from e)) h
def kD : Key → D
  | .inl i => .int i
  | .inr x => .str x
mutual
inductive Rp (K : PySem.W.Frag) (F : Hp) : V → D → Prop
  | non : Rp K F .non .non
  | bl (b : Bool) : Rp K F (.bl b) (.bl b)
  | int (i : Int) : Rp K F (.int i) (.int i)
  | str (x : Str) : Rp K F (.str x) (.str x)
  | tup {a : Addr} {xs : List V} {ds : List D} : F a = some (.tup xs) → Rps K F xs ds → ds.length ≤ sizeLine → Rp K F (.ref a) (.tup ds)
  | lst {a : Addr} {xs : List V} {ds : List D} : Rd F a (.lst xs) → Rps K F xs ds → ds.length ≤ sizeLine → Rp K F (.ref a) (.lst ds)
  | klst {a : Addr} {xs : List V} {ds : List D} : KL K a xs → Rps K F xs ds → ds.length ≤ sizeLine → Rp K F (.ref a) (.klst ds)
  | dk {a : Addr} {kvs : List (Key × V)} {l : List (D × D)} : Rd F a (.dK kvs) → RpK K F kvs l → Rp K F (.ref a) (.dct false l)
  | dt {a : Addr} {kvs : List (List Key × V)} {l : List (D × D)} : Rd F a (.dT kvs) → RpT K F kvs l → Rp K F (.ref a) (.dct true l)
  | obj {a C dx : Addr} {fs : List (Str × V)} {l : List (Str × D)} : F a = some (.ins C dx fs) → RpF K F fs l → Rp K F (.ref a) (.obj C l)
inductive Rps (K : PySem.W.Frag) (F : Hp) : List V → List D → Prop
  | nil : Rps K F [] []
  | cons {v : V} {d : D} {vs : List V} {ds : List D} : Rp K F v d → Rps K F vs ds → Rps K F (v :: vs) (d :: ds)
inductive RpK (K : PySem.W.Frag) (F : Hp) : List (Key × V) → List (D × D) → Prop
  | nil : RpK K F [] []
  | cons {k : Key} {v : V} {d : D} {vs : List (Key × V)} {ds : List (D × D)} : Rp K F v d → RpK K F vs ds → RpK K F ((k, v) :: vs) ((kD k, d) :: ds)
inductive RpT (K : PySem.W.Frag) (F : Hp) : List (List Key × V) → List (D × D) → Prop
  | nil : RpT K F [] []
  | cons {k : List Key} {v : V} {d : D} {vs : List (List Key × V)} {ds : List (D × D)} : Rp K F v d → RpT K F vs ds → RpT K F ((k, v) :: vs) ((.tup (k.map kD), d) :: ds)
inductive RpF (K : PySem.W.Frag) (F : Hp) : List (Str × V) → List (Str × D) → Prop
  | nil : RpF K F [] []
  | cons {k : Str} {v : V} {d : D} {vs : List (Str × V)} {ds : List (Str × D)} : Rp K F v d → RpF K F vs ds → RpF K F ((k, v) :: vs) ((k, d) :: ds)
end

section
variable {K : PySem.W.Frag} {F F' : Hp}
mutual
theorem Rp.mono (e : Le F F') : ∀ {v : V} {d : D}, Rp K F v d → Rp K F' v d
  | _, _, .non => .non
  | _, _, .bl b => .bl b
  | _, _, .int i => .int i
  | _, _, .str x => .str x
  | _, _, .tup h r n => .tup (e.at rfl h) (Rps.mono e r) n
  | _, _, .lst h r n => .lst (le_rd e h) (Rps.mono e r) n
  | _, _, .klst h r n => .klst h (Rps.mono e r) n
  | _, _, .dk h r => .dk (le_rd e h) (RpK.mono e r)
  | _, _, .dt h r => .dt (le_rd e h) (RpT.mono e r)
  | _, _, .obj h r => .obj (e.at rfl h) (RpF.mono e r)
theorem Rps.mono (e : Le F F') : ∀ {v : List V} {d : List D}, Rps K F v d → Rps K F' v d
  | _, _, .nil => .nil
  | _, _, .cons h r => .cons (Rp.mono e h) (Rps.mono e r)
theorem RpK.mono (e : Le F F') : ∀ {v : List (Key × V)} {d : List (D × D)}, RpK K F v d → RpK K F' v d
  | _, _, .nil => .nil
  | _, _, .cons h r => .cons (Rp.mono e h) (RpK.mono e r)
theorem RpT.mono (e : Le F F') : ∀ {v : List (List Key × V)} {d : List (D × D)}, RpT K F v d → RpT K F' v d
  | _, _, .nil => .nil
  | _, _, .cons h r => .cons (Rp.mono e h) (RpT.mono e r)
theorem RpF.mono (e : Le F F') : ∀ {v : List (Str × V)} {d : List (Str × D)}, RpF K F v d → RpF K F' v d
  | _, _, .nil => .nil
  | _, _, .cons h r => .cons (Rp.mono e h) (RpF.mono e r)
end
end
end Q
end
section
set_option maxHeartbeats 1000000
namespace Q
open PySem PySem.Spec PyProof.Rows L2

/-- what an owned object holds -/
inductive RO (K : PySem.W.Frag) (F : Hp) : HO → D → Prop
  | lst {xs : List V} {ds : List D} : Rps K F xs ds → ds.length ≤ sizeLine → RO K F (.lst xs) (.lst ds)
  | dk {kvs : List (Key × V)} {l : List (D × D)} : RpK K F kvs l → RO K F (.dK kvs) (.dct false l)
  | dt {kvs : List (List Key × V)} {l : List (D × D)} : RpT K F kvs l → RO K F (.dT kvs) (.dct true l)
  | obj {C dx : Addr} {fs : List (Str × V)} {l : List (Str × D)} : RpF K F fs l → RO K F (.ins C dx fs) (.obj C l)
section
variable {K : PySem.W.Frag} {F F' : Hp}
theorem RO.mono (e : Le F F') {o : HO} {d : D} (h : RO K F o d) : RO K F' o d := by
  cases h with
  | lst h n => exact .lst (h.mono e) n
  | dk h => exact .dk (h.mono e)
  | dt h => exact .dt (h.mono e)
  | obj h => exact .obj (h.mono e)
theorem RO.froz {o : HO} {d : D} {a : Addr} (h : RO K F o d) (e : F a = some o) : Rp K F (.ref a) d := by
  cases h with
  | lst h n => exact .lst (.inl e) h n
  | dk h => exact .dk (.inl e) h
  | dt h => exact .dt (.inl e) h
  | obj h => exact .obj e h
end

/-- what stays through a def: the written part, an older frozen part, the addresses of what was handed -/
structure Bx where
  K : PySem.W.Frag
  G : Hp
  A : Nat → Option Addr
def Cell.isOwn : Cell → Bool
  | .own _ => true
  | .par _ _ => true
  | _ => false
def CR (B : Bx) (F H : Hp) (v : V) : Cell → Prop
  | .val d => Rp B.K F v d
  | .old d => Rp B.K B.G v d
  | .own d => ∃ a o, v = .ref a ∧ H a = some o ∧ RO B.K F o d ∧ F a = none
  | .par j d => ∃ a o, v = .ref a ∧ B.A j = some a ∧ H a = some o ∧ RO B.K F o d ∧ F a = none
  | .lent d => ∃ a xs, v = .ref a ∧ F a = some (.lst xs) ∧ RO B.K B.G (.lst xs) d ∧ B.G a = none
def Own (σ : L2.St) (ρ : Env) (i : Nat) (a : Addr) : Prop := σ[i]? = some (some (.ref a)) ∧ ∃ c, ρ[i]? = some (some c) ∧ c.isOwn = true
structure RE (B : Bx) (O F H : Hp) (σ : L2.St) (ρ : Env) : Prop where
  fh : Ex F H
  oh : Ex O H
  gf : Le B.G F
  of_ : ∀ a o, O a = some o → F a = none
  len : ρ.length = σ.length
  at_ : ∀ (i : Nat) (c : Cell), ρ[i]? = some (some c) → ∃ v, σ[i]? = some (some v) ∧ CR B F H v c
  inj : ∀ i j a, Own σ ρ i a → Own σ ρ j a → i = j
  no : ∀ i a, Own σ ρ i a → O a = none
section
variable {B : Bx} {O F F' H H' : Hp} {σ : L2.St} {ρ : Env} {v : V} {c : Cell} {d : D}
/-- an own cell's object -/
theorem CR.obj (h : CR B F H v c) (o : c.isOwn = true) : ∃ a u, v = .ref a ∧ H a = some u ∧ RO B.K F u c.d ∧ F a = none := by
  cases c with
  | own d => exact h
  | par j d => obtain ⟨a, u, e, _, r⟩ := h; exact ⟨a, u, e, r⟩
  | val d => cases o
  | old d => cases o
  | lent d => cases o
theorem CR.mono (h : CR B F H v c) (e : Le F F') (k : c.isOwn = true → ∀ a u, v = .ref a → H a = some u → H' a = some u ∧ F' a = none) : CR B F' H' v c := by
  cases c with
  | val d => exact Rp.mono e h
  | old d => exact h
  | own d => obtain ⟨a, u, e1, e2, r, n⟩ := h; obtain ⟨q1, q2⟩ := k rfl a u e1 e2; exact ⟨a, u, e1, q1, r.mono e, q2⟩
  | par j d => obtain ⟨a, u, e1, e0, e2, r, n⟩ := h; obtain ⟨q1, q2⟩ := k rfl a u e1 e2; exact ⟨a, u, e1, e0, q1, r.mono e, q2⟩
  | lent d => obtain ⟨a, u, e1, e2, r, n⟩ := h; exact ⟨a, u, e1, e.at rfl e2, r, n⟩
theorem RE.own_some (r : RE B O F H σ ρ) {i : Nat} {a : Addr} (o : Own σ ρ i a) : ∃ u, H a = some u ∧ F a = none := by
  obtain ⟨e, c, ec, co⟩ := o
  obtain ⟨v, ev, h⟩ := r.at_ i c ec
  rw [e] at ev; cases ev
  obtain ⟨b, u, e1, e2, _, n⟩ := h.obj co
  cases e1
  exact ⟨u, e2, n⟩
/-- forgetting -/
theorem RE.sub {σ' : L2.St} {ρ' : Env} (r : RE B O F H σ ρ) (f : Nat → Nat) (len : ρ'.length = σ'.length) (fi : ∀ (i j : Nat) (c c' : Cell), ρ'[i]? = some (some c) → ρ'[j]? = some (some c') → f i = f j → i = j)
    (h : ∀ (i : Nat) (c : Cell), ρ'[i]? = some (some c) → ρ[f i]? = some (some c) ∧ ∀ v : V, σ[f i]? = some (some v) → σ'[i]? = some (some v)) : RE B O F H σ' ρ' := by
  have ow : ∀ i a, Own σ' ρ' i a → Own σ ρ (f i) a := fun i a ⟨e, c, ec, co⟩ => by
    obtain ⟨h1, h2⟩ := h i c ec
    obtain ⟨v, ev, _⟩ := r.at_ _ c h1
    have := h2 v ev
    rw [e] at this
    cases this
    exact ⟨ev, c, h1, co⟩
  refine ⟨r.fh, r.oh, r.gf, r.of_, len, fun i c e => ?_, fun i j a o1 o2 => ?_, fun i a o => r.no _ a (ow i a o)⟩
  · obtain ⟨h1, h2⟩ := h i c e
    obtain ⟨v, ev, q⟩ := r.at_ _ c h1
    exact ⟨v, h2 v ev, q⟩
  · have w1 := ow i a o1
    have w2 := ow j a o2
    obtain ⟨_, c1, e1, _⟩ := o1
    obtain ⟨_, c2, e2, _⟩ := o2
    exact fi i j c1 c2 e1 e2 (r.inj _ _ a w1 w2)
theorem RE.pop {v : Option V} {c : Option Cell} (r : RE B O F H (v :: σ) (c :: ρ)) : RE B O F H σ ρ :=
  r.sub (fun i => i + 1) (by simpa using r.len) (fun _ _ _ _ _ _ e => by omega) fun i c e => ⟨by simpa using e, fun v h => by simpa using h⟩
theorem RE.push (r : RE B O F H σ ρ) (h : CR B F H v c) (hn : c.isOwn = true → ∀ a, v = .ref a → O a = none ∧ ∀ i, ¬ Own σ ρ i a) : RE B O F H (some v :: σ) (some c :: ρ) := by
  refine ⟨r.fh, r.oh, r.gf, r.of_, by simp [r.len], fun i c' e => ?_, fun i j a o1 o2 => ?_, fun i a o => ?_⟩
  · cases i with
    | zero => simp at e; subst e; exact ⟨v, rfl, h⟩
    | succ i => simp at e; simpa using r.at_ i c' e
  · have own' : ∀ {i a}, Own (some v :: σ) (some c :: ρ) (i + 1) a → Own σ ρ i a := fun ⟨a1, c1, a2, a3⟩ => ⟨by simpa using a1, c1, by simpa using a2, a3⟩
    have own0 : ∀ {a}, Own (some v :: σ) (some c :: ρ) 0 a → c.isOwn = true ∧ v = .ref a := fun ⟨a1, c1, a2, a3⟩ => by
      simp at a1 a2; subst a2; exact ⟨a3, a1⟩
    cases i with
    | zero => cases j with
      | zero => rfl
      | succ j => obtain ⟨h1, h2⟩ := own0 o1; exact absurd (own' o2) ((hn h1 a h2).2 j)
    | succ i => cases j with
      | zero => obtain ⟨h1, h2⟩ := own0 o2; exact absurd (own' o1) ((hn h1 a h2).2 i)
      | succ j => rw [r.inj i j a (own' o1) (own' o2)]
  · cases i with
    | zero =>
      obtain ⟨a1, c1, a2, a3⟩ := o
      simp at a1 a2; subst a2; exact (hn a3 a a1).1
    | succ i =>
      obtain ⟨a1, c1, a2, a3⟩ := o
      exact r.no i a ⟨by simpa using a1, c1, by simpa using a2, a3⟩
theorem RE.pushV (r : RE B O F H σ ρ) (h : Rp B.K F v d) : RE B O F H (some v :: σ) (some (.val d) :: ρ) := r.push (c := .val d) h (fun e => nomatch e)
/-- the heap grows, the frozen part grows by what is new -/
theorem RE.grow (r : RE B O F H σ ρ) (hh : Ex H H') (ff : Le F F') (fh : Ex F' H') (new : ∀ a, (∃ o, H a = some o) → F' a = F a) : RE B O F' H' σ ρ := by
  refine ⟨fh, r.oh.trans hh, r.gf.trans ff, fun a o e => ?_, r.len, fun i c e => ?_, r.inj, r.no⟩
  · rw [new a ⟨o, r.oh a o e⟩]; exact r.of_ a o e
  · obtain ⟨v, ev, q⟩ := r.at_ i c e
    refine ⟨v, ev, q.mono ff fun co a u e1 e2 => ⟨hh _ _ e2, ?_⟩⟩
    rw [new a ⟨u, e2⟩]
    subst e1
    exact (r.own_some ⟨ev, c, e, co⟩).elim fun _ z => z.2
/-- a new object, owned -/
theorem RE.new {p : Addr} {o : HO} (r : RE B O F H σ ρ) (hp : H p = none) (h : RO B.K F o d) : RE B O F (upd H p o) (some (.ref p) :: σ) (some (.own d) :: ρ) := by
  have r1 : RE B O F (upd H p o) σ ρ := r.grow (Ex.new hp) (Le.refl F) (r.fh.trans (Ex.new hp)) fun _ _ => rfl
  have fp : F p = none := r.fh.back hp
  refine r1.push (c := .own d) ⟨p, o, rfl, upd_same, h, fp⟩ fun _ a e => ?_
  cases e
  refine ⟨r.oh.back hp, fun i ow => ?_⟩
  obtain ⟨u, e, _⟩ := r.own_some ow
  rw [hp] at e; cases e
/-- a new object, frozen at once -/
theorem RE.newF {p : Addr} {o : HO} (r : RE B O F H σ ρ) (hp : H p = none) : RE B O (upd F p o) (upd H p o) σ ρ ∧ Le F (upd F p o) := by
  have fp : F p = none := r.fh.back hp
  refine ⟨r.grow (Ex.new hp) (Ex.new fp).le r.fh.upd2 fun a ⟨u, e⟩ => ?_, (Ex.new fp).le⟩
  have n : a ≠ p := ne_of_none e hp
  rw [upd_ne n]
theorem getElem?_setS {α : Type} (l : List α) (i j : Nat) (x : α) : (l.set i x)[j]? = if i = j then (if j < l.length then some x else none) else l[j]? := by
  rw [List.getElem?_set]
  by_cases h : i = j
  · subst h; simp
  · simp [h]
theorem set_self {α : Type} : ∀ {l : List α} {i : Nat} {x : α}, l[i]? = some x → l.set i x = l
  | [], _, _, h => by simp at h
  | a :: l, 0, x, h => by simp at h; simp [h]
  | a :: l, i + 1, x, h => by simp at h; simp [set_self h]
/-- one cell changed in place -/
theorem RE.upd1 (r : RE B O F H σ ρ) {i : Nat} {c c' : Cell} (hi : ρ[i]? = some (some c)) (ff : Le F F') (fh : Ex F' H') (oh : Ex O H') (of_ : ∀ a o, O a = some o → F' a = none)
    (here : ∀ v, σ[i]? = some (some v) → CR B F H v c → CR B F' H' v c' ∧ (c'.isOwn = true → c.isOwn = true))
    (there : ∀ (j : Nat) (v : V) (c1 : Cell), j ≠ i → ρ[j]? = some (some c1) → σ[j]? = some (some v) → CR B F H v c1 → CR B F' H' v c1) : RE B O F' H' σ (ρ.set i (some c')) := by
  have il : i < ρ.length := (List.getElem?_eq_some_iff.mp hi).1
  have ow : ∀ j a, Own σ (ρ.set i (some c')) j a → Own σ ρ j a := fun j a ⟨e, c1, e1, co⟩ => by
    rw [getElem?_setS] at e1
    by_cases h : i = j
    · subst h
      rw [if_pos rfl, if_pos il] at e1
      cases e1
      obtain ⟨v, ev, q⟩ := r.at_ i c hi
      exact ⟨e, c, hi, (here v ev q).2 co⟩
    · rw [if_neg h] at e1
      exact ⟨e, c1, e1, co⟩
  refine ⟨fh, oh, r.gf.trans ff, of_, by simp [r.len], fun j c1 e => ?_, fun j k a o1 o2 => r.inj j k a (ow j a o1) (ow k a o2), fun j a o => r.no j a (ow j a o)⟩
  rw [getElem?_setS] at e
  by_cases h : i = j
  · subst h
    rw [if_pos rfl, if_pos il] at e
    cases e
    obtain ⟨v, ev, q⟩ := r.at_ i c hi
    exact ⟨v, ev, (here v ev q).1⟩
  · rw [if_neg h] at e
    obtain ⟨v, ev, q⟩ := r.at_ j c1 e
    exact ⟨v, ev, there j v c1 (fun z => h z.symm) e ev q⟩
/-- an owned object is frozen -/
theorem RE.freeze (r : RE B O F H σ ρ) {i : Nat} (hi : ρ[i]? = some (some (.own d))) : ∃ F', Le F F' ∧ RE B O F' H σ (ρ.set i (some (.val d))) ∧ ∃ v, σ[i]? = some (some v) ∧ Rp B.K F' v d := by
  obtain ⟨v, ev, a, o, rfl, ha, ro, fa⟩ := r.at_ i _ hi
  have ff : Le F (upd F a o) := (Ex.new fa).le
  have rp : Rp B.K (upd F a o) (.ref a) d := (ro.mono ff).froz upd_same
  refine ⟨upd F a o, ff, r.upd1 hi ff ?_ r.oh ?_ ?_ ?_, _, ev, rp⟩
  · intro b u e
    by_cases h : b = a
    · subst h; rw [upd_same] at e; cases e; exact ha
    · rw [upd_ne h] at e; exact r.fh b u e
  · intro b u e
    have : b ≠ a := fun z => by subst z; rw [r.no i b ⟨ev, _, hi, rfl⟩] at e; cases e
    rw [upd_ne this]; exact r.of_ b u e
  · intro v' e _
    rw [ev] at e; cases e
    exact ⟨rp, fun z => nomatch z⟩
  · intro j v' c1 hj e1 e2 q
    refine q.mono ff fun co b u eb hb => ⟨hb, ?_⟩
    subst eb
    have : b ≠ a := fun z => by subst z; exact hj (r.inj j i b ⟨e2, c1, e1, co⟩ ⟨ev, _, hi, rfl⟩)
    rw [upd_ne this]
    exact (r.own_some ⟨e2, c1, e1, co⟩).elim fun _ z => z.2
/-- an owned object is written -/
theorem RE.write (r : RE B O F H σ ρ) {i : Nat} {c c' : Cell} {a : Addr} {o : HO} (hi : ρ[i]? = some (some c)) (co : c.isOwn = true) (ha : σ[i]? = some (some (.ref a)))
    (same : ∀ j, c = .par j c.d → c' = .par j c'.d) (same' : c = .own c.d → c' = .own c'.d) (ro : RO B.K F o c'.d) : RE B O F (upd H a o) σ (ρ.set i (some c')) := by
  obtain ⟨v, ev, q⟩ := r.at_ i _ hi
  rw [ha] at ev; cases ev
  have fa : F a = none := (r.own_some ⟨ha, c, hi, co⟩).elim fun _ z => z.2
  have oa : O a = none := r.no i a ⟨ha, c, hi, co⟩
  refine r.upd1 hi (Le.refl F) (r.fh.mut fa) (r.oh.mut oa) r.of_ ?_ ?_
  · intro v' e q'
    rw [ha] at e; cases e
    cases c with
    | own d =>
      rw [same' rfl] at *
      exact ⟨⟨a, o, rfl, upd_same, ro, fa⟩, fun _ => rfl⟩
    | par j d =>
      obtain ⟨b, u, e1, ej, _⟩ := q'
      cases e1
      rw [same j rfl] at *
      exact ⟨⟨a, o, rfl, ej, upd_same, ro, fa⟩, fun _ => rfl⟩
    | val d => cases co
    | old d => cases co
    | lent d => cases co
  · intro j v' c1 hj e1 e2 q'
    refine q'.mono (Le.refl F) fun co' b u eb hb => ⟨?_, ?_⟩
    · subst eb
      have : b ≠ a := fun z => by subst z; exact hj (r.inj j i b ⟨e2, c1, e1, co'⟩ ⟨ha, c, hi, co⟩)
      rw [upd_ne this]; exact hb
    · subst eb; exact (r.own_some ⟨e2, c1, e1, co'⟩).elim fun _ z => z.2
/-- the value at hand goes into a slot -/
theorem RE.put (r : RE B O F H (some v :: σ) (some c :: ρ)) (i : Nat) (hi : i < σ.length) : RE B O F H (σ.set i (some v)) (ρ.set i (some c)) := by
  have hl : ρ.length = σ.length := by simpa using r.len
  refine r.sub (fun j => if j = i then 0 else j + 1) (by simp [hl]) (fun j k c1 c2 _ _ e => ?_) fun j c1 e => ?_
  · by_cases h : j = i <;> by_cases h' : k = i <;> simp [h, h'] at e ⊢ <;> omega
  · rw [getElem?_setS] at e
    by_cases h : i = j
    · subst h
      rw [if_pos rfl, if_pos (by omega)] at e
      cases e
      simp only [if_true]
      refine ⟨rfl, fun v' e' => ?_⟩
      simp at e'
      subst e'
      rw [getElem?_setS, if_pos rfl, if_pos hi]
    · rw [if_neg h] at e
      have h' : ¬ j = i := fun z => h z.symm
      simp only [h', if_false]
      refine ⟨by simpa using e, fun v' e' => ?_⟩
      rw [getElem?_setS, if_neg h]
      simpa using e'
/-- a slot forgotten -/
theorem RE.drop1 (r : RE B O F H σ ρ) (i : Nat) (x : Option V) : RE B O F H (σ.set i x) (ρ.set i none) := by
  refine r.sub id (by simp [r.len]) (fun _ _ _ _ _ _ e => e) fun j c e => ?_
  rw [getElem?_setS] at e
  by_cases h : i = j
  · subst h
    rw [if_pos rfl] at e
    by_cases hl : i < ρ.length
    · rw [if_pos hl] at e; cases e
    · rw [if_neg hl] at e; cases e
  · rw [if_neg h] at e
    refine ⟨e, fun v e' => ?_⟩
    rw [getElem?_setS, if_neg h]; exact e'
end
end Q
end
section
set_option maxHeartbeats 1000000
namespace Q
open PySem PySem.Spec PyProof.Rows L2

/-! ### operands: a frozen value, or the slot it is read from -/
abbrev Hd := Sum D Nat
def HdR (K : PySem.W.Frag) (F : Hp) (σ : L2.St) (v : V) : Hd → Prop
  | .inl d => Rp K F v d
  | .inr i => σ[i]? = some (some v)
def look (ρ : Env) : Hd → Option D
  | .inl d => some d
  | .inr i => match ρ[i]? with
    | some (some c) => some c.d
    | _ => none
/-- what may be read -/
def Rdb (K : PySem.W.Frag) (F H : Hp) (v : V) (d : D) : Prop := Rp K F v d ∨ ∃ a o, v = .ref a ∧ H a = some o ∧ RO K F o d
theorem HdR.mono {K : PySem.W.Frag} {F F' : Hp} {σ : L2.St} {v : V} (e : Le F F') : ∀ {h : Hd}, HdR K F σ v h → HdR K F' σ v h
  | .inl _, r => Rp.mono e r
  | .inr _, r => r
theorem RE.look {B : Bx} {O F H : Hp} {σ : L2.St} {ρ : Env} (r : RE B O F H σ ρ) {v : V} {d : D} : ∀ {h : Hd}, HdR B.K F σ v h → look ρ h = some d → Rdb B.K F H v d
  | .inl d', hv, e => by
    cases (show some d' = some d from e)
    exact .inl hv
  | .inr i, hv, e => by
    have e : (match ρ[i]? with | some (some c) => some c.d | _ => none) = some d := e
    cases q : ρ[i]? with
    | none => rw [q] at e; cases e
    | some oc => cases oc with
      | none => rw [q] at e; cases e
      | some c =>
        rw [q] at e
        cases e
        obtain ⟨v', ev, hc⟩ := r.at_ i c q
        have hv : σ[i]? = some (some v) := hv
        rw [hv] at ev; cases ev
        cases c with
        | val d => exact .inl hc
        | old d => exact .inl (Rp.mono r.gf hc)
        | own d => obtain ⟨a, o, e1, e2, ro, _⟩ := hc; exact .inr ⟨a, o, e1, e2, ro⟩
        | par j d => obtain ⟨a, o, e1, _, e2, ro, _⟩ := hc; exact .inr ⟨a, o, e1, e2, ro⟩
        | lent d => obtain ⟨a, o, e1, e2, ro, _⟩ := hc; exact .inl (e1 ▸ (ro.mono r.gf).froz e2)
/-- the outcome of an operation: a value, a new tuple, a new object -/
inductive Res (K : PySem.W.Frag) (F H : Hp) : V → Hp → Cell → Prop
  | val {v : V} {d : D} : Rp K F v d → Res K F H v H (.val d)
  | tup {p : Addr} {xs : List V} {ds : List D} : H p = none → Rps K F xs ds → ds.length ≤ sizeLine → Res K F H (.ref p) (upd H p (.tup xs)) (.val (.tup ds))
  | own {p : Addr} {o : HO} {d : D} : H p = none → RO K F o d → Res K F H (.ref p) (upd H p o) (.own d)
theorem Res.re {B : Bx} {O F H H' : Hp} {σ : L2.St} {ρ : Env} {v : V} {c : Cell} (r : RE B O F H σ ρ) (h : Res B.K F H v H' c) : ∃ F', Le F F' ∧ RE B O F' H' (some v :: σ) (some c :: ρ) := by
  cases h with
  | val h => exact ⟨F, Le.refl F, r.pushV h⟩
  | tup hp h n =>
    obtain ⟨r1, ff⟩ := r.newF (o := .tup _) hp
    exact ⟨_, ff, r1.pushV (.tup upd_same (h.mono ff) n)⟩
  | own hp h => exact ⟨F, Le.refl F, r.new hp h⟩

/-! ### the judgements -/
section
variable (K : PySem.W.Frag)
/-- an expression: its value lies in a cell -/
def SndE (t : TE) (f : Env → Option (Cell × Env)) : Prop := ∀ (G : Hp) (A : Nat → Option Addr) (O F H : Hp) (σ : L2.St) (ρ : Env) (c : Cell) (ρ' : Env) (Q : VK), RE ⟨K, G, A⟩ O F H σ ρ → f ρ = some (c, ρ') →
  (∀ F' H' v, RE ⟨K, G, A⟩ O F' H' (some v :: σ) (some c :: ρ') → Le F F' → Q v H') → t σ H Q
def SndO (t : TE) (f : Env → Option (Hd × Env)) : Prop := ∀ (G : Hp) (A : Nat → Option Addr) (O F H : Hp) (σ : L2.St) (ρ : Env) (h : Hd) (ρ' : Env) (Q : VK), RE ⟨K, G, A⟩ O F H σ ρ → f ρ = some (h, ρ') →
  (∀ F' H' v, RE ⟨K, G, A⟩ O F' H' σ ρ' → Le F F' → HdR K F' σ v h → Q v H') → t σ H Q
def SndT (t : TT) (f : Env → Option (Bool × Env)) : Prop := ∀ (G : Hp) (A : Nat → Option Addr) (O F H : Hp) (σ : L2.St) (ρ : Env) (b : Bool) (ρ' : Env) (Q : Bool → Hp → Prop), RE ⟨K, G, A⟩ O F H σ ρ → f ρ = some (b, ρ') →
  (∀ F' H', RE ⟨K, G, A⟩ O F' H' σ ρ' → Le F F' → Q b H') → t σ H Q
inductive HdRs (F : Hp) (σ : L2.St) : List V → List Hd → Prop
  | nil : HdRs F σ [] []
  | cons {v : V} {h : Hd} {vs : List V} {hs : List Hd} : HdR K F σ v h → HdRs F σ vs hs → HdRs F σ (v :: vs) (h :: hs)
def SndA (t : TA) (f : Env → Option (List Hd × Env)) : Prop := ∀ (G : Hp) (A : Nat → Option Addr) (O F H : Hp) (σ : L2.St) (ρ : Env) (hs : List Hd) (ρ' : Env) (Q : List V → Hp → Prop), RE ⟨K, G, A⟩ O F H σ ρ → f ρ = some (hs, ρ') →
  (∀ F' H' vs, RE ⟨K, G, A⟩ O F' H' σ ρ' → Le F F' → HdRs K F' σ vs hs → Q vs H') → t σ H Q
inductive Out where
  | nx (ρ : Env) | rt (c : Cell) (ρ : Env) | bk (ρ : Env) | ct (ρ : Env)
def SndS (t : TS) (g : Env → Option Out) : Prop := ∀ (G : Hp) (A : Nat → Option Addr) (O F H : Hp) (σ : L2.St) (ρ : Env) (out : Out) (D : Ends), RE ⟨K, G, A⟩ O F H σ ρ → g ρ = some out →
  (match out with
    | .nx ρ' => ∀ F' H' σ', RE ⟨K, G, A⟩ O F' H' σ' ρ' → Le F F' → D.nx σ' H'
    | .rt c ρ' => ∀ F' H' v σ', RE ⟨K, G, A⟩ O F' H' (some v :: σ') (some c :: ρ') → Le F F' → D.rt v H'
    | .bk ρ' => ∀ F' H' σ', RE ⟨K, G, A⟩ O F' H' σ' ρ' → Le F F' → D.bk σ' H'
    | .ct ρ' => ∀ F' H' σ', RE ⟨K, G, A⟩ O F' H' σ' ρ' → Le F F' → D.ct σ' H') → t D σ H
/-- a target: a value (frozen or own cell at the head of the slots) is taken -/
def SndG (g : TG) (f : Cell → Env → Option Env) : Prop := ∀ (G : Hp) (A : Nat → Option Addr) (O F H : Hp) (σ : L2.St) (ρ : Env) (c : Cell) (v : V) (ρ' : Env) (Q : L2.St → Hp → Prop), RE ⟨K, G, A⟩ O F H (some v :: σ) (some c :: ρ) → f c ρ = some ρ' →
  (∀ F' H' σ', RE ⟨K, G, A⟩ O F' H' σ' ρ' → Le F F' → Q σ' H') → g v σ H Q
end
theorem HdRs.mono {K : PySem.W.Frag} {F F' : Hp} {σ : L2.St} (e : Le F F') : ∀ {vs : List V} {hs : List Hd}, HdRs K F σ vs hs → HdRs K F' σ vs hs
  | _, _, .nil => .nil
  | _, _, .cons r t => .cons (r.mono e) (HdRs.mono e t)

def CE (X : Cx) (e : Expr) (f : Env → Option (Cell × Env)) : Prop := ∃ t, PE X e t ∧ SndE X.K t f
def OE (X : Cx) (e : Expr) (f : Env → Option (Hd × Env)) : Prop := ∃ t, PE X e t ∧ SndO X.K t f
def CT (X : Cx) (e : Expr) (f : Env → Option (Bool × Env)) : Prop := ∃ t, PT X e t ∧ SndT X.K t f
def CW (X : Cx) (e : Expr) (f : Env → Option (Bool × Env)) : Prop := ∃ t, PW X e t ∧ SndT X.K t f
def OA (X : Cx) (es : List Expr) (f : Env → Option (List Hd × Env)) : Prop := ∃ t, PA X es t ∧ SndA X.K t f
def CS (X : Cx) (s : Stmt) (f : Env → Option Out) : Prop := ∃ t, PS X s t ∧ SndS X.K t f
def CSs (X : Cx) (s : List Stmt) (f : Env → Option Out) : Prop := ∃ t, PSs X s t ∧ SndS X.K t f
def CG (X : Cx) (e : Expr) (f : Cell → Env → Option Env) : Prop := ∃ t, PG X e t ∧ SndG X.K t f

/-! ### values, operands -/
section
variable {X : Cx} {a b e : Expr} {pos : Pos}
def dC (d : D) : Env → Option (Cell × Env) := fun ρ => some (.val d, ρ)
theorem SndE.const {K : PySem.W.Frag} {v : V} {d : D} (h : ∀ F, Rp K F v d) : SndE K (tC v) (dC d) := fun G A O F H σ ρ c ρ' Q r e q => by
  cases e
  exact q F H v (r.pushV (h F)) (Le.refl F)
theorem ce_int {i : Int} {j : Nat} : CE X (.Constant (.int i) j pos) (dC (.int i)) := ⟨_, pe_int, SndE.const fun _ => .int i⟩
theorem ce_bl {k : Bool} {j : Nat} : CE X (.Constant (.bool k) j pos) (dC (.bl k)) := ⟨_, pe_bl, SndE.const fun _ => .bl k⟩
theorem ce_non {j : Nat} : CE X (.Constant .none j pos) (dC .non) := ⟨_, pe_non, SndE.const fun _ => .non⟩
theorem ce_str {x : Str} {j : Nat} : CE X (.Constant (.str x) j pos) (dC (.str x)) := ⟨_, pe_str, SndE.const fun _ => .str x⟩
theorem ce_gint {x : Str} {i : Int} (hm : ∃ t, X.mg x = some (.int i t)) (hg : Gl X x) (hd : (x == ("__debug__" : Str)) = false := by decide) : CE X (.Name x pos) (dC (.int i)) := by
  obtain ⟨t, hm⟩ := hm
  exact ⟨_, pe_glob (v := V.int i) hg hm ⟨t, rfl⟩ hd, SndE.const fun _ => .int i⟩
theorem ce_gstr {x z : Str} (hm : ∃ t, X.mg x = some (.str z t)) (hg : Gl X x) (hd : (x == ("__debug__" : Str)) = false := by decide) : CE X (.Name x pos) (dC (.str z)) := by
  obtain ⟨t, hm⟩ := hm
  exact ⟨_, pe_glob (v := V.str z) hg hm ⟨t, rfl⟩ hd, SndE.const fun _ => .str z⟩
/-- never reached -/
def dNo {α : Type} : Env → Option α := fun _ => none
theorem ce_no : CE X e dNo := ⟨fun _ _ _ => False, ⟨fun _ _ _ _ _ _ h => h.elim⟩, fun _ _ _ _ _ _ _ _ _ _ _ e => nomatch e⟩
theorem cs_no {s : Stmt} : CS X s dNo := ⟨_, ps_never, fun _ _ _ _ _ _ _ _ _ _ e => nomatch e⟩
theorem css_no {s : List Stmt} : CSs X s dNo := ⟨_, pss_never, fun _ _ _ _ _ _ _ _ _ _ e => nomatch e⟩
/-- a name as a value: what it owns is frozen -/
def dVar (i : Nat) : Env → Option (Cell × Env) := fun ρ => match ρ[i]? with
  | some (some (.val d)) => some (.val d, ρ)
  | some (some (.own d)) => some (.val d, ρ.set i (some (.val d)))
  | some (some (.old d)) => some (.val d, ρ)
  | some (some (.lent d)) => some (.val d, ρ)
  | _ => none
theorem snd_var {K : PySem.W.Frag} {i : Nat} : SndE K (tVar i) (dVar i) := fun G A O F H σ ρ c ρ' Q r e q => by
  unfold dVar at e
  split at e
  · rename_i d hd
    cases e
    obtain ⟨v, ev, hc⟩ := r.at_ i _ hd
    exact ⟨v, ev, q F H v (r.pushV hc) (Le.refl F)⟩
  · rename_i d hd
    cases e
    obtain ⟨F', ff, r1, v, ev, rp⟩ := r.freeze hd
    exact ⟨v, ev, q F' H v (r1.pushV rp) ff⟩
  · rename_i d hd
    cases e
    obtain ⟨v, ev, hc⟩ := r.at_ i _ hd
    exact ⟨v, ev, q F H v (r.pushV (Rp.mono r.gf hc)) (Le.refl F)⟩
  · rename_i d hd
    cases e
    obtain ⟨v, ev, hc⟩ := r.at_ i _ hd
    obtain ⟨a, o, e1, e2, ro, _⟩ := hc
    exact ⟨v, ev, q F H v (r.pushV (e1 ▸ (ro.mono r.gf).froz e2)) (Le.refl F)⟩
  · cases e
theorem ce_var (i : Nat) {x : Str} (hN : X.N[i]? = some x := by rfl) (hv : Vis X.env.scope x := by first | exact Or.inl rfl | exact Or.inr (Or.inl rfl) | exact Or.inr (Or.inr rfl)) (hd : (x == ("__debug__" : Str)) = false := by decide) (hcd : (x == ("__classdict__" : Str)) = false := by decide) : CE X (.Name x pos) (dVar i) :=
  ⟨_, pe_var hN hv hd hcd, snd_var⟩
/-- a name as an operand: read where it stands -/
def oVar (i : Nat) : Env → Option (Hd × Env) := fun ρ => match ρ[i]? with
  | some (some _) => some (.inr i, ρ)
  | _ => none
theorem snd_ovar {K : PySem.W.Frag} {i : Nat} : SndO K (tVar i) (oVar i) := fun G A O F H σ ρ h ρ' Q r e q => by
  unfold oVar at e
  split at e
  · rename_i c hd
    cases e
    obtain ⟨v, ev, hc⟩ := r.at_ i _ hd
    exact ⟨v, ev, q F H v r (Le.refl F) ev⟩
  · cases e
theorem oe_var (i : Nat) {x : Str} (hN : X.N[i]? = some x := by rfl) (hv : Vis X.env.scope x := by first | exact Or.inl rfl | exact Or.inr (Or.inl rfl) | exact Or.inr (Or.inr rfl)) (hd : (x == ("__debug__" : Str)) = false := by decide) (hcd : (x == ("__classdict__" : Str)) = false := by decide) : OE X (.Name x pos) (oVar i) :=
  ⟨_, pe_var hN hv hd hcd, snd_ovar⟩
/-- a value as an operand: frozen -/
def oFz (f : Env → Option (Cell × Env)) : Env → Option (Hd × Env) := fun ρ => match f ρ with
  | some (.val d, ρ') => some (.inl d, ρ')
  | some (.own d, ρ') => some (.inl d, ρ')
  | _ => none
/-- the value at the head is frozen -/
theorem RE.fz {B : Bx} {O F H : Hp} {σ : L2.St} {ρ : Env} {v : V} {c : Cell} {d : D} (r : RE B O F H (some v :: σ) (some c :: ρ)) (hc : c = .val d ∨ c = .own d) : ∃ F', Le F F' ∧ RE B O F' H σ ρ ∧ Rp B.K F' v d := by
  rcases hc with rfl | rfl
  · obtain ⟨v', ev, h⟩ := r.at_ 0 _ rfl
    cases ev
    exact ⟨F, Le.refl F, r.pop, h⟩
  · obtain ⟨F', ff, r1, v', ev, rp⟩ := r.freeze (i := 0) rfl
    cases ev
    exact ⟨F', ff, r1.pop, rp⟩
theorem snd_fz {K : PySem.W.Frag} {t : TE} {f : Env → Option (Cell × Env)} (h : SndE K t f) : SndO K t (oFz f) := fun G A O F H σ ρ hd ρ' Q r e q => by
  unfold oFz at e
  split at e
  · rename_i d ρ1 e1
    cases e
    refine h G A O F H σ ρ _ _ Q r e1 fun F' H' v r1 ff => ?_
    obtain ⟨F2, f2, r2, rp⟩ := r1.fz (.inl rfl)
    exact q F2 H' v r2 (ff.trans f2) rp
  · rename_i d ρ1 e1
    cases e
    refine h G A O F H σ ρ _ _ Q r e1 fun F' H' v r1 ff => ?_
    obtain ⟨F2, f2, r2, rp⟩ := r1.fz (.inr rfl)
    exact q F2 H' v r2 (ff.trans f2) rp
  · cases e
theorem oe {f : Env → Option (Cell × Env)} (h : CE X e f) : OE X e (oFz f) := let ⟨t, p, s⟩ := h; ⟨t, p, snd_fz s⟩
/-! ### argument lists -/
def aNil : Env → Option (List Hd × Env) := fun ρ => some ([], ρ)
def aCons (f : Env → Option (Hd × Env)) (g : Env → Option (List Hd × Env)) : Env → Option (List Hd × Env) := fun ρ => match f ρ with
  | some (h, ρ1) => (match g ρ1 with
    | some (hs, ρ2) => some (h :: hs, ρ2)
    | none => none)
  | none => none
theorem snd_nil {K : PySem.W.Frag} : SndA K tNil aNil := fun G A O F H σ ρ hs ρ' Q r e q => by
  cases e
  exact q F H [] r (Le.refl F) .nil
theorem snd_cons {K : PySem.W.Frag} {t : TE} {u : TA} {f : Env → Option (Hd × Env)} {g : Env → Option (List Hd × Env)} (h1 : SndO K t f) (h2 : SndA K u g) : SndA K (tCons t u) (aCons f g) := fun G A O F H σ ρ hs ρ' Q r e q => by
  unfold aCons at e
  split at e
  · rename_i h ρ1 e1
    split at e
    · rename_i hs' ρ2 e2
      cases e
      refine h1 G A O F H σ ρ _ _ _ r e1 fun F1 H1 v r1 ff1 rv => ?_
      refine h2 G A O F1 H1 σ ρ1 _ _ _ r1 e2 fun F2 H2 vs r2 ff2 rvs => ?_
      exact q F2 H2 (v :: vs) r2 (ff1.trans ff2) (.cons (rv.mono ff2) rvs)
    · cases e
  · cases e
theorem oa_nil : OA X [] aNil := ⟨_, pa_nil, snd_nil⟩
theorem oa_cons {es : List Expr} {f : Env → Option (Hd × Env)} {g : Env → Option (List Hd × Env)} (h1 : OE X e f) (h2 : OA X es g)
    (hst : starEach (e :: es) X.env = (false, eval e X.env) :: starEach es X.env := by rfl) : OA X (e :: es) (aCons f g) := by
  obtain ⟨t, p, s⟩ := h1
  obtain ⟨u, q, z⟩ := h2
  exact ⟨_, pa_cons p q hst, snd_cons s z⟩
end
end Q
end
section
set_option maxHeartbeats 1000000
namespace Q
open PySem PySem.Spec PyProof.Rows L2

/-! ### what data is at a value -/
section
variable {K : PySem.W.Frag} {F H : Hp} {v : V}
theorem Rps.len : ∀ {vs : List V} {ds : List D}, Rps K F vs ds → vs.length = ds.length
  | _, _, .nil => rfl
  | _, _, .cons _ t => by simp [Rps.len t]
theorem Rps.get : ∀ {vs : List V} {ds : List D} {i : Nat} {d : D}, Rps K F vs ds → ds[i]? = some d → ∃ v, vs[i]? = some v ∧ Rp K F v d
  | _, _, _, _, .nil, e => by simp at e
  | _, _, 0, _, .cons h _, e => by simp at e; subst e; exact ⟨_, rfl, h⟩
  | _, _, i + 1, _, .cons _ t, e => by
    obtain ⟨v, h1, h2⟩ := Rps.get t (i := i) (by simpa using e)
    exact ⟨v, by simpa using h1, h2⟩
theorem Rps.app : ∀ {vs ws : List V} {ds es : List D}, Rps K F vs ds → Rps K F ws es → Rps K F (vs ++ ws) (ds ++ es)
  | _, _, _, _, .nil, r => r
  | _, _, _, _, .cons h t, r => .cons h (Rps.app t r)
theorem Rps.tk : ∀ {vs : List V} {ds : List D} (n : Nat), Rps K F vs ds → Rps K F (vs.take n) (ds.take n)
  | _, _, 0, _ => by simpa using Rps.nil
  | _, _, _ + 1, .nil => by simpa using Rps.nil
  | _, _, n + 1, .cons h t => by simpa using Rps.cons h (Rps.tk n t)
theorem Rps.dr : ∀ {vs : List V} {ds : List D} (n : Nat), Rps K F vs ds → Rps K F (vs.drop n) (ds.drop n)
  | _, _, 0, r => by simpa using r
  | _, _, _ + 1, .nil => by simpa using Rps.nil
  | _, _, n + 1, .cons h t => by simpa using Rps.dr n t
theorem Rps.rev {vs : List V} {ds : List D} (r : Rps K F vs ds) : Rps K F vs.reverse ds.reverse := by
  induction vs generalizing ds with
  | nil => cases r; exact .nil
  | cons a t ih => cases r with
    | cons h r => simpa using (ih r).app (.cons h .nil)
theorem Rps.setAt : ∀ {vs : List V} {ds : List D} (i : Nat) {v : V} {d : D}, Rps K F vs ds → Rp K F v d → Rps K F (vs.set i v) (ds.set i d)
  | _, _, _, _, _, .nil, _ => by simpa using Rps.nil
  | _, _, 0, _, _, .cons _ t, h => by simpa using Rps.cons h t
  | _, _, i + 1, _, _, .cons h' t, h => by simpa using Rps.cons h' (Rps.setAt i t h)
theorem Rps.erase : ∀ {vs : List V} {ds : List D} (i : Nat), Rps K F vs ds → Rps K F (vs.eraseIdx i) (ds.eraseIdx i)
  | _, _, _, .nil => by simpa using Rps.nil
  | _, _, 0, .cons _ t => by simpa using t
  | _, _, i + 1, .cons h t => by simpa using Rps.cons h (Rps.erase i t)
theorem Rdb.int {i : Int} (h : Rdb K F H v (.int i)) : v = .int i := by
  rcases h with h | ⟨_, _, _, _, h⟩
  · cases h; rfl
  · cases h
theorem Rdb.str {x : Str} (h : Rdb K F H v (.str x)) : v = .str x := by
  rcases h with h | ⟨_, _, _, _, h⟩
  · cases h; rfl
  · cases h
theorem Rdb.bl {b : Bool} (h : Rdb K F H v (.bl b)) : v = .bl b := by
  rcases h with h | ⟨_, _, _, _, h⟩
  · cases h; rfl
  · cases h
theorem Rdb.non (h : Rdb K F H v .non) : v = .non := by
  rcases h with h | ⟨_, _, _, _, h⟩
  · cases h; rfl
  · cases h
theorem Rdb.lstR {ds : List D} (e : Ex F H) (h : Rdb K F H v (.lst ds)) : ∃ a xs, v = .ref a ∧ Rd H a (.lst xs) ∧ Rps K F xs ds ∧ ds.length ≤ sizeLine := by
  rcases h with h | ⟨a, o, rfl, ha, h⟩
  · cases h with
    | lst s r n => exact ⟨_, _, rfl, ex_rd e s, r, n⟩
  · cases h with
    | lst r n => exact ⟨a, _, rfl, .inl ha, r, n⟩
theorem Rdb.lst {ds : List D} (e : Ex F H) (h : Rdb K F H v (.lst ds)) : ∃ a xs, v = .ref a ∧ SqL K H a xs ∧ Rps K F xs ds ∧ ds.length ≤ sizeLine := by
  obtain ⟨a, xs, e1, r, z⟩ := h.lstR e
  exact ⟨a, xs, e1, .inl r, z⟩
theorem Rdb.tupR {ds : List D} (e : Ex F H) (h : Rdb K F H v (.tup ds)) : ∃ a xs, v = .ref a ∧ H a = some (.tup xs) ∧ Rps K F xs ds ∧ ds.length ≤ sizeLine := by
  rcases h with h | ⟨a, o, rfl, ha, h⟩
  · cases h with
    | tup s r n => exact ⟨_, _, rfl, e _ _ s, r, n⟩
  · cases h
theorem Rdb.tup {ds : List D} (e : Ex F H) (h : Rdb K F H v (.tup ds)) : ∃ a xs, v = .ref a ∧ SqT K H a xs ∧ Rps K F xs ds ∧ ds.length ≤ sizeLine := by
  obtain ⟨a, xs, e1, r, z⟩ := h.tupR e
  exact ⟨a, xs, e1, .inl (.inl r), z⟩
theorem Rdb.dk {l : List (D × D)} (e : Ex F H) (h : Rdb K F H v (.dct false l)) : ∃ a kvs, v = .ref a ∧ Rd H a (.dK kvs) ∧ RpK K F kvs l := by
  rcases h with h | ⟨a, o, rfl, ha, h⟩
  · cases h with
    | dk s r => exact ⟨_, _, rfl, ex_rd e s, r⟩
  · cases h with
    | dk r => exact ⟨a, _, rfl, .inl ha, r⟩
theorem Rdb.dt {l : List (D × D)} (e : Ex F H) (h : Rdb K F H v (.dct true l)) : ∃ a kvs, v = .ref a ∧ Rd H a (.dT kvs) ∧ RpT K F kvs l := by
  rcases h with h | ⟨a, o, rfl, ha, h⟩
  · cases h with
    | dt s r => exact ⟨_, _, rfl, ex_rd e s, r⟩
  · cases h with
    | dt r => exact ⟨a, _, rfl, .inl ha, r⟩
theorem Rdb.obj {C : Addr} {l : List (Str × D)} (e : Ex F H) (h : Rdb K F H v (.obj C l)) : ∃ a dx fs, v = .ref a ∧ H a = some (.ins C dx fs) ∧ RpF K F fs l := by
  rcases h with h | ⟨a, o, rfl, ha, h⟩
  · cases h with
    | obj s r => exact ⟨_, _, _, rfl, e _ _ s, r⟩
  · cases h with
    | obj r => exact ⟨a, _, _, rfl, ha, r⟩
end
/-! ### data without dicts and objects -/
mutual
def D.py : D → Option PyData
  | .non => some .none
  | .bl b => some (.bool b)
  | .int i => some (.int i)
  | .str x => some (.str x)
  | .tup l => (pyAll l).map .tuple
  | .lst l => (pyAll l).map .list
  | .klst _ => none
  | .dct _ _ => none
  | .obj _ _ => none
def pyAll : List D → Option (List PyData)
  | [] => some []
  | d :: l => d.py.bind fun p => (pyAll l).map fun ps => p :: ps
end
section
variable {K : PySem.W.Frag} {F H : Hp}
theorem map_some {α β : Type} {f : α → β} {o : Option α} {b : β} (h : o.map f = some b) : ∃ a, o = some a ∧ f a = b := by
  cases o with
  | none => cases h
  | some a => exact ⟨a, rfl, Option.some.inj h⟩
theorem bnd {α β : Type} {o : Option α} {f : α → Option β} {b : β} (h : o.bind f = some b) : ∃ a, o = some a ∧ f a = some b := by
  cases o with
  | none => cases h
  | some a => exact ⟨a, rfl, h⟩
mutual
theorem Rp.dp (e : Ex F H) : ∀ {v : V} {d : D}, Rp K F v d → ∀ {p : PyData}, d.py = some p → Dp K H v p
  | _, _, .non, p, q => by simp only [D.py] at q; cases q; exact .non
  | _, _, .bl b, p, q => by simp only [D.py] at q; cases q; exact .bl b
  | _, _, .int i, p, q => by simp only [D.py] at q; cases q; exact .int i
  | _, _, .str x, p, q => by simp only [D.py] at q; cases q; exact .str x
  | _, _, .tup h r n, p, q => by
    simp only [D.py] at q
    obtain ⟨ps, e1, e2⟩ := map_some q
    subst e2
    exact .tup (.inl (.inl (e _ _ h))) (Rps.dp e r e1)
  | _, _, .lst h r n, p, q => by
    simp only [D.py] at q
    obtain ⟨ps, e1, e2⟩ := map_some q
    subst e2
    exact .lst (.inl (ex_rd e h)) (Rps.dp e r e1)
  | _, _, .klst h r n, p, q => by simp only [D.py] at q; cases q
  | _, _, .dk h r, p, q => by simp only [D.py] at q; cases q
  | _, _, .dt h r, p, q => by simp only [D.py] at q; cases q
  | _, _, .obj h r, p, q => by simp only [D.py] at q; cases q
theorem Rps.dp (e : Ex F H) : ∀ {vs : List V} {ds : List D}, Rps K F vs ds → ∀ {ps : List PyData}, pyAll ds = some ps → DpAll K H vs ps
  | _, _, .nil, ps, q => by simp only [pyAll] at q; cases q; exact .nil
  | _, _, .cons h r, ps, q => by
    simp only [pyAll] at q
    obtain ⟨p, e1, q⟩ := bnd q
    obtain ⟨ps', e2, e3⟩ := map_some q
    subst e3
    exact .cons (Rp.dp e h e1) (Rps.dp e r e2)
end
theorem Rdb.dp (e : Ex F H) {v : V} {d : D} (h : Rdb K F H v d) {p : PyData} (q : d.py = some p) : Dp K H v p := by
  rcases h with h | ⟨a, o, rfl, ha, h⟩
  · exact h.dp e q
  · cases h with
    | lst r n =>
      simp only [D.py] at q
      obtain ⟨ps, e1, e2⟩ := map_some q
      subst e2
      exact .lst (.inl (.inl ha)) (Rps.dp e r e1)
    | dk r => simp only [D.py] at q; cases q
    | dt r => simp only [D.py] at q; cases q
    | obj r => simp only [D.py] at q; cases q
end
/-! ### operations of two operands -/
def R2C (K : PySem.W.Frag) (r : R2) (h : D → D → Option Cell) : Prop := ∀ (F H : Hp) (x y : V) (a b : D) (c : Cell) (Q : VK), Ex F H → Rdb K F H x a → Rdb K F H y b → h a b = some c → (∀ v H', Res K F H v H' c → Q v H') → r x y H Q
def OpD (X : Cx) (f : Value → Value → Sem Value) (h : D → D → Option Cell) : Prop := ∃ r, OpR X f r ∧ R2C X.K r h
def hOr (h1 h2 : D → D → Option Cell) : D → D → Option Cell := fun a b => match h1 a b with
  | some c => some c
  | none => h2 a b
theorem OpD.or {X : Cx} {f : Value → Value → Sem Value} {h1 h2 : D → D → Option Cell} (a : OpD X f h1) (b : OpD X f h2) : OpD X f (hOr h1 h2) := by
  obtain ⟨r1, p1, s1⟩ := a
  obtain ⟨r2, p2, s2⟩ := b
  refine ⟨_, OpR.or p1 p2, fun F H x y a b c Q e rx ry hc q => ?_⟩
  unfold hOr at hc
  split at hc
  · rename_i c' h'
    cases hc
    exact .inl (s1 F H x y a b _ Q e rx ry h' q)
  · exact .inr (s2 F H x y a b _ Q e rx ry hc q)
def dOp (h : D → D → Option Cell) (fa fb : Env → Option (Hd × Env)) : Env → Option (Cell × Env) := fun ρ =>
  (fa ρ).bind fun p => (fb p.2).bind fun q => (look q.2 p.1).bind fun a => (look q.2 q.1).bind fun b => (h a b).bind fun c => some (c, q.2)
theorem snd_op2 {K : PySem.W.Frag} {r : R2} {h : D → D → Option Cell} {ta tb : TE} {fa fb : Env → Option (Hd × Env)} (s : R2C K r h) (sa : SndO K ta fa) (sb : SndO K tb fb) : SndE K (tOp r ta tb) (dOp h fa fb) := fun G A O F H σ ρ c ρ' Q re e q => by
  obtain ⟨⟨ha, ρ1⟩, e1, e⟩ := bnd e
  obtain ⟨⟨hb, ρ2⟩, e2, e⟩ := bnd e
  obtain ⟨a, e3, e⟩ := bnd e
  obtain ⟨b, e4, e⟩ := bnd e
  obtain ⟨c', e5, e⟩ := bnd e
  cases e
  refine sa G A O F H σ ρ _ _ _ re e1 fun F1 H1 x r1 f1 hx => ?_
  refine sb G A O F1 H1 σ ρ1 _ _ _ r1 e2 fun F2 H2 y r2 f2 hy => ?_
  refine s F2 H2 x y a b c _ r2.fh (r2.look (hx.mono f2) e3) (r2.look hy e4) e5 fun v H' res => ?_
  obtain ⟨F3, f3, r3⟩ := res.re r2
  exact q F3 H' v r3 ((f1.trans f2).trans f3)
section
variable {X : Cx} {a b : Expr} {pos : Pos} {fa fb : Env → Option (Hd × Env)} {h : D → D → Option Cell}
theorem ce_op {op : Operator} (o : OpD X (binaryOp op) h) (ha : OE X a fa) (hb : OE X b fb) : CE X (.BinOp a op b pos) (dOp h fa fb) := by
  obtain ⟨r, p, s⟩ := o
  obtain ⟨ta, pa, sa⟩ := ha
  obtain ⟨tb, pb, sb⟩ := hb
  exact ⟨_, pe_op p pa pb, snd_op2 s sa sb⟩
theorem ce_cmp {op : CmpOp} (o : OpD X (compareOp op) h) (ha : OE X a fa) (hb : OE X b fb) (hm : behindInMarks op b = false := by first | exact nomark _ | rfl) : CE X (.Compare a [op] [b] pos) (dOp h fa fb) := by
  obtain ⟨r, p, s⟩ := o
  obtain ⟨ta, pa, sa⟩ := ha
  obtain ⟨tb, pb, sb⟩ := hb
  exact ⟨_, pe_cmpR p pa pb hm, snd_op2 s sa sb⟩
/-- a truth value as a test -/
def dTst (f : Env → Option (Cell × Env)) : Env → Option (Bool × Env) := fun ρ => (f ρ).bind fun p => match p.1 with
  | .val (.bl k) => some (k, p.2)
  | _ => none
theorem snd_tst {K : PySem.W.Frag} {t : TE} {f : Env → Option (Cell × Env)} (s : SndE K t f) : SndT K (tTest t) (dTst f) := fun G A O F H σ ρ k ρ' Q re e q => by
  obtain ⟨⟨c, ρ1⟩, e1, e⟩ := bnd e
  split at e
  · rename_i k' hk
    cases e
    simp only at hk
    subst hk
    refine s G A O F H σ ρ _ _ _ re e1 fun F1 H1 x r1 f1 => ?_
    obtain ⟨v, ev, hv⟩ := r1.at_ 0 _ rfl
    cases ev
    cases hv
    exact ⟨k, rfl, q F1 H1 r1.pop f1⟩
  · cases e
theorem ct_cmp {op : CmpOp} (o : OpD X (compareOp op) h) (ha : OE X a fa) (hb : OE X b fb) (hm : behindInMarks op b = false := by first | exact nomark _ | rfl) : CT X (.Compare a [op] [b] pos) (dTst (dOp h fa fb)) := by
  obtain ⟨r, p, s⟩ := o
  obtain ⟨ta, pa, sa⟩ := ha
  obtain ⟨tb, pb, sb⟩ := hb
  exact ⟨_, pt_cmpR p pa pb hm, snd_tst (snd_op2 s sa sb)⟩
end
end Q
end
section
set_option maxHeartbeats 1000000
namespace Q
open PySem PySem.Spec PyProof.Rows L2
/-! ### ints -/
def hII (p : Int → Int → Bool) (g : Int → Int → D) : D → D → Option Cell := fun a b => match a, b with
  | .int i, .int j => if p i j = true then some (.val (g i j)) else none
  | _, _ => none
section
variable {X : Cx}
theorem r2c_I {K : PySem.W.Frag} {C : Int → Int → Prop} {gv : Int → Int → V} {p : Int → Int → Bool} {g : Int → Int → D} (hp : ∀ i j, p i j = true → C i j) (hg : ∀ F i j, Rp K F (gv i j) (g i j)) : R2C K (rI C gv) (hII p g) := fun F H x y a b c Q e rx ry hc q => by
  unfold hII at hc
  split at hc
  · rename_i i j
    split at hc
    · rename_i h
      cases hc
      exact ⟨i, j, rx.int, ry.int, hp i j h, q _ _ (.val (hg F i j))⟩
    · cases hc
  · cases hc
theorem r2c_I0 {K : PySem.W.Frag} {gv : Int → Int → V} {g : Int → Int → D} (hg : ∀ F i j, Rp K F (gv i j) (g i j)) : R2C K (rI0 gv) (hII (fun _ _ => true) g) := fun F H x y a b c Q e rx ry hc q => by
  unfold hII at hc
  split at hc
  · rename_i i j
    cases hc
    exact ⟨i, j, rx.int, ry.int, q _ _ (.val (hg F i j))⟩
  · cases hc
def hAddI := hII (fun _ _ => true) fun i j => .int (i + j)
def hSub := hII (fun _ _ => true) fun i j => .int (i - j)
open Classical in
noncomputable def pMul (i j : Int) : Bool := @decide (i.natAbs.log2 + j.natAbs.log2 < 1000000) (propDecidable _)
noncomputable def hMulI := hII pMul fun i j => .int (i * j)
open Classical in
noncomputable def pDiv (_ j : Int) : Bool := @decide (0 < j ∧ j.natAbs.log2 < 9000) (propDecidable _)
noncomputable def hDiv := hII pDiv fun i j => .int (i / j)
def hMod := hII (fun _ j => decide (0 < j)) fun i j => .int (i % j)
open Classical in
noncomputable def pPow (i j : Int) : Bool := @decide (0 ≤ j ∧ j ≤ 1000000 ∧ i.natAbs < 2 ^ 64) (propDecidable _)
noncomputable def hPow := hII pPow fun i j => .int (i ^ j.toNat)
theorem o_addI : OpD X (binaryOp .Add) hAddI := ⟨_, op_add, r2c_I0 fun _ _ _ => .int _⟩
theorem o_sub : OpD X (binaryOp .Sub) hSub := ⟨_, op_sub, r2c_I0 fun _ _ _ => .int _⟩
theorem o_mulI : OpD X (binaryOp .Mult) hMulI := ⟨_, op_mulW, r2c_I (fun i j h => show i.natAbs.log2 + j.natAbs.log2 < 1000000 from @of_decide_eq_true _ (Classical.propDecidable _) h) fun _ _ _ => .int _⟩
theorem o_div : OpD X (binaryOp .FloorDiv) hDiv := ⟨_, op_fdivW, r2c_I (fun i j h => show 0 < j ∧ j.natAbs.log2 < 9000 from @of_decide_eq_true _ (Classical.propDecidable _) h) fun _ _ _ => .int _⟩
theorem o_mod : OpD X (binaryOp .Mod) hMod := ⟨_, op_mod, r2c_I (fun _ _ h => of_decide_eq_true h) fun _ _ _ => .int _⟩
theorem o_pow : OpD X (binaryOp .Pow) hPow := ⟨_, op_pow, r2c_I (fun i j h => show 0 ≤ j ∧ j ≤ 1000000 ∧ i.natAbs < 2 ^ 64 from @of_decide_eq_true _ (Classical.propDecidable _) h) fun _ _ _ => .int _⟩
def hLtI := hII (fun _ _ => true) fun i j => .bl (decide (i < j))
def hLeI := hII (fun _ _ => true) fun i j => .bl (decide (i ≤ j))
def hGtI := hII (fun _ _ => true) fun i j => .bl (decide (j < i))
def hGeI := hII (fun _ _ => true) fun i j => .bl (decide (j ≤ i))
theorem o_lt : OpD X (compareOp .Lt) hLtI := ⟨_, op_lt, r2c_I0 fun _ _ _ => .bl _⟩
theorem o_le : OpD X (compareOp .LtE) hLeI := ⟨_, op_le, r2c_I0 fun _ _ _ => .bl _⟩
theorem o_gt : OpD X (compareOp .Gt) hGtI := ⟨_, op_gt, r2c_I0 fun _ _ _ => .bl _⟩
theorem o_ge : OpD X (compareOp .GtE) hGeI := ⟨_, op_ge, r2c_I0 fun _ _ _ => .bl _⟩
/-! ### ==, !=, in, not in over data -/
def shp (d : D) : Option PyData := d.py.bind fun p => if SeqAt.shaped p = true then some p else none
theorem shp_py {d : D} {p : PyData} (h : shp d = some p) : d.py = some p ∧ SeqAt.shaped p = true := by
  obtain ⟨q, e, h⟩ := bnd h
  split at h
  · rename_i hs
    cases h
    exact ⟨e, hs⟩
  · cases h
def hEq : D → D → Option Cell := fun a b => (shp a).bind fun p => (shp b).bind fun q => some (.val (.bl (PyData.eqv p q)))
def hNe : D → D → Option Cell := fun a b => (shp a).bind fun p => (shp b).bind fun q => some (.val (.bl (!PyData.eqv p q)))
theorem o_eq {k : Nat} (hr : Room k X.A) : OpD X (compareOp .Eq) hEq := ⟨_, op_eqD hr.units, fun F H x y a b c Q e rx ry hc q => by
  obtain ⟨p1, e1, hc⟩ := bnd hc
  obtain ⟨p2, e2, hc⟩ := bnd hc
  cases hc
  obtain ⟨y1, s1⟩ := shp_py e1
  obtain ⟨y2, s2⟩ := shp_py e2
  exact ⟨p1, p2, rx.dp e y1, ry.dp e y2, s1, s2, q _ _ (.val (.bl _))⟩⟩
theorem o_ne {k : Nat} (hr : Room k X.A) : OpD X (compareOp .NotEq) hNe := ⟨_, op_neD hr.units, fun F H x y a b c Q e rx ry hc q => by
  obtain ⟨p1, e1, hc⟩ := bnd hc
  obtain ⟨p2, e2, hc⟩ := bnd hc
  cases hc
  obtain ⟨y1, s1⟩ := shp_py e1
  obtain ⟨y2, s2⟩ := shp_py e2
  exact ⟨p1, p2, rx.dp e y1, ry.dp e y2, s1, s2, q _ _ (.val (.bl _))⟩⟩
def hInL : D → D → Option Cell := fun a b => match b with
  | .lst l => (shp a).bind fun p => (shp (.lst l)).bind fun q => match q with
    | .list ps => some (.val (.bl (ps.any fun z => PyData.eqv z p)))
    | _ => none
  | _ => none
def hNotInL : D → D → Option Cell := fun a b => match b with
  | .lst l => (shp a).bind fun p => (shp (.lst l)).bind fun q => match q with
    | .list ps => some (.val (.bl (!ps.any fun z => PyData.eqv z p)))
    | _ => none
  | _ => none
theorem o_inL {k : Nat} (hr : Room k X.A) : OpD X (compareOp .In) hInL := ⟨_, op_inD (by have := hr.un; omega), fun F H x y a b c Q e rx ry hc q => by
  unfold hInL at hc
  split at hc
  · rename_i l
    obtain ⟨p1, e1, hc⟩ := bnd hc
    obtain ⟨p2, e2, hc⟩ := bnd hc
    split at hc
    · rename_i ps
      cases hc
      obtain ⟨y1, s1⟩ := shp_py e1
      obtain ⟨y2, s2⟩ := shp_py e2
      exact ⟨p1, ps, rx.dp e y1, ry.dp e y2, s1, s2, q _ _ (.val (.bl _))⟩
    · cases hc
  · cases hc⟩
theorem o_notInL {k : Nat} (hr : Room k X.A) : OpD X (compareOp .NotIn) hNotInL := ⟨_, op_notInD (by have := hr.un; omega), fun F H x y a b c Q e rx ry hc q => by
  unfold hNotInL at hc
  split at hc
  · rename_i l
    obtain ⟨p1, e1, hc⟩ := bnd hc
    obtain ⟨p2, e2, hc⟩ := bnd hc
    split at hc
    · rename_i ps
      cases hc
      obtain ⟨y1, s1⟩ := shp_py e1
      obtain ⟨y2, s2⟩ := shp_py e2
      exact ⟨p1, ps, rx.dp e y1, ry.dp e y2, s1, s2, q _ _ (.val (.bl _))⟩
    · cases hc
  · cases hc⟩
/-! flat items (ints, texts ..) in a list or a tuple -/
def fV : D → Option V
  | .non => some .non
  | .bl b => some (.bl b)
  | .int i => some (.int i)
  | .str x => some (.str x)
  | _ => none
theorem fV_rp {K : PySem.W.Frag} {F : Hp} {v w : V} {d : D} (h : Rp K F v d) (e : fV d = some w) : v = w := by
  cases h <;> simp only [fV] at e <;> cases e <;> rfl
theorem fV_rdb {K : PySem.W.Frag} {F H : Hp} {v w : V} {d : D} (h : Rdb K F H v d) (e : fV d = some w) : v = w := by
  rcases h with h | ⟨a, o, rfl, ha, h⟩
  · exact fV_rp h e
  · cases h <;> cases e
def fVs : List D → Option (List V)
  | [] => some []
  | d :: l => (fV d).bind fun v => (fVs l).bind fun vs => some (v :: vs)
theorem fVs_rps {K : PySem.W.Frag} {F : Hp} : ∀ {vs ws : List V} {ds : List D}, Rps K F vs ds → fVs ds = some ws → vs = ws
  | _, _, _, .nil, e => by simp only [fVs] at e; cases e; rfl
  | _, _, _, .cons h t, e => by
    simp only [fVs] at e
    obtain ⟨w, e1, e⟩ := bnd e
    obtain ⟨ws, e2, e⟩ := bnd e
    cases e
    rw [fV_rp h e1, fVs_rps t e2]
def seqD : D → Option (List D)
  | .lst l => some l
  | .tup l => some l
  | _ => none
theorem seqD_sq {K : PySem.W.Frag} {F H : Hp} {v : V} {d : D} {l : List D} (e : Ex F H) (h : Rdb K F H v d) (q : seqD d = some l) : ∃ a xs, v = .ref a ∧ (SqL K H a xs ∨ SqT K H a xs) ∧ Rps K F xs l ∧ l.length ≤ sizeLine := by
  cases d with
  | lst l' => cases q; obtain ⟨a, xs, e1, e2, r, n⟩ := h.lst e; exact ⟨a, xs, e1, .inl e2, r, n⟩
  | tup l' => cases q; obtain ⟨a, xs, e1, e2, r, n⟩ := h.tup e; exact ⟨a, xs, e1, .inr e2, r, n⟩
  | _ => cases q
def hInF (neg : Bool) : D → D → Option Cell := fun a b => (seqD b).bind fun l => (fV a).bind fun x => (fVs l).bind fun xs =>
  if (flatV x && xs.all flatV) = true then some (.val (.bl (if neg then !inV x xs else inV x xs))) else none
theorem r2c_inF {K : PySem.W.Frag} {neg : Bool} : R2C K (rIn K neg) (hInF neg) := fun F H x y a b c Q e rx ry hc q => by
  obtain ⟨l, e1, hc⟩ := bnd hc
  obtain ⟨x', e2, hc⟩ := bnd hc
  obtain ⟨xs', e3, hc⟩ := bnd hc
  split at hc
  · rename_i hf
    cases hc
    rw [Bool.and_eq_true] at hf
    obtain ⟨p, xs, rfl, hs, r, n⟩ := seqD_sq e ry e1
    have h1 := fV_rdb rx e2
    have h2 := fVs_rps r e3
    subst h1 h2
    exact ⟨p, xs, rfl, hs, hf.1, hf.2, q _ _ (.val (.bl _))⟩
  · cases hc
theorem o_inF : OpD X (compareOp .In) (hInF false) := ⟨_, op_in_seq, r2c_inF⟩
theorem o_notInF : OpD X (compareOp .NotIn) (hInF true) := ⟨_, op_notIn_seq, r2c_inF⟩
/-- a sign in a text -/
def hInS : D → D → Option Cell := fun a b => match a, b with
  | .str x, .str z => if x.cps.size = 1 then some (.val (.bl (decide (x.cps.getD 0 0 ∈ z.cps.toList)))) else none
  | _, _ => none
theorem o_inS : OpD X (compareOp .In) hInS := ⟨_, op_in_sign, fun F H x y a b c Q e rx ry hc q => by
  unfold hInS at hc
  split at hc
  · rename_i x' z
    split at hc
    · rename_i h1
      cases hc
      refine ⟨x'.cps.getD 0 0, z, ?_, ry.str, q _ _ (.val (.bl _))⟩
      rw [rx.str]
      obtain ⟨cps⟩ := x'
      simp only at h1 ⊢
      congr 1
      congr 1
      apply Array.ext
      · simpa using h1
      · intro i h2 h3
        have : i = 0 := by omega
        subst this
        simp [Array.getD, h2]
    · cases hc
  · cases hc⟩
def isNonD : D → Bool
  | .non => true
  | _ => false
def hIsN : D → D → Option Cell := fun a b => match b with
  | .non => some (.val (.bl (isNonD a)))
  | _ => none
theorem isN_dec {K : PySem.W.Frag} {F H : Hp} {v : V} {d : D} (h : Rdb K F H v d) : decide (v = .non) = isNonD d := by
  rcases h with h | ⟨a, o, rfl, ha, h⟩
  · cases h <;> rfl
  · cases h <;> rfl
theorem o_isN : OpD X (compareOp .Is) hIsN := ⟨_, op_isN, fun F H x y a b c Q e rx ry hc q => by
  unfold hIsN at hc
  split at hc
  · cases hc
    refine ⟨ry.non, q _ _ (.val ?_)⟩
    rw [isN_dec rx]
    exact .bl _
  · cases hc⟩
def hIsNN : D → D → Option Cell := fun a b => match b with
  | .non => some (.val (.bl (!isNonD a)))
  | _ => none
theorem o_isNN : OpD X (compareOp .IsNot) hIsNN := ⟨_, op_notN, fun F H x y a b c Q e rx ry hc q => by
  unfold hIsNN at hc
  split at hc
  · cases hc
    refine ⟨ry.non, q _ _ (.val ?_)⟩
    rw [isN_dec rx]
    exact .bl _
  · cases hc⟩
def hIsB : D → D → Option Cell := fun a b => match a, b with
  | .bl x, .bl y => some (.val (.bl (decide (x = y))))
  | _, _ => none
theorem o_isB : OpD X (compareOp .Is) hIsB := ⟨_, op_isBl, fun F H x y a b c Q e rx ry hc q => by
  unfold hIsB at hc
  split at hc
  · cases hc
    exact ⟨_, _, rx.bl, ry.bl, q _ _ (.val (.bl _))⟩
  · cases hc⟩
/-! ### + of tuples, of lists -/
def hCatT : D → D → Option Cell := fun a b => match a, b with
  | .tup l, .tup m => if l.length + m.length ≤ sizeLine then some (.val (.tup (l ++ m))) else none
  | _, _ => none
theorem o_catT : OpD X (binaryOp .Add) hCatT := ⟨_, op_catA, fun F H x y a b c Q e rx ry hc q => by
  unfold hCatT at hc
  split at hc
  · rename_i l m
    split at hc
    · rename_i hn
      cases hc
      obtain ⟨p1, xs, rfl, s1, r1, n1⟩ := rx.tup e
      obtain ⟨p2, ys, rfl, s2, r2, n2⟩ := ry.tup e
      have l1 := r1.len
      have l2 := r2.len
      refine ⟨p1, p2, xs, ys, rfl, rfl, s1, s2, by omega, fun z => ?_, fun z1 z2 => ?_, fun z1 z2 p hp => q _ _ (.tup hp (r1.app r2) (by simpa using hn))⟩
      · subst z
        cases r1
        exact q _ _ (.val (by rcases ry with h | ⟨a, o, _, _, h⟩; exact h; cases h))
      · subst z2
        cases r2
        refine q _ _ (.val ?_)
        rw [List.append_nil]
        rcases rx with h | ⟨a, o, _, _, h⟩
        · exact h
        · cases h
    · cases hc
  · cases hc⟩
def rCatS (K : PySem.W.Frag) : R2 := fun x y H Q => ∃ l b xs zs, x = .ref l ∧ y = .ref b ∧ Rd H l (.lst xs) ∧ Rd H b (.lst zs) ∧ xs.length + zs.length ≤ sizeLine ∧ ∀ p, H p = none → Q (.ref p) (upd H p (.lst (xs ++ zs)))
theorem op_catS : OpR X (binaryOp .Add) (rCatS X.K) := by
  intro pins s σ H x y v u Q I rx ry h
  obtain ⟨l, b, xs, zs, rfl, rfl, hH, hB, hz, q⟩ := h
  cases rx
  cases ry
  obtain ⟨hl, its, n, r, e⟩ := (hH.ok I.hok : ObjOk X.prog X.w H s.heap l (.lst xs))
  obtain ⟨hl2, its2, n2, r2, e2⟩ := (hB.ok I.hok : ObjOk X.prog X.w H s.heap b (.lst zs))
  have la := r.length
  have lb := r2.length
  have hzz : its.toArray.size + its2.toArray.size ≤ sizeLine := by simp only [List.size_toArray]; omega
  refine PySem.P.add_list e e2 ?_ hzz
  have ea : its.toArray ++ its2.toArray = (its ++ its2).toArray := by simp
  rw [ea]
  exact ⟨.ref _, _, I.lnew (t' := s.toks) (r.append r2) (by rw [List.length_append]; omega), rfl, q _ I.fresh⟩
def hCatL : D → D → Option Cell := fun a b => match a, b with
  | .lst l, .lst m => if l.length + m.length ≤ sizeLine then some (.own (.lst (l ++ m))) else none
  | _, _ => none
theorem o_catL : OpD X (binaryOp .Add) hCatL := ⟨_, op_catS, fun F H x y a b c Q e rx ry hc q => by
  unfold hCatL at hc
  split at hc
  · rename_i l m
    split at hc
    · rename_i hn
      cases hc
      obtain ⟨p1, xs, rfl, s1, r1, n1⟩ := rx.lstR e
      obtain ⟨p2, ys, rfl, s2, r2, n2⟩ := ry.lstR e
      have l1 := r1.len
      have l2 := r2.len
      exact ⟨p1, p2, xs, ys, rfl, rfl, s1, s2, by omega, fun p hp => q _ _ (.own hp (.lst (r1.app r2) (by simpa using hn)))⟩
    · cases hc
  · cases hc⟩
end
end Q
end
section
set_option maxHeartbeats 1000000
namespace Q
open PySem PySem.Spec PyProof.Rows L2
/-! ### and, or, not, if, chains -/
section
variable {X : Cx} {a b c e : Expr} {rest : List Expr} {pos : Pos}
/-- the cell at the head is a truth value -/
theorem RE.bl {B : Bx} {O F H : Hp} {σ : L2.St} {ρ : Env} {v : V} {k : Bool} (r : RE B O F H (some v :: σ) (some (.val (.bl k)) :: ρ)) : v = .bl k := by
  obtain ⟨v', ev, h⟩ := r.at_ 0 _ rfl
  cases ev
  cases h
  rfl
def dAndV (fa fb : Env → Option (Cell × Env)) : Env → Option (Cell × Env) := fun ρ => (fa ρ).bind fun p => match p.1 with
  | .val (.bl true) => fb p.2
  | .val (.bl false) => some (.val (.bl false), p.2)
  | _ => none
def dOrV (fa fb : Env → Option (Cell × Env)) : Env → Option (Cell × Env) := fun ρ => (fa ρ).bind fun p => match p.1 with
  | .val (.bl true) => some (.val (.bl true), p.2)
  | .val (.bl false) => fb p.2
  | _ => none
def dNotV (fa : Env → Option (Cell × Env)) : Env → Option (Cell × Env) := fun ρ => (fa ρ).bind fun p => match p.1 with
  | .val (.bl k) => some (.val (.bl (!k)), p.2)
  | _ => none
theorem ce_one {op} {f : Env → Option (Cell × Env)} (h : CE X a f) : CE X (.BoolOp op [a] pos) f := let ⟨t, p, s⟩ := h; ⟨t, pe_one p, s⟩
theorem ce_and {fa fb : Env → Option (Cell × Env)} (ha : CE X a fa) (hb : CE X (.BoolOp .And (b :: rest) pos) fb) : CE X (.BoolOp .And (a :: b :: rest) pos) (dAndV fa fb) := by
  obtain ⟨ta, pa, sa⟩ := ha
  obtain ⟨tb, pb, sb⟩ := hb
  refine ⟨_, pe_and pa pb, fun G A O F H σ ρ c ρ' Q r e q => ?_⟩
  obtain ⟨⟨c1, ρ1⟩, e1, e⟩ := bnd e
  split at e
  · rename_i h
    simp only at h
    subst h
    refine sa G A O F H σ ρ _ _ _ r e1 fun F1 H1 v r1 f1 => ?_
    refine ⟨true, r1.bl, ?_⟩
    exact sb G A O F1 H1 σ ρ1 _ _ _ r1.pop e fun F2 H2 v2 r2 f2 => q F2 H2 v2 r2 (f1.trans f2)
  · rename_i h
    simp only at h
    subst h
    cases e
    refine sa G A O F H σ ρ _ _ _ r e1 fun F1 H1 v r1 f1 => ?_
    exact ⟨false, r1.bl, q F1 H1 _ (r1.bl ▸ r1) f1⟩
  · cases e
theorem ce_or {fa fb : Env → Option (Cell × Env)} (ha : CE X a fa) (hb : CE X (.BoolOp .Or (b :: rest) pos) fb) : CE X (.BoolOp .Or (a :: b :: rest) pos) (dOrV fa fb) := by
  obtain ⟨ta, pa, sa⟩ := ha
  obtain ⟨tb, pb, sb⟩ := hb
  refine ⟨_, pe_or pa pb, fun G A O F H σ ρ c ρ' Q r e q => ?_⟩
  obtain ⟨⟨c1, ρ1⟩, e1, e⟩ := bnd e
  split at e
  · rename_i h
    simp only at h
    subst h
    cases e
    refine sa G A O F H σ ρ _ _ _ r e1 fun F1 H1 v r1 f1 => ?_
    exact ⟨true, r1.bl, q F1 H1 _ (r1.bl ▸ r1) f1⟩
  · rename_i h
    simp only at h
    subst h
    refine sa G A O F H σ ρ _ _ _ r e1 fun F1 H1 v r1 f1 => ?_
    refine ⟨false, r1.bl, ?_⟩
    exact sb G A O F1 H1 σ ρ1 _ _ _ r1.pop e fun F2 H2 v2 r2 f2 => q F2 H2 v2 r2 (f1.trans f2)
  · cases e
theorem ce_not {fa : Env → Option (Cell × Env)} (ha : CE X a fa) : CE X (.UnaryOp .Not a pos) (dNotV fa) := by
  obtain ⟨ta, pa, sa⟩ := ha
  refine ⟨_, pe_not pa, fun G A O F H σ ρ c ρ' Q r e q => ?_⟩
  obtain ⟨⟨c1, ρ1⟩, e1, e⟩ := bnd e
  split at e
  · rename_i k h
    simp only at h
    subst h
    cases e
    refine sa G A O F H σ ρ _ _ _ r e1 fun F1 H1 v r1 f1 => ?_
    exact ⟨k, r1.bl, q F1 H1 _ (r1.pop.pushV (.bl _)) f1⟩
  · cases e
/-! tests -/
def dAnd (fa fb : Env → Option (Bool × Env)) : Env → Option (Bool × Env) := fun ρ => (fa ρ).bind fun p => if p.1 = true then fb p.2 else some (false, p.2)
def dOr (fa fb : Env → Option (Bool × Env)) : Env → Option (Bool × Env) := fun ρ => (fa ρ).bind fun p => if p.1 = true then some (true, p.2) else fb p.2
def dNot (fa : Env → Option (Bool × Env)) : Env → Option (Bool × Env) := fun ρ => (fa ρ).bind fun p => some (!p.1, p.2)
theorem CW.ct {f : Env → Option (Bool × Env)} (h : CW X e f) : CT X e f := let ⟨t, p, s⟩ := h; ⟨t, p.pt, s⟩
theorem ct_val {f : Env → Option (Cell × Env)} (h : CE X e f) (he : ∀ whole, isTrue e X.env whole = (do let v ← whole; standAt e.pos; holding [v] (truthy v)) := by intro _; rfl) : CT X e (dTst f) :=
  let ⟨_, p, s⟩ := h; ⟨_, pt_val p he, snd_tst s⟩
theorem snd_and {K : PySem.W.Frag} {t u : TT} {fa fb : Env → Option (Bool × Env)} (sa : SndT K t fa) (sb : SndT K u fb) : SndT K (tAnd t u) (dAnd fa fb) := fun G A O F H σ ρ k ρ' Q r e q => by
  obtain ⟨⟨k1, ρ1⟩, e1, e⟩ := bnd e
  refine sa G A O F H σ ρ _ _ _ r e1 fun F1 H1 r1 f1 => ?_
  cases k1 with
  | true => exact sb G A O F1 H1 σ ρ1 _ _ _ r1 e fun F2 H2 r2 f2 => q F2 H2 r2 (f1.trans f2)
  | false => cases e; exact q F1 H1 r1 f1
theorem snd_or {K : PySem.W.Frag} {t u : TT} {fa fb : Env → Option (Bool × Env)} (sa : SndT K t fa) (sb : SndT K u fb) : SndT K (tOr t u) (dOr fa fb) := fun G A O F H σ ρ k ρ' Q r e q => by
  obtain ⟨⟨k1, ρ1⟩, e1, e⟩ := bnd e
  refine sa G A O F H σ ρ _ _ _ r e1 fun F1 H1 r1 f1 => ?_
  cases k1 with
  | false => exact sb G A O F1 H1 σ ρ1 _ _ _ r1 e fun F2 H2 r2 f2 => q F2 H2 r2 (f1.trans f2)
  | true => cases e; exact q F1 H1 r1 f1
theorem cw_and1 {fa : Env → Option (Bool × Env)} (ha : CT X a fa) : CW X (.BoolOp .And [a] pos) fa := let ⟨_, p, s⟩ := ha; ⟨_, pw_and1 p, s⟩
theorem cw_or1 {fa : Env → Option (Bool × Env)} (ha : CT X a fa) : CW X (.BoolOp .Or [a] pos) fa := let ⟨_, p, s⟩ := ha; ⟨_, pw_or1 p, s⟩
theorem cw_and {fa fb : Env → Option (Bool × Env)} (ha : CT X a fa) (hb : CW X (.BoolOp .And (b :: rest) pos) fb) : CW X (.BoolOp .And (a :: b :: rest) pos) (dAnd fa fb) :=
  let ⟨_, p, s⟩ := ha; let ⟨_, p2, s2⟩ := hb; ⟨_, pw_and p p2, snd_and s s2⟩
theorem cw_or {fa fb : Env → Option (Bool × Env)} (ha : CT X a fa) (hb : CW X (.BoolOp .Or (b :: rest) pos) fb) : CW X (.BoolOp .Or (a :: b :: rest) pos) (dOr fa fb) :=
  let ⟨_, p, s⟩ := ha; let ⟨_, p2, s2⟩ := hb; ⟨_, pw_or p p2, snd_or s s2⟩
theorem ct_not {fa : Env → Option (Bool × Env)} (ha : CT X a fa) : CT X (.UnaryOp .Not a pos) (dNot fa) := by
  obtain ⟨ta, pa, sa⟩ := ha
  refine ⟨_, pt_not pa, fun G A O F H σ ρ k ρ' Q r e q => ?_⟩
  obtain ⟨⟨k1, ρ1⟩, e1, e⟩ := bnd e
  cases e
  exact sa G A O F H σ ρ _ _ _ r e1 fun F1 H1 r1 f1 => q F1 H1 r1 f1
/-- by the value's truth: an int, a list, a tuple -/
def truD : D → Option Bool
  | .non => some false
  | .bl k => some k
  | .int i => some (i != 0)
  | .lst l => some (!l.isEmpty)
  | .tup l => some (!l.isEmpty)
  | _ => none
def dTru (f : Env → Option (Hd × Env)) : Env → Option (Bool × Env) := fun ρ => (f ρ).bind fun p => (look p.2 p.1).bind fun d => (truD d).bind fun k => some (k, p.2)
theorem isEmpty_rps {K : PySem.W.Frag} {F : Hp} {vs : List V} {ds : List D} (r : Rps K F vs ds) : (!ds.isEmpty) = !vs.isEmpty := by
  cases r <;> rfl
theorem ct_tru {f : Env → Option (Hd × Env)} (h : OE X e f) (he : ∀ whole, isTrue e X.env whole = (do let v ← whole; standAt e.pos; holding [v] (truthy v)) := by intro _; rfl) : CT X e (dTru f) := by
  obtain ⟨t, p, s⟩ := h
  refine ⟨_, pt_truth p he, fun G A O F H σ ρ k ρ' Q r e q => ?_⟩
  obtain ⟨⟨h, ρ1⟩, e1, e⟩ := bnd e
  obtain ⟨d, e2, e⟩ := bnd e
  obtain ⟨k1, e3, e⟩ := bnd e
  cases e
  refine s G A O F H σ ρ _ _ _ r e1 fun F1 H1 v r1 f1 hv => ?_
  refine ⟨k, ?_, q F1 H1 r1 f1⟩
  have rd := r1.look hv e2
  cases d with
  | non => cases e3; rw [rd.non]; rfl
  | bl b => cases e3; rw [rd.bl]; rfl
  | int i => cases e3; rw [rd.int]; rfl
  | lst l =>
    cases e3
    obtain ⟨a, xs, rfl, sl, rp, n⟩ := rd.lst r1.fh
    exact .inl ⟨xs, sl, isEmpty_rps rp⟩
  | tup l =>
    cases e3
    obtain ⟨a, xs, rfl, sl, rp, n⟩ := rd.tup r1.fh
    exact .inr (.inl ⟨xs, sl, isEmpty_rps rp⟩)
  | _ => cases e3
def dIf {α : Type} (fc : Env → Option (Bool × Env)) (fa fb : Env → Option α) : Env → Option α := fun ρ => (fc ρ).bind fun p => if p.1 = true then fa p.2 else fb p.2
theorem ce_ifExp {fc : Env → Option (Bool × Env)} {fa fb : Env → Option (Cell × Env)} (hc : CT X c fc) (ha : CE X a fa) (hb : CE X b fb) : CE X (.IfExp c a b pos) (dIf fc fa fb) := by
  obtain ⟨tc, pc, sc⟩ := hc
  obtain ⟨ta, pa, sa⟩ := ha
  obtain ⟨tb, pb, sb⟩ := hb
  refine ⟨_, pe_ifExp pc pa pb, fun G A O F H σ ρ c ρ' Q r e q => ?_⟩
  obtain ⟨⟨k, ρ1⟩, e1, e⟩ := bnd e
  refine sc G A O F H σ ρ _ _ _ r e1 fun F1 H1 r1 f1 => ?_
  cases k with
  | true => exact sa G A O F1 H1 σ ρ1 _ _ _ r1 e fun F2 H2 v r2 f2 => q F2 H2 v r2 (f1.trans f2)
  | false => exact sb G A O F1 H1 σ ρ1 _ _ _ r1 e fun F2 H2 v r2 f2 => q F2 H2 v r2 (f1.trans f2)
/-- a op b op' c -/
def dChain (h h' : D → D → Option Cell) (fa fb fc : Env → Option (Hd × Env)) : Env → Option (Cell × Env) := fun ρ =>
  (fa ρ).bind fun p => (fb p.2).bind fun q => (look q.2 p.1).bind fun a => (look q.2 q.1).bind fun b => (h a b).bind fun c => match c with
    | .val (.bl true) => (fc q.2).bind fun s => (look s.2 q.1).bind fun b' => (look s.2 s.1).bind fun d => (h' b' d).bind fun c' => some (c', s.2)
    | .val (.bl false) => some (.val (.bl false), q.2)
    | _ => none
theorem snd_chain {K : PySem.W.Frag} {r r' : R2} {h h' : D → D → Option Cell} {ta tb tc : TE} {fa fb fc : Env → Option (Hd × Env)} (s : R2C K r h) (s' : R2C K r' h') (sa : SndO K ta fa) (sb : SndO K tb fb) (sc : SndO K tc fc) :
    SndE K (tChain r r' ta tb tc) (dChain h h' fa fb fc) := fun G A O F H σ ρ c ρ' Q re e q => by
  obtain ⟨⟨ha, ρ1⟩, e1, e⟩ := bnd e
  obtain ⟨⟨hb, ρ2⟩, e2, e⟩ := bnd e
  obtain ⟨a, e3, e⟩ := bnd e
  obtain ⟨b, e4, e⟩ := bnd e
  obtain ⟨c1, e5, e⟩ := bnd e
  refine sa G A O F H σ ρ _ _ _ re e1 fun F1 H1 x r1 f1 hx => ?_
  refine sb G A O F1 H1 σ ρ1 _ _ _ r1 e2 fun F2 H2 y r2 f2 hy => ?_
  refine s F2 H2 x y a b c1 _ r2.fh (r2.look (hx.mono f2) e3) (r2.look hy e4) e5 fun v H' res => ?_
  obtain ⟨F3, f3, r3⟩ := res.re r2
  split at e
  · refine ⟨true, r3.bl, ?_⟩
    obtain ⟨⟨hc, ρ3⟩, e6, e⟩ := bnd e
    obtain ⟨b', e7, e⟩ := bnd e
    obtain ⟨d, e8, e⟩ := bnd e
    obtain ⟨c2, e9, e⟩ := bnd e
    cases e
    show tc σ H' _
    refine sc G A O F3 H' σ ρ2 _ _ _ r3.pop e6 fun F4 H4 z r4 f4 hz => ?_
    refine s' F4 H4 y z b' d c _ r4.fh (r4.look (hy.mono (f3.trans f4)) e7) (r4.look hz e8) e9 fun v2 H5 res2 => ?_
    obtain ⟨F5, f5, r5⟩ := res2.re r4
    exact q F5 H5 v2 r5 ((((f1.trans f2).trans f3).trans f4).trans f5)
  · cases e
    refine ⟨false, r3.bl, ?_⟩
    show Q (.bl false) H'
    exact q F3 H' _ (r3.bl ▸ r3) ((f1.trans f2).trans f3)
  · cases e
section
variable {op op' : CmpOp} {h h' : D → D → Option Cell} {fa fb fc : Env → Option (Hd × Env)}
theorem ce_chain (o : OpD X (compareOp op) h) (o' : OpD X (compareOp op') h') (ha : OE X a fa) (hb : OE X b fb) (hc : OE X c fc) (hm : lastMarks [op, op'] [b, c] = false := by with_unfolding_all rfl) :
    CE X (.Compare a [op, op'] [b, c] pos) (dChain h h' fa fb fc) := by
  obtain ⟨r, p, s⟩ := o
  obtain ⟨r', p', s'⟩ := o'
  obtain ⟨ta, pa, sa⟩ := ha
  obtain ⟨tb, pb, sb⟩ := hb
  obtain ⟨tc, pc, sc⟩ := hc
  exact ⟨_, pe_chain p p' pa pb pc hm, snd_chain s s' sa sb sc⟩
theorem ct_chain (o : OpD X (compareOp op) h) (o' : OpD X (compareOp op') h') (ha : OE X a fa) (hb : OE X b fb) (hc : OE X c fc) (hm : lastMarks [op, op'] [b, c] = false := by with_unfolding_all rfl) :
    CT X (.Compare a [op, op'] [b, c] pos) (dTst (dChain h h' fa fb fc)) := by
  obtain ⟨r, p, s⟩ := o
  obtain ⟨r', p', s'⟩ := o'
  obtain ⟨ta, pa, sa⟩ := ha
  obtain ⟨tb, pb, sb⟩ := hb
  obtain ⟨tc, pc, sc⟩ := hc
  exact ⟨_, pt_chain p p' pa pb pc hm, snd_tst (snd_chain s s' sa sb sc)⟩
end
end
/-! ### subscripts, slices, displays -/
def IxD (X : Cx) (h : D → D → Option Cell) : Prop := ∃ r, IxR X r ∧ R2C X.K r h
theorem IxD.or {X : Cx} {h1 h2 : D → D → Option Cell} (a : IxD X h1) (b : IxD X h2) : IxD X (hOr h1 h2) := by
  obtain ⟨r1, p1, s1⟩ := a
  obtain ⟨r2, p2, s2⟩ := b
  refine ⟨_, IxR.or p1 p2, fun F H x y a b c Q e rx ry hc q => ?_⟩
  unfold hOr at hc
  split at hc
  · rename_i c' h'
    cases hc
    exact .inl (s1 F H x y a b _ Q e rx ry h' q)
  · exact .inr (s2 F H x y a b _ Q e rx ry hc q)
def seqK : D → Option (List D)
  | .klst l => some l
  | d => seqD d
theorem seqK_sq {K : PySem.W.Frag} {F H : Hp} {v : V} {d : D} {l : List D} (e : Ex F H) (h : Rdb K F H v d) (q : seqK d = some l) : ∃ a xs, v = .ref a ∧ (SqL K H a xs ∨ SqT K H a xs) ∧ Rps K F xs l ∧ l.length ≤ sizeLine := by
  cases d with
  | klst l' =>
    cases (show some l' = some l from q)
    rcases h with h | ⟨_, _, _, _, h⟩
    · cases h with
      | klst h r n => exact ⟨_, _, rfl, .inl (h.sq H), r, n⟩
    · cases h
  | _ => exact seqD_sq e h q
def hIxS : D → D → Option Cell := fun a b => match b with
  | .int i => (seqK a).bind fun l => (atI l i).bind fun d => some (.val d)
  | _ => none
theorem atI_rps {K : PySem.W.Frag} {F : Hp} {xs : List V} {ds : List D} {i : Int} {d : D} (r : Rps K F xs ds) (e : atI ds i = some d) : ∃ v, atI xs i = some v ∧ Rp K F v d := by
  unfold atI at e ⊢
  rw [r.len]
  obtain ⟨j, e1, e2⟩ := bnd e
  rw [e1]
  exact r.get e2
section
variable {X : Cx} {a b : Expr} {pos : Pos}
theorem ix_seq : IxD X hIxS := ⟨_, IxR.or ix_list ix_tup, fun F H x y a b c Q e rx ry hc q => by
  unfold hIxS at hc
  split at hc
  · rename_i i
    obtain ⟨l, e1, hc⟩ := bnd hc
    obtain ⟨d, e2, hc⟩ := bnd hc
    cases hc
    obtain ⟨p, xs, rfl, hs, r, n⟩ := seqK_sq e rx e1
    obtain ⟨v, e3, rp⟩ := atI_rps r e2
    rcases hs with hs | hs
    · exact .inl ⟨p, xs, i, v, rfl, ry.int, hs, e3, q _ _ (.val rp)⟩
    · exact .inr ⟨p, xs, i, v, rfl, ry.int, hs, e3, q _ _ (.val rp)⟩
  · cases hc⟩
/-- a dict's keys -/
def key1 : D → Option Key
  | .int i => some (.inl i)
  | .str x => some (.inr x)
  | _ => none
def keyL : List D → Option (List Key)
  | [] => some []
  | d :: l => (key1 d).bind fun k => (keyL l).bind fun ks => some (k :: ks)
def keyT : D → Option (List Key)
  | .tup l => keyL l
  | _ => none
theorem key1_kD {k : Key} : key1 (kD k) = some k := by cases k <;> rfl
theorem keyL_map : ∀ {ks : List Key}, keyL (ks.map kD) = some ks
  | [] => rfl
  | k :: ks => by
    simp only [List.map_cons, keyL, key1_kD, keyL_map]
    rfl
theorem key1_inv {d : D} {k : Key} (h : key1 d = some k) : d = kD k := by
  cases d <;> simp only [key1] at h <;> cases h <;> rfl
theorem keyL_inv : ∀ {l : List D} {ks : List Key}, keyL l = some ks → l = ks.map kD
  | [], ks, h => by simp only [keyL] at h; cases h; rfl
  | d :: l, ks, h => by
    simp only [keyL] at h
    obtain ⟨k, e1, h⟩ := bnd h
    obtain ⟨ks', e2, h⟩ := bnd h
    cases h
    rw [key1_inv e1, keyL_inv e2]
    rfl
def lookP {κ : Type} [DecidableEq κ] (kf : D → Option κ) (l : List (D × D)) (k : κ) : Option D := (l.find? fun p => decide (kf p.1 = some k)).map (·.2)
def dLook (t : Bool) (l : List (D × D)) (k : D) : Option (Option D) := match t with
  | false => (key1 k).bind fun kk => some (lookP key1 l kk)
  | true => (keyT k).bind fun kk => some (lookP keyT l kk)
theorem lookP_K {K : PySem.W.Frag} {F : Hp} {k : Key} : ∀ {kvs : List (Key × V)} {l : List (D × D)}, RpK K F kvs l → match lookP key1 l k with
    | some d => ∃ v, valV kvs k = some v ∧ Rp K F v d
    | none => valV kvs k = none
  | _, _, .nil => rfl
  | _, _, .cons (k := k') (v := v) (d := d) (vs := vs) (ds := ds) h t => by
    unfold lookP
    rw [List.find?_cons]
    simp only [key1_kD, Option.some.injEq]
    by_cases e : k' = k
    · subst e
      simp only [decide_true, Option.map_some]
      exact ⟨v, valV_pos rfl, h⟩
    · simp only [e, decide_false]
      have ih := lookP_K (k := k) t
      unfold lookP at ih
      rw [valV_neg e]
      exact ih
theorem lookP_T {K : PySem.W.Frag} {F : Hp} {k : List Key} : ∀ {kvs : List (List Key × V)} {l : List (D × D)}, RpT K F kvs l → match lookP keyT l k with
    | some d => ∃ v, valV kvs k = some v ∧ Rp K F v d
    | none => valV kvs k = none
  | _, _, .nil => rfl
  | _, _, .cons (k := k') (v := v) (d := d) (vs := vs) (ds := ds) h t => by
    unfold lookP
    rw [List.find?_cons]
    simp only [keyT, keyL_map, Option.some.injEq]
    by_cases e : k' = k
    · subst e
      simp only [decide_true, Option.map_some]
      exact ⟨v, valV_pos rfl, h⟩
    · simp only [e, decide_false]
      have ih := lookP_T (k := k) t
      unfold lookP at ih
      rw [valV_neg e]
      exact ih
/-- a flat tuple as a dict's key: it stands tracked -/
theorem keyT_at {K : PySem.W.Frag} {F H : Hp} {v : V} {d : D} {ks : List Key} (e : Ex F H) (h : Rdb K F H v d) (hk : keyT d = some ks) : ∃ b, v = .ref b ∧ H b = some (.tup (ks.map kV)) := by
  cases d with
  | tup l =>
    obtain ⟨a, xs, rfl, hs, r, n⟩ := h.tupR e
    have el := keyL_inv (show keyL l = some ks from hk)
    subst el
    have : xs = ks.map kV := by
      have aux : ∀ {vs : List V} {ks : List Key}, Rps K F vs (ks.map kD) → vs = ks.map kV := by
        intro vs ks
        induction ks generalizing vs with
        | nil => intro r; cases r; rfl
        | cons k ks ih =>
          intro r
          cases r with
          | cons h t =>
            rw [ih t]
            cases k with
            | inl i => cases h; rfl
            | inr x => cases h; rfl
      exact aux r
    subst this
    exact ⟨a, rfl, hs⟩
  | _ => cases hk
end
end Q
end
section
set_option maxHeartbeats 1000000
namespace Q
open PySem PySem.Spec PyProof.Rows L2
/-! ### dicts: d[k], in -/
section
variable {X : Cx}
def OptR (K : PySem.W.Frag) (F : Hp) : Option V → Option D → Prop
  | some v, some d => Rp K F v d
  | none, none => True
  | _, _ => False
theorem dget_of {K : PySem.W.Frag} {F H : Hp} {x y : V} {t : Bool} {l : List (D × D)} {k : D} {o : Option D} (e : Ex F H) (rx : Rdb K F H x (.dct t l)) (ry : Rdb K F H y k) (h : dLook t l k = some o) :
    ∃ a ov, x = .ref a ∧ DGet H a y ov ∧ OptR K F ov o := by
  cases t with
  | false =>
    obtain ⟨kk, e1, h⟩ := bnd (show (key1 k).bind _ = some o from h)
    cases h
    obtain ⟨a, kvs, rfl, hd, r⟩ := rx.dk e
    have z := lookP_K (k := kk) r
    have ek := key1_inv e1
    subst ek
    have ey : y = kV kk := by
      cases kk with
      | inl i => exact ry.int
      | inr x => exact ry.str
    refine ⟨a, valV kvs kk, rfl, .inl ⟨kvs, kk, hd, ey, rfl⟩, ?_⟩
    cases q : lookP key1 l kk with
    | none => rw [q] at z; rw [z]; exact True.intro
    | some d => rw [q] at z; obtain ⟨v, z1, z2⟩ := z; rw [z1]; exact z2
  | true =>
    obtain ⟨kk, e1, h⟩ := bnd (show (keyT k).bind _ = some o from h)
    cases h
    obtain ⟨a, kvs, rfl, hd, r⟩ := rx.dt e
    have z := lookP_T (k := kk) r
    obtain ⟨b, rfl, hb⟩ := keyT_at e ry e1
    refine ⟨a, valV kvs kk, rfl, .inr ⟨kvs, kk, b, hd, rfl, hb, rfl⟩, ?_⟩
    cases q : lookP keyT l kk with
    | none => rw [q] at z; rw [z]; exact True.intro
    | some d => rw [q] at z; obtain ⟨v, z1, z2⟩ := z; rw [z1]; exact z2
def rIxDct : R2 := fun x y H Q => ∃ a v, x = .ref a ∧ DGet H a y (some v) ∧ Q v H
theorem ixr_dct (hu : X.A.units + 1 < cLine) : IxR X rIxDct := by
  intro value slice pins s σ H x y v u Q I rx ry h hs
  obtain ⟨a, z, rfl, g, q⟩ := h
  obtain rfl : v = Value.ref a := rx
  have hT := dict_typeIs I g
  have h₂ : wpAny (model X.prog X.w) X.A (getItem (.ref a) u) (EP X pins σ Q) X.xe s := d_getItem hu I g ry fun w' s3 I3 rw' => ⟨z, H, I3, rw', q⟩
  unfold subscriptTail
  refine wpAny_bind ?_
  rw [getitemInPython_of_ne hT.not_modules]
  refine wpAny_bind (wpAny_specialOf hT PySem.F.slot_dict_getitem.lookup ?_)
  have fin : wpAny (model X.prog X.w) X.A (subscripted slice false (.ref a) u) (fun r s₃ => wpAny (model X.prog X.w) X.A (letTemporaryGo value (.ref a) r >>= fun _ => pure r) (EP X pins σ Q) X.xe s₃) X.xe s := by
    rw [hs]
    exact wpAny_operating (wpAny_mono h₂ (fun r s₃ h₃ => wpAny_bind (wpAny_letTemporaryGo (wpAny_pure h₃))) fun _ _ x => x)
  first
    | exact wpAny_pure (wpAny_bind fin)
    | exact wpAny_bind (wpAny_pure (wpAny_bind fin))
    | exact wpAny_bind fin
def hIxDct : D → D → Option Cell := fun a k => match a with
  | .dct t l => (dLook t l k).bind fun o => o.bind fun d => some (.val d)
  | _ => none
theorem ix_dct {k : Nat} (hr : Room k X.A) : IxD X hIxDct := ⟨_, ixr_dct (by have := hr.un; omega), fun F H x y a b c Q e rx ry hc q => by
  unfold hIxDct at hc
  split at hc
  · rename_i t l
    obtain ⟨o, e1, hc⟩ := bnd hc
    obtain ⟨d, e2, hc⟩ := bnd hc
    cases hc
    subst e2
    obtain ⟨p, ov, rfl, g, ro⟩ := dget_of e rx ry e1
    cases ov with
    | none => cases ro
    | some v => exact ⟨p, v, rfl, g, q _ _ (.val ro)⟩
  · cases hc⟩
def rInDct (neg : Bool) : R2 := fun y x H Q => ∃ a o, x = .ref a ∧ DGet H a y o ∧ Q (.bl (if neg then !o.isSome else o.isSome)) H
theorem op_inDct (hu : X.A.units + 1 < cLine) : OpR X (compareOp .In) (rInDct false) := by
  intro pins s σ H x y v u Q I rx ry h
  obtain ⟨a, o, rfl, g, q⟩ := h
  obtain rfl : u = Value.ref a := ry
  exact d_in hu I g rx fun s' I' => ⟨.bl o.isSome, H, I', rfl, q⟩
theorem op_notInDct (hu : X.A.units + 1 < cLine) : OpR X (compareOp .NotIn) (rInDct true) := by
  intro pins s σ H x y v u Q I rx ry h
  obtain ⟨a, o, rfl, g, q⟩ := h
  obtain rfl : u = Value.ref a := ry
  exact d_notIn hu I g rx fun s' I' => ⟨.bl (!o.isSome), H, I', rfl, q⟩
def hInDct (neg : Bool) : D → D → Option Cell := fun k a => match a with
  | .dct t l => (dLook t l k).bind fun o => some (.val (.bl (if neg then !o.isSome else o.isSome)))
  | _ => none
theorem r2c_inDct {K : PySem.W.Frag} {neg : Bool} : R2C K (rInDct neg) (hInDct neg) := fun F H x y a b c Q e rx ry hc q => by
  unfold hInDct at hc
  split at hc
  · rename_i t l
    obtain ⟨o, e1, hc⟩ := bnd hc
    cases hc
    obtain ⟨p, ov, rfl, g, ro⟩ := dget_of e ry rx e1
    have : ov.isSome = o.isSome := by cases ov <;> cases o <;> first | rfl | cases ro
    refine ⟨p, ov, rfl, g, q _ _ (.val ?_)⟩
    rw [this]
    exact .bl _
  · cases hc
theorem o_inDct {k : Nat} (hr : Room k X.A) : OpD X (compareOp .In) (hInDct false) := ⟨_, op_inDct (by have := hr.un; omega), r2c_inDct⟩
theorem o_notInDct {k : Nat} (hr : Room k X.A) : OpD X (compareOp .NotIn) (hInDct true) := ⟨_, op_notInDct (by have := hr.un; omega), r2c_inDct⟩
/-- in, not in: over a dict, a list, a tuple of flat items, a text -/
def hIn := hOr (hInDct false) (hOr hInL (hOr (hInF false) hInS))
def hNotIn := hOr (hInDct true) (hOr hNotInL (hInF true))
theorem o_in {k : Nat} (hr : Room k X.A) : OpD X (compareOp .In) hIn := (o_inDct hr).or ((o_inL hr).or (o_inF.or o_inS))
theorem o_notIn {k : Nat} (hr : Room k X.A) : OpD X (compareOp .NotIn) hNotIn := (o_notInDct hr).or ((o_notInL hr).or o_notInF)
def hIx := hOr hIxDct hIxS
theorem ix_any {k : Nat} (hr : Room k X.A) : IxD X hIx := (ix_dct hr).or ix_seq
def hAdd := hOr hAddI (hOr hCatT hCatL)
theorem o_add : OpD X (binaryOp .Add) hAdd := o_addI.or (o_catT.or o_catL)
theorem ce_ix {a b : Expr} {pos : Pos} {fa fb : Env → Option (Hd × Env)} {h : D → D → Option Cell} (o : IxD X h) (ha : OE X a fa) (hb : OE X b fb) (hs : PlainIx b := by exact fun _ _ => rfl) : CE X (.Subscript a b pos) (dOp h fa fb) := by
  obtain ⟨r, p, s⟩ := o
  obtain ⟨ta, pa, sa⟩ := ha
  obtain ⟨tb, pb, sb⟩ := hb
  exact ⟨_, pe_ix p pa pb hs, snd_op2 s sa sb⟩
end
/-! ### slices -/
def OO (X : Cx) (e : Option Expr) (f : Env → Option (Option Int × Env)) : Prop := ∃ t, PO X e t ∧ ∀ (G : Hp) (A : Nat → Option Addr) (O F H : Hp) (σ : L2.St) (ρ : Env) (i : Option Int) (ρ' : Env) (Q : Option Int → Hp → Prop), RE ⟨X.K, G, A⟩ O F H σ ρ → f ρ = some (i, ρ') →
  (∀ F' H', RE ⟨X.K, G, A⟩ O F' H' σ ρ' → Le F F' → Q i H') → t σ H Q
def nPart : Env → Option (Option Int × Env) := fun ρ => some (none, ρ)
def sPart (f : Env → Option (Hd × Env)) : Env → Option (Option Int × Env) := fun ρ => (f ρ).bind fun p => (look p.2 p.1).bind fun d => match d with
  | .int i => some (some i, p.2)
  | _ => none
section
variable {X : Cx} {e : Expr} {lo hi : Option Expr} {pos p2 : Pos}
theorem oo_none : OO X none nPart := ⟨_, po_none, fun G A O F H σ ρ i ρ' Q r e q => by cases e; exact q F H r (Le.refl F)⟩
theorem oo_some {f : Env → Option (Hd × Env)} (h : OE X e f) : OO X (some e) (sPart f) := by
  obtain ⟨t, p, s⟩ := h
  refine ⟨_, po_some p, fun G A O F H σ ρ i ρ' Q r e q => ?_⟩
  obtain ⟨⟨h, ρ1⟩, e1, e⟩ := bnd e
  obtain ⟨d, e2, e⟩ := bnd e
  split at e
  · cases e
    refine s G A O F H σ ρ _ _ _ r e1 fun F1 H1 v r1 f1 hv => ?_
    exact ⟨_, (r1.look hv e2).int, q F1 H1 r1 f1⟩
  · cases e
def cutD (xs : List D) (lo hi : Option Int) : List D := (xs.drop (HT.sIx xs.length 0 lo)).take (HT.sIx xs.length xs.length hi - HT.sIx xs.length 0 lo)
def hSl (d : D) (lo hi : Option Int) : Option Cell := match d with
  | .lst l => some (.own (.lst (cutD l lo hi)))
  | .tup l => some (.val (.tup (cutD l lo hi)))
  | .klst l => some (.own (.lst (cutD l lo hi)))
  | _ => none
theorem cut_rps {K : PySem.W.Frag} {F : Hp} {xs : List V} {ds : List D} (r : Rps K F xs ds) (lo hi : Option Int) : Rps K F (cutV xs lo hi) (cutD ds lo hi) := by
  unfold cutV cutD
  rw [r.len]
  exact (r.dr _).tk _
theorem cutD_len (ds : List D) (lo hi : Option Int) : (cutD ds lo hi).length ≤ ds.length := by
  unfold cutD
  rw [List.length_take, List.length_drop]
  omega
theorem cutD_all {ds : List D} {lo hi : Option Int} (h : HT.sIx ds.length 0 lo = 0 ∧ HT.sIx ds.length ds.length hi = ds.length) : cutD ds lo hi = ds := by
  unfold cutD
  rw [h.1, h.2]
  simp
def dSl (f : Env → Option (Hd × Env)) (fl fh : Env → Option (Option Int × Env)) : Env → Option (Cell × Env) := fun ρ =>
  (f ρ).bind fun p => (fl p.2).bind fun q => (fh q.2).bind fun s => (look s.2 p.1).bind fun d => (hSl d q.1 s.1).bind fun c => some (c, s.2)
theorem ce_slice {f : Env → Option (Hd × Env)} {fl fh : Env → Option (Option Int × Env)} (he : OE X e f) (hl : OO X lo fl) (hh : OO X hi fh) : CE X (.Subscript e (.Slice lo hi none p2) pos) (dSl f fl fh) := by
  obtain ⟨t, p, s⟩ := he
  obtain ⟨tl, pl, sl⟩ := hl
  obtain ⟨th, ph, sh⟩ := hh
  refine ⟨_, pe_slice (SlR.or sl_list sl_tupA) p pl ph, fun G A O F H σ ρ c ρ' Q r e q => ?_⟩
  obtain ⟨⟨h, ρ1⟩, e1, e⟩ := bnd e
  obtain ⟨⟨i, ρ2⟩, e2, e⟩ := bnd e
  obtain ⟨⟨j, ρ3⟩, e3, e⟩ := bnd e
  obtain ⟨d, e4, e⟩ := bnd e
  obtain ⟨c1, e5, e⟩ := bnd e
  cases e
  refine s G A O F H σ ρ _ _ _ r e1 fun F1 H1 v r1 f1 hv => ?_
  refine sl G A O F1 H1 σ ρ1 _ _ _ r1 e2 fun F2 H2 r2 f2 => ?_
  refine sh G A O F2 H2 σ ρ2 _ _ _ r2 e3 fun F3 H3 r3 f3 => ?_
  have rd := r3.look (hv.mono (f2.trans f3)) e4
  have fin : ∀ v' H', Res X.K F3 H3 v' H' c → Q v' H' := fun v' H' res => by
    obtain ⟨F4, f4, r4⟩ := Res.re r3 res
    exact q F4 H' v' r4 (((f1.trans f2).trans f3).trans f4)
  unfold hSl at e5
  split at e5
  · rename_i l
    cases e5
    obtain ⟨a, xs, rfl, hs, rp, n⟩ := rd.lst r3.fh
    exact .inl ⟨a, xs, rfl, hs, fun p hp => fin _ _ (.own hp (.lst (cut_rps rp _ _) (Nat.le_trans (cutD_len _ _ _) n)))⟩
  · rename_i l
    cases e5
    obtain ⟨a, xs, rfl, hs, rp, n⟩ := rd.tup r3.fh
    refine .inr ⟨a, xs, rfl, hs, fun z => ?_, fun z p hp => fin _ _ (.tup hp (cut_rps rp _ _) (Nat.le_trans (cutD_len _ _ _) n))⟩
    refine fin _ _ (.val ?_)
    rw [rp.len] at z
    rw [cutD_all z]
    rcases rd with h | ⟨_, _, _, _, h⟩
    · exact h
    · cases h
  · rename_i l
    cases e5
    rcases rd with h | ⟨_, _, _, _, h⟩
    · cases h with
      | klst h rp n => exact .inl ⟨_, _, rfl, h.sq H3, fun p hp => fin _ _ (.own hp (.lst (cut_rps rp _ _) (Nat.le_trans (cutD_len _ _ _) n)))⟩
    · cases h
  · cases e5
/-- xs[::-1] -/
def dRev (f : Env → Option (Hd × Env)) : Env → Option (Cell × Env) := fun ρ => (f ρ).bind fun p => (look p.2 p.1).bind fun d => match d with
  | .lst l => some (.own (.lst l.reverse), p.2)
  | _ => none
end
/-! ### calls of what is built in -/
inductive Rdbs (K : PySem.W.Frag) (F H : Hp) : List V → List D → Prop
  | nil : Rdbs K F H [] []
  | cons {v : V} {d : D} {vs : List V} {ds : List D} : Rdb K F H v d → Rdbs K F H vs ds → Rdbs K F H (v :: vs) (d :: ds)
def lookAll (ρ : Env) : List Hd → Option (List D)
  | [] => some []
  | h :: hs => (look ρ h).bind fun d => (lookAll ρ hs).bind fun ds => some (d :: ds)
theorem RE.lookAll {B : Bx} {O F H : Hp} {σ : L2.St} {ρ : Env} (r : RE B O F H σ ρ) : ∀ {vs : List V} {hs : List Hd} {ds : List D}, HdRs B.K F σ vs hs → lookAll ρ hs = some ds → Rdbs B.K F H vs ds
  | _, _, _, .nil, e => by simp only [Q.lookAll] at e; cases e; exact .nil
  | _, _, _, .cons h t, e => by
    simp only [Q.lookAll] at e
    obtain ⟨d, e1, e⟩ := bnd e
    obtain ⟨ds, e2, e⟩ := bnd e
    cases e
    exact .cons (r.look h e1) (RE.lookAll r t e2)
def RCC (K : PySem.W.Frag) (r : List V → Hp → VK → Prop) (h : List D → Option Cell) : Prop := ∀ (F H : Hp) (vs : List V) (ds : List D) (c : Cell) (Q : VK), Ex F H → Rdbs K F H vs ds → h ds = some c → (∀ v H', Res K F H v H' c → Q v H') → r vs H Q
def CallD (X : Cx) (f : Value) (h : List D → Option Cell) : Prop := ∃ r, CallR X f r ∧ RCC X.K r h
theorem callr_or {X : Cx} {f : Value} {r r' : List V → Hp → VK → Prop} (h : CallR X f r) (h' : CallR X f r') : CallR X f (fun xs H Q => r xs H Q ∨ r' xs H Q) := by
  intro pins s σ H xs us Q I rs q
  rcases q with q | q
  · exact h pins s σ H xs us Q I rs q
  · exact h' pins s σ H xs us Q I rs q
def hOrC (h1 h2 : List D → Option Cell) : List D → Option Cell := fun a => match h1 a with
  | some c => some c
  | none => h2 a
theorem CallD.or {X : Cx} {f : Value} {h1 h2 : List D → Option Cell} (a : CallD X f h1) (b : CallD X f h2) : CallD X f (hOrC h1 h2) := by
  obtain ⟨r1, p1, s1⟩ := a
  obtain ⟨r2, p2, s2⟩ := b
  refine ⟨_, callr_or p1 p2, fun F H vs ds c Q e rs hc q => ?_⟩
  unfold hOrC at hc
  split at hc
  · rename_i c' h'
    cases hc
    exact .inl (s1 F H vs ds _ Q e rs h' q)
  · exact .inr (s2 F H vs ds _ Q e rs hc q)
def dCall (h : List D → Option Cell) (fa : Env → Option (List Hd × Env)) : Env → Option (Cell × Env) := fun ρ =>
  (fa ρ).bind fun p => (lookAll p.2 p.1).bind fun ds => (h ds).bind fun c => some (c, p.2)
theorem snd_call {K : PySem.W.Frag} {r : List V → Hp → VK → Prop} {h : List D → Option Cell} {t : TA} {fa : Env → Option (List Hd × Env)} (s : RCC K r h) (sa : SndA K t fa) : SndE K (tCB r t) (dCall h fa) := fun G A O F H σ ρ c ρ' Q re e q => by
  obtain ⟨⟨hs, ρ1⟩, e1, e⟩ := bnd e
  obtain ⟨ds, e2, e⟩ := bnd e
  obtain ⟨c1, e3, e⟩ := bnd e
  cases e
  refine sa G A O F H σ ρ _ _ _ re e1 fun F1 H1 vs r1 f1 hv => ?_
  refine s F1 H1 vs ds c _ r1.fh (r1.lookAll hv e2) e3 fun v H' res => ?_
  obtain ⟨F2, f2, r2⟩ := res.re r1
  exact q F2 H' v r2 (f1.trans f2)
section
variable {X : Cx} {x : Str} {e : Expr} {es : List Expr} {p pos : Pos} {fa : Env → Option (List Hd × Env)} {h : List D → Option Cell}
theorem ce_callB {id : String} (o : CallD X (.builtin id) h) (hg : Gl X x) (hm : X.mg x = none) (hv : bootBuiltins x = some (.builtin id)) (ha : OA X (e :: es) fa)
    (hn : x ≠ "__name__" := by decide) (hdb : (x == ("__debug__" : Str)) = false := by decide) (hst : starEach (e :: es) X.env = (false, eval e X.env) :: starEach es X.env := by rfl) (hpl : (backTo pos (starEach es X.env)).any (·.1) = false := by rfl) : CE X (.Call (.Name x p) (e :: es) [] pos) (dCall h fa) := by
  obtain ⟨r, pr, s⟩ := o
  obtain ⟨t, pa, sa⟩ := ha
  exact ⟨_, pe_callB pr hg hm hv pa hn hdb hst hpl, snd_call s sa⟩
theorem ce_callTy {T : String} (o : CallD X (.type T) h) (hg : Gl X x) (hm : X.mg x = none) (hv : bootBuiltins x = some (.type T)) (ha : OA X (e :: es) fa)
    (hn : x ≠ "__name__" := by decide) (hdb : (x == ("__debug__" : Str)) = false := by decide) (hst : starEach (e :: es) X.env = (false, eval e X.env) :: starEach es X.env := by rfl) (hpl : (backTo pos (starEach es X.env)).any (·.1) = false := by rfl) : CE X (.Call (.Name x p) (e :: es) [] pos) (dCall h fa) := by
  obtain ⟨r, pr, s⟩ := o
  obtain ⟨t, pa, sa⟩ := ha
  exact ⟨_, pe_callTy pr hg hm hv pa hn hdb hst hpl, snd_call s sa⟩
end
theorem Rdbs.one {K : PySem.W.Frag} {F H : Hp} {vs : List V} {d : D} (h : Rdbs K F H vs [d]) : ∃ v, vs = [v] ∧ Rdb K F H v d := by
  cases h with
  | cons h t => cases t; exact ⟨_, rfl, h⟩
theorem Rdbs.two {K : PySem.W.Frag} {F H : Hp} {vs : List V} {d d' : D} (h : Rdbs K F H vs [d, d']) : ∃ v w, vs = [v, w] ∧ Rdb K F H v d ∧ Rdb K F H w d' := by
  cases h with
  | cons h t => cases t with
    | cons h' t => cases t; exact ⟨_, _, rfl, h, h'⟩
end Q
end
section
set_option maxHeartbeats 1000000
namespace Q
open PySem PySem.Spec PyProof.Rows L2
section
variable {X : Cx}
/-! ### len, abs, int, list, tuple .. -/
def hLen : List D → Option Cell
  | [.klst l] => some (.val (.int l.length))
  | [.lst l] => some (.val (.int l.length))
  | [.tup l] => some (.val (.int l.length))
  | [.dct false l] => some (.val (.int l.length))
  | [.dct true l] => some (.val (.int l.length))
  | [.str x] => if x.length ≤ sizeLine then some (.val (.int x.length)) else none
  | _ => none
theorem RpK.len {K : PySem.W.Frag} {F : Hp} : ∀ {kvs : List (Key × V)} {l : List (D × D)}, RpK K F kvs l → kvs.length = l.length
  | _, _, .nil => rfl
  | _, _, .cons _ t => by simp [RpK.len t]
theorem RpT.len {K : PySem.W.Frag} {F : Hp} : ∀ {kvs : List (List Key × V)} {l : List (D × D)}, RpT K F kvs l → kvs.length = l.length
  | _, _, .nil => rfl
  | _, _, .cons _ t => by simp [RpT.len t]
theorem c_lenS : CallR X (.builtin "len") (fun xs H Q => ∃ a kvs, xs = [V.ref a] ∧ Rd H a (.dK kvs) ∧ Q (.int (kvs.length : Nat)) H) := by
  intro pins s σ H xs us Q I r h
  obtain ⟨a, kvs, rfl, ha, q⟩ := h
  obtain ⟨u, rfl, ru⟩ := vals1 r
  cases ru
  exact d_len I ha fun t s' I' => ⟨.int (kvs.length : Nat), H, I', ⟨t, rfl⟩, q⟩
theorem c_lenT : CallR X (.builtin "len") (fun xs H Q => ∃ a kvs, xs = [V.ref a] ∧ Rd H a (.dT kvs) ∧ Q (.int (kvs.length : Nat)) H) := by
  intro pins s σ H xs us Q I r h
  obtain ⟨p, kvs, rfl, hp, q⟩ := h
  obtain ⟨u, rfl, rx⟩ := vals1 r
  obtain rfl : u = .ref p := rx
  obtain ⟨z, hd, ys, rel, dd⟩ := dt_rd I.hok hp
  have hl : kvs.length = ys.length := Paired.length rel
  refine call_len_dictH hd dd (by rw [← hl]; rw [sizeLine_eq] at z; omega) ?_
  rw [← hl]
  exact ⟨.int ((kvs.length : Nat) : Int), H, I.tok _, ⟨_, rfl⟩, q⟩
theorem c_len : CallD X (.builtin "len") hLen := ⟨_, callr_or call_len_seq (callr_or call_len_str (callr_or c_lenS c_lenT)), fun F H vs ds c Q e rs hc q => by
  unfold hLen at hc
  split at hc
  · cases hc
    obtain ⟨v, rfl, rd⟩ := rs.one
    rcases rd with h | ⟨_, _, _, _, h⟩
    · cases h with
      | klst h r n => exact .inl ⟨_, _, rfl, .inl (h.sq H), q _ _ (.val (r.len ▸ .int _))⟩
    · cases h
  · cases hc
    obtain ⟨v, rfl, rd⟩ := rs.one
    obtain ⟨a, xs, rfl, hs, rp, n⟩ := rd.lst e
    exact .inl ⟨a, xs, rfl, .inl hs, q _ _ (.val (rp.len ▸ .int _))⟩
  · cases hc
    obtain ⟨v, rfl, rd⟩ := rs.one
    obtain ⟨a, xs, rfl, hs, rp, n⟩ := rd.tup e
    exact .inl ⟨a, xs, rfl, .inr hs, q _ _ (.val (rp.len ▸ .int _))⟩
  · cases hc
    obtain ⟨v, rfl, rd⟩ := rs.one
    obtain ⟨a, kvs, rfl, hs, rp⟩ := rd.dk e
    exact .inr (.inr (.inl ⟨a, kvs, rfl, hs, q _ _ (.val (rp.len ▸ .int _))⟩))
  · cases hc
    obtain ⟨v, rfl, rd⟩ := rs.one
    obtain ⟨a, kvs, rfl, hs, rp⟩ := rd.dt e
    exact .inr (.inr (.inr ⟨a, kvs, rfl, hs, q _ _ (.val (rp.len ▸ .int _))⟩))
  · split at hc
    · rename_i hn
      cases hc
      obtain ⟨v, rfl, rd⟩ := rs.one
      exact .inr (.inl ⟨_, by rw [rd.str], hn, q _ _ (.val (.int _))⟩)
    · cases hc
  · cases hc⟩
def hAbs : List D → Option Cell
  | [.int i] => some (.val (.int (if i < 0 then -i else i)))
  | _ => none
theorem c_abs : CallD X (.builtin "abs") hAbs := ⟨_, call_abs, fun F H vs ds c Q e rs hc q => by
  unfold hAbs at hc
  split at hc
  · cases hc
    obtain ⟨v, rfl, rd⟩ := rs.one
    exact ⟨_, by rw [rd.int], q _ _ (.val (.int _))⟩
  · cases hc⟩
def hInt : List D → Option Cell
  | [.int i] => some (.val (.int i))
  | [.bl k] => some (.val (.int (if k then 1 else 0)))
  | _ => none
theorem c_int : CallD X (.type "int") hInt := ⟨_, call_int1, fun F H vs ds c Q e rs hc q => by
  unfold hInt at hc
  split at hc
  · cases hc
    obtain ⟨v, rfl, rd⟩ := rs.one
    exact .inl ⟨_, by rw [rd.int], q _ _ (.val (.int _))⟩
  · cases hc
    obtain ⟨v, rfl, rd⟩ := rs.one
    exact .inr ⟨_, by rw [rd.bl], q _ _ (.val (.int _))⟩
  · cases hc⟩
def hList : List D → Option Cell
  | [.lst l] => some (.own (.lst l))
  | [.tup l] => some (.own (.lst l))
  | [.dct false l] => if l.length ≤ sizeLine then some (.own (.lst (l.map (·.1)))) else none
  | _ => none
theorem RpK.keys {K : PySem.W.Frag} {F : Hp} : ∀ {kvs : List (Key × V)} {l : List (D × D)}, RpK K F kvs l → Rps K F (kvs.map fun kv => kV kv.1) (l.map (·.1))
  | _, _, .nil => .nil
  | _, _, .cons (k := k) h t => by
    refine .cons ?_ (RpK.keys t)
    cases k with
    | inl i => exact .int i
    | inr x => exact .str x
theorem c_list (hc : X.calm = true) : CallD X (.type "list") hList := ⟨_, callr_or call_list_of (call_listD hc), fun F H vs ds c Q e rs hc q => by
  unfold hList at hc
  split at hc
  · cases hc
    obtain ⟨v, rfl, rd⟩ := rs.one
    obtain ⟨a, xs, rfl, hs, rp, n⟩ := rd.lst e
    exact .inl ⟨a, xs, rfl, .inl hs, fun p hp => q _ _ (.own hp (.lst rp n))⟩
  · cases hc
    obtain ⟨v, rfl, rd⟩ := rs.one
    obtain ⟨a, xs, rfl, hs, rp, n⟩ := rd.tup e
    exact .inl ⟨a, xs, rfl, .inr hs, fun p hp => q _ _ (.own hp (.lst rp n))⟩
  · split at hc
    · rename_i hn
      cases hc
      obtain ⟨v, rfl, rd⟩ := rs.one
      obtain ⟨a, kvs, rfl, hs, rp⟩ := rd.dk e
      exact .inr ⟨a, kvs, rfl, hs, fun p hp => q _ _ (.own hp (.lst rp.keys (by rw [List.length_map]; exact hn)))⟩
    · cases hc
  · cases hc⟩
def hTuple : List D → Option Cell
  | [.lst l] => some (.val (.tup l))
  | [.tup l] => some (.val (.tup l))
  | _ => none
theorem c_tuple : CallD X (.type "tuple") hTuple := ⟨_, call_tuple_of, fun F H vs ds c Q e rs hc q => by
  unfold hTuple at hc
  split at hc
  · cases hc
    obtain ⟨v, rfl, rd⟩ := rs.one
    obtain ⟨a, xs, rfl, hs, rp, n⟩ := rd.lst e
    exact ⟨a, xs, rfl, .inl ⟨hs, fun p hp => q _ _ (.tup hp rp n)⟩⟩
  · cases hc
    obtain ⟨v, rfl, rd⟩ := rs.one
    obtain ⟨a, xs, rfl, hs, rp, n⟩ := rd.tup e
    refine ⟨a, xs, rfl, .inr ⟨hs, q _ _ (.val ?_)⟩⟩
    rcases rd with h | ⟨_, _, _, _, h⟩
    · exact h
    · cases h
  · cases hc⟩
def blsD : List D → Option (List Bool)
  | [] => some []
  | .bl b :: l => (blsD l).map fun bs => b :: bs
  | _ :: _ => none
def intsD : List D → Option (List Int)
  | [] => some []
  | .int b :: l => (intsD l).map fun bs => b :: bs
  | _ :: _ => none
theorem blsD_rps {K : PySem.W.Frag} {F : Hp} : ∀ {vs : List V} {ds : List D} {bs : List Bool}, Rps K F vs ds → blsD ds = some bs → vs = bs.map V.bl
  | _, _, _, .nil, e => by simp only [blsD] at e; cases e; rfl
  | _, d :: _, _, .cons h t, e => by
    cases d with
    | bl b =>
      simp only [blsD] at e
      obtain ⟨bs, e1, e2⟩ := map_some e
      subst e2
      cases h
      rw [blsD_rps t e1]
      rfl
    | _ => simp only [blsD] at e; cases e
theorem intsD_rps {K : PySem.W.Frag} {F : Hp} : ∀ {vs : List V} {ds : List D} {bs : List Int}, Rps K F vs ds → intsD ds = some bs → vs = bs.map V.int
  | _, _, _, .nil, e => by simp only [intsD] at e; cases e; rfl
  | _, d :: _, _, .cons h t, e => by
    cases d with
    | int b =>
      simp only [intsD] at e
      obtain ⟨bs, e1, e2⟩ := map_some e
      subst e2
      cases h
      rw [intsD_rps t e1]
      rfl
    | _ => simp only [intsD] at e; cases e
def hAll : List D → Option Cell
  | [.lst l] => (blsD l).bind fun bs => some (.val (.bl (bs.all id)))
  | _ => none
def hAny : List D → Option Cell
  | [.lst l] => (blsD l).bind fun bs => some (.val (.bl (bs.any id)))
  | _ => none
def hSum : List D → Option Cell
  | [.lst l] => (intsD l).bind fun bs => some (.val (.int bs.sum))
  | _ => none
theorem c_all (hc : X.calm = true) : CallD X (.builtin "all") hAll := ⟨_, cr_all hc, fun F H vs ds c Q e rs hc q => by
  unfold hAll at hc
  split at hc
  · obtain ⟨bs, e1, hc⟩ := bnd hc
    cases hc
    obtain ⟨v, rfl, rd⟩ := rs.one
    obtain ⟨a, xs, rfl, hs, rp, n⟩ := rd.lst e
    exact ⟨a, bs, rfl, blsD_rps rp e1 ▸ hs, q _ _ (.val (.bl _))⟩
  · cases hc⟩
theorem c_any (hc : X.calm = true) : CallD X (.builtin "any") hAny := ⟨_, cr_any hc, fun F H vs ds c Q e rs hc q => by
  unfold hAny at hc
  split at hc
  · obtain ⟨bs, e1, hc⟩ := bnd hc
    cases hc
    obtain ⟨v, rfl, rd⟩ := rs.one
    obtain ⟨a, xs, rfl, hs, rp, n⟩ := rd.lst e
    exact ⟨a, bs, rfl, blsD_rps rp e1 ▸ hs, q _ _ (.val (.bl _))⟩
  · cases hc⟩
theorem c_sum (hc : X.calm = true) : CallD X (.builtin "sum") hSum := ⟨_, cr_sum hc, fun F H vs ds c Q e rs hc q => by
  unfold hSum at hc
  split at hc
  · obtain ⟨bs, e1, hc⟩ := bnd hc
    cases hc
    obtain ⟨v, rfl, rd⟩ := rs.one
    obtain ⟨a, xs, rfl, hs, rp, n⟩ := rd.lst e
    exact ⟨a, bs, rfl, intsD_rps rp e1 ▸ hs, q _ _ (.val (.int _))⟩
  · cases hc⟩
def hMax2 : List D → Option Cell
  | [.int i, .int j] => some (.val (.int (if j > i then j else i)))
  | _ => none
def hMin2 : List D → Option Cell
  | [.int i, .int j] => some (.val (.int (if j < i then j else i)))
  | _ => none
theorem c_max2 (hc : X.calm = true) : CallD X (.builtin "max") hMax2 := ⟨_, call_max2 hc, fun F H vs ds c Q e rs hc q => by
  unfold hMax2 at hc
  split at hc
  · cases hc
    obtain ⟨v, w, rfl, rd, rd2⟩ := rs.two
    exact ⟨_, _, by rw [rd.int, rd2.int], q _ _ (.val (.int _))⟩
  · cases hc⟩
theorem c_min2 (hc : X.calm = true) : CallD X (.builtin "min") hMin2 := ⟨_, call_min2 hc, fun F H vs ds c Q e rs hc q => by
  unfold hMin2 at hc
  split at hc
  · cases hc
    obtain ⟨v, w, rfl, rd, rd2⟩ := rs.two
    exact ⟨_, _, by rw [rd.int, rd2.int], q _ _ (.val (.int _))⟩
  · cases hc⟩
/-! ### displays -/
def inls : List Hd → Option (List D)
  | [] => some []
  | .inl d :: l => (inls l).map fun ds => d :: ds
  | .inr _ :: _ => none
theorem inls_rps {K : PySem.W.Frag} {F : Hp} {σ : L2.St} : ∀ {vs : List V} {hs : List Hd} {ds : List D}, HdRs K F σ vs hs → inls hs = some ds → Rps K F vs ds
  | _, _, _, .nil, e => by simp only [inls] at e; cases e; exact .nil
  | _, h :: _, _, .cons r t, e => by
    cases h with
    | inl d =>
      simp only [inls] at e
      obtain ⟨bs, e1, e2⟩ := map_some e
      subst e2
      exact .cons r (inls_rps t e1)
    | inr i => simp only [inls] at e; cases e
def dTup (fa : Env → Option (List Hd × Env)) : Env → Option (Cell × Env) := fun ρ => (fa ρ).bind fun p => (inls p.1).bind fun ds => if ds.length ≤ sizeLine then some (.val (.tup ds), p.2) else none
def dLst (fa : Env → Option (List Hd × Env)) : Env → Option (Cell × Env) := fun ρ => (fa ρ).bind fun p => (inls p.1).bind fun ds => if ds.length ≤ sizeLine then some (.own (.lst ds), p.2) else none
theorem ce_tup {es : List Expr} {x1} {pos : Pos} {fa : Env → Option (List Hd × Env)} (ha : OA X es fa) : CE X (.Tuple es x1 pos) (dTup fa) := by
  obtain ⟨t, p, s⟩ := ha
  refine ⟨_, pe_tup p, fun G A O F H σ ρ c ρ' Q r e q => ?_⟩
  obtain ⟨⟨hs, ρ1⟩, e1, e⟩ := bnd e
  obtain ⟨ds, e2, e⟩ := bnd e
  split at e
  · rename_i hn
    cases e
    refine s G A O F H σ ρ _ _ _ r e1 fun F1 H1 vs r1 f1 hv => ?_
    have rp := inls_rps hv e2
    refine ⟨by rw [rp.len]; exact hn, fun p hp => ?_⟩
    obtain ⟨F2, f2, r2⟩ := Res.re r1 (.tup hp rp hn)
    exact q F2 _ _ r2 (f1.trans f2)
  · cases e
theorem ce_lst {es : List Expr} {pos : Pos} {fa : Env → Option (List Hd × Env)} (ha : OA X es fa) : CE X (.List es pos) (dLst fa) := by
  obtain ⟨t, p, s⟩ := ha
  refine ⟨_, pe_lst p, fun G A O F H σ ρ c ρ' Q r e q => ?_⟩
  obtain ⟨⟨hs, ρ1⟩, e1, e⟩ := bnd e
  obtain ⟨ds, e2, e⟩ := bnd e
  split at e
  · rename_i hn
    cases e
    refine s G A O F H σ ρ _ _ _ r e1 fun F1 H1 vs r1 f1 hv => ?_
    have rp := inls_rps hv e2
    refine ⟨by rw [rp.len]; exact hn, fun p hp => ?_⟩
    obtain ⟨F2, f2, r2⟩ := Res.re r1 (.own hp (.lst rp hn))
    exact q F2 _ _ r2 (f1.trans f2)
  · cases e
/-- (*e, ..) -/
def aStar (f : Env → Option (Hd × Env)) (g : Env → Option (List Hd × Env)) : Env → Option (List Hd × Env) := fun ρ => (f ρ).bind fun p => (look p.2 p.1).bind fun d => (seqD d).bind fun l => (g p.2).bind fun q => some (l.map Sum.inl ++ q.1, q.2)
theorem HdRs.app {K : PySem.W.Frag} {F : Hp} {σ : L2.St} : ∀ {vs ws : List V} {ds : List D} {hs : List Hd}, Rps K F vs ds → HdRs K F σ ws hs → HdRs K F σ (vs ++ ws) (ds.map Sum.inl ++ hs)
  | _, _, _, _, .nil, h => h
  | _, _, _, _, .cons r t, h => .cons r (HdRs.app t h)
theorem oa_star {e : Expr} {p : Pos} {es : List Expr} {f : Env → Option (Hd × Env)} {g : Env → Option (List Hd × Env)} (h1 : OE X e f) (h2 : OA X es g) (hst : starEach (.Starred e p :: es) X.env = (true, eval e X.env) :: starEach es X.env := by rfl) : OA X (.Starred e p :: es) (aStar f g) := by
  obtain ⟨t, pe, s⟩ := h1
  obtain ⟨u, pa, s2⟩ := h2
  refine ⟨_, StX.pa_star pe pa hst, fun G A O F H σ ρ hs ρ' Q r e q => ?_⟩
  obtain ⟨⟨h, ρ1⟩, e1, e⟩ := bnd e
  obtain ⟨d, e2, e⟩ := bnd e
  obtain ⟨l, e3, e⟩ := bnd e
  obtain ⟨⟨hs', ρ2⟩, e4, e⟩ := bnd e
  cases e
  refine s G A O F H σ ρ _ _ _ r e1 fun F1 H1 v r1 f1 hv => ?_
  obtain ⟨a, xs, rfl, hs, rp, n⟩ := seqD_sq r1.fh (r1.look hv e2) e3
  refine ⟨a, xs, rfl, hs.symm, ?_⟩
  refine s2 G A O F1 H1 σ ρ1 _ _ _ r1 e4 fun F2 H2 vs r2 f2 hvs => ?_
  exact q F2 H2 _ r2 (f1.trans f2) ((rp.mono f2) |> fun z => HdRs.app z hvs)
def dDict (t : Bool) : Env → Option (Cell × Env) := fun ρ => some (.own (.dct t []), ρ)
theorem ce_dictK {pos : Pos} : CE X (.Dict [] [] pos) (dDict false) := ⟨_, pe_dnewK, fun G A O F H σ ρ c ρ' Q r e q => by
  cases e
  intro p hp
  exact q F _ _ (r.new hp (.dk .nil)) (Le.refl F)⟩
theorem ce_dictT {pos : Pos} : CE X (.Dict [] [] pos) (dDict true) := ⟨_, pe_dnewT, fun G A O F H σ ρ c ρ' Q r e q => by
  cases e
  intro p hp
  exact q F _ _ (r.new hp (.dt .nil)) (Le.refl F)⟩
theorem ce_rev {e : Expr} {k : Nat} {p1 p2 p3 pos : Pos} {f : Env → Option (Hd × Env)} (h : OE X e f) : CE X (.Subscript e (.Slice none none (some (.UnaryOp .USub (.Constant (.int 1) k p1) p2)) p3) pos) (dRev f) := by
  obtain ⟨t, p, s⟩ := h
  refine ⟨_, pe_revL p, fun G A O F H σ ρ c ρ' Q r e q => ?_⟩
  obtain ⟨⟨h, ρ1⟩, e1, e⟩ := bnd e
  obtain ⟨d, e2, e⟩ := bnd e
  split at e
  · cases e
    refine s G A O F H σ ρ _ _ _ r e1 fun F1 H1 v r1 f1 hv => ?_
    obtain ⟨a, xs, rfl, hs, rp, n⟩ := (r1.look hv e2).lst r1.fh
    refine ⟨a, xs, rfl, hs, fun p hp => ?_⟩
    obtain ⟨F2, f2, r2⟩ := Res.re r1 (.own hp (.lst rp.rev (by simpa using n)))
    exact q F2 _ _ r2 (f1.trans f2)
  · cases e
/-! ### isinstance -/
def tyOf : D → Option String
  | .non => some "NoneType"
  | .bl _ => some "bool"
  | .int _ => some "int"
  | .str _ => some "str"
  | .tup _ => some "tuple"
  | .lst _ => some "list"
  | .klst _ => none
  | .dct false _ => some "dict"
  | .dct true _ => none
  | .obj _ _ => none
theorem tyX {K : PySem.W.Frag} {F H : Hp} {v : V} {d : D} {n : String} (e : Ex F H) (h : Rdb K F H v d) (t : tyOf d = some n) : TyX K H v (.type n) := by
  cases d with
  | non => cases t; rw [h.non]; exact .base .non
  | bl b => cases t; rw [h.bl]; exact .base (.bl b)
  | int i => cases t; rw [h.int]; exact .base (.int i)
  | str x => cases t; rw [h.str]; exact .base (.str x)
  | tup l =>
    cases t
    obtain ⟨a, xs, rfl, hs, rp, z⟩ := h.tupR e
    exact .base (.tup hs)
  | lst l =>
    cases t
    obtain ⟨a, xs, rfl, hs, rp, z⟩ := h.lstR e
    rcases hs with hs | ⟨o, hs⟩
    · exact .base (.lst hs)
    · exact .base (.frz hs)
  | dct b l =>
    cases b with
    | false =>
      cases t
      obtain ⟨a, kvs, rfl, hs, rp⟩ := h.dk e
      rcases hs with hs | ⟨o, hs⟩
      · exact .base (.dK hs)
      · exact .fDict hs
    | true => cases t
  | klst l => cases t
  | obj C l => cases t
def isiD (T : String) (d : D) : Option Bool := (tyOf d).bind fun n => kitB n T
def dIsi (T : String) (f : Env → Option (Hd × Env)) : Env → Option (Cell × Env) := fun ρ => (f ρ).bind fun p => (look p.2 p.1).bind fun d => (isiD T d).bind fun k => some (.val (.bl k), p.2)
theorem ce_isi {e : Expr} {nm : Str} {T : String} {p p2 pos : Pos} {f : Env → Option (Hd × Env)} (h : OE X e f) (hg : Gl X "isinstance") (hm : X.mg "isinstance" = none) (hgT : Gl X nm) (hmT : X.mg nm = none) (hvT : bootBuiltins nm = some (.type T))
    (hst : starEach [e, .Name nm p2] X.env = (false, eval e X.env) :: starEach [.Name nm p2] X.env := by rfl) (hn : nm ≠ "__name__" := by decide) (hd : (nm == ("__debug__" : Str)) = false := by decide) :
    CE X (.Call (.Name "isinstance" p) [e, .Name nm p2] [] pos) (dIsi T f) := by
  obtain ⟨t, pe, s⟩ := h
  refine ⟨_, pe_callB call_isi hg hm (by decide +kernel) (pa_cons pe (pa_cons (pe_bltn (v := .ty T) hgT hmT hvT rfl hn hd) pa_nil) hst) (he := hst), fun G A O F H σ ρ c ρ' Q r e q => ?_⟩
  obtain ⟨⟨h, ρ1⟩, e1, e⟩ := bnd e
  obtain ⟨d, e2, e⟩ := bnd e
  obtain ⟨k, e3, e⟩ := bnd e
  cases e
  refine s G A O F H σ ρ _ _ _ r e1 fun F1 H1 v r1 f1 hv => ?_
  obtain ⟨n, e4, e5⟩ := bnd e3
  exact ⟨v, .ty T, .type n, .type T, k, rfl, .ty T, tyX r1.fh (r1.look hv e2) e4, kit_ty e5, q F1 H1 _ (r1.pushV (.bl k)) f1⟩
def isiD2 (T U : String) (d : D) : Option Bool := (tyOf d).bind fun n => (kitB n T).bind fun k => if k = true then some true else kitB n U
def dIsi2 (T U : String) (f : Env → Option (Hd × Env)) : Env → Option (Cell × Env) := fun ρ => (f ρ).bind fun p => (look p.2 p.1).bind fun d => (isiD2 T U d).bind fun k => some (.val (.bl k), p.2)
theorem ce_isi2 {e : Expr} {nm mm : Str} {T U : String} {x1} {p p2 p3 p4 pos : Pos} {f : Env → Option (Hd × Env)} (h : OE X e f) (hg : Gl X "isinstance") (hm : X.mg "isinstance" = none) (hgT : Gl X nm) (hmT : X.mg nm = none) (hvT : bootBuiltins nm = some (.type T))
    (hgU : Gl X mm) (hmU : X.mg mm = none) (hvU : bootBuiltins mm = some (.type U))
    (hst : starEach [e, .Tuple [.Name nm p2, .Name mm p3] x1 p4] X.env = (false, eval e X.env) :: starEach [.Tuple [.Name nm p2, .Name mm p3] x1 p4] X.env := by rfl) (hn : nm ≠ "__name__" := by decide) (hd : (nm == ("__debug__" : Str)) = false := by decide) (hn2 : mm ≠ "__name__" := by decide) (hd2 : (mm == ("__debug__" : Str)) = false := by decide) :
    CE X (.Call (.Name "isinstance" p) [e, .Tuple [.Name nm p2, .Name mm p3] x1 p4] [] pos) (dIsi2 T U f) := by
  obtain ⟨t, pe, s⟩ := h
  refine ⟨_, pe_callB call_isiT hg hm (by decide +kernel) (pa_cons pe (pa_cons (pe_tup (pa_cons (pe_bltn (v := .ty T) hgT hmT hvT rfl hn hd) (pa_cons (pe_bltn (v := .ty U) hgU hmU hvU rfl hn2 hd2) pa_nil))) pa_nil) hst) (he := hst), fun G A O F H σ ρ c ρ' Q r e q => ?_⟩
  obtain ⟨⟨h, ρ1⟩, e1, e⟩ := bnd e
  obtain ⟨d, e2, e⟩ := bnd e
  obtain ⟨k, e3, e⟩ := bnd e
  cases e
  refine s G A O F H σ ρ _ _ _ r e1 fun F1 H1 v r1 f1 hv => ?_
  obtain ⟨n, e4, e5⟩ := bnd e3
  obtain ⟨k1, e6, e7⟩ := bnd e5
  refine ⟨by show 2 ≤ sizeLine; decide, fun tp htp => ?_⟩
  have ex : Ex F1 (upd H1 tp (.tup [.ty T, .ty U])) := r1.fh.trans (Ex.new htp)
  obtain ⟨r2, f2⟩ := r1.newF (o := .tup [.ty T, .ty U]) htp
  refine ⟨v, tp, [.ty T, .ty U], .type n, [.type T, .type U], k, rfl, upd_same, .cons (.ty T) (.cons (.ty U) .nil), tyX r2.fh (r2.look (hv.mono f2) e2) e4, ?_, q _ _ _ (r2.pushV (.bl k)) (f1.trans f2)⟩
  refine kitAny_cons (kit_ty e6) (fun h0 => ?_) (fun h1 => ?_)
  · subst h0
    rw [if_neg (by decide)] at e7
    exact kitAny_cons (kit_ty e7) (fun h0 => by rw [h0]; exact kitAny_nil) (fun h => h)
  · subst h1
    rw [if_pos rfl] at e7
    exact (Option.some.inj e7).symm
def dIsiC (C : Addr) (f : Env → Option (Hd × Env)) : Env → Option (Cell × Env) := fun ρ => (f ρ).bind fun p => (look p.2 p.1).bind fun d => match d with
  | .obj C' _ => if C' = C then some (.val (.bl true), p.2) else none
  | _ => none
theorem ce_isiC {e : Expr} {nm : Str} {C : Addr} {p p2 pos : Pos} {f : Env → Option (Hd × Env)} (c : C8.InsC X.K C) (h : OE X e f) (hg : Gl X "isinstance") (hm : X.mg "isinstance" = none) (hgT : Gl X nm) (hmT : X.mg nm = some (.ref C))
    (hst : starEach [e, .Name nm p2] X.env = (false, eval e X.env) :: starEach [.Name nm p2] X.env := by rfl) (hd : (nm == ("__debug__" : Str)) = false := by decide) :
    CE X (.Call (.Name "isinstance" p) [e, .Name nm p2] [] pos) (dIsiC C f) := by
  obtain ⟨t, pe, s⟩ := h
  refine ⟨_, pe_callB (C8.call_isC c) hg hm (by decide +kernel) (pa_cons pe (pa_cons (pe_glob (v := .ref C) hgT hmT rfl hd) pa_nil) hst) (he := hst), fun G A O F H σ ρ c ρ' Q r e q => ?_⟩
  obtain ⟨⟨h, ρ1⟩, e1, e⟩ := bnd e
  obtain ⟨d, e2, e⟩ := bnd e
  split at e
  · split at e
    · rename_i hC
      cases e
      subst hC
      refine s G A O F H σ ρ _ _ _ r e1 fun F1 H1 v r1 f1 hv => ?_
      obtain ⟨a, dx, fs, rfl, ha, rf⟩ := (r1.look hv e2).obj r1.fh
      exact ⟨a, dx, fs, rfl, ha, q F1 H1 _ (r1.pushV (.bl true)) f1⟩
    · cases e
  · cases e
/-! ### an object's field -/
def dFld (C : Addr) (f : Str) (g : Env → Option (Hd × Env)) : Env → Option (Cell × Env) := fun ρ => (g ρ).bind fun p => (look p.2 p.1).bind fun d => match d with
  | .obj C' l => if C' = C then (l.lookup f).bind fun x => some (.val x, p.2) else none
  | _ => none
theorem RpF.look {K : PySem.W.Frag} {F : Hp} {f : Str} : ∀ {fs : List (Str × V)} {l : List (Str × D)} {d : D}, RpF K F fs l → l.lookup f = some d → ∃ v, fs.lookup f = some v ∧ Rp K F v d
  | _, _, _, .nil, e => by simp at e
  | _, _, _, .cons (k := k) (v := v) h t, e => by
    rw [List.lookup_cons] at e ⊢
    by_cases hk : f = k
    · subst hk
      simp only [beq_self_eq_true] at e ⊢
      cases e
      exact ⟨v, rfl, h⟩
    · have : (f == k) = false := by simpa using hk
      rw [this] at e ⊢
      exact RpF.look t e
theorem RpF.lookN {K : PySem.W.Frag} {F : Hp} {f : Str} : ∀ {fs : List (Str × V)} {l : List (Str × D)}, RpF K F fs l → l.lookup f = none → fs.lookup f = none
  | _, _, .nil, _ => rfl
  | _, _, .cons (k := k) h t, e => by
    rw [List.lookup_cons] at e ⊢
    by_cases hk : f = k
    · subst hk
      simp only [beq_self_eq_true] at e
      cases e
    · have : (f == k) = false := by simpa using hk
      rw [this] at e ⊢
      exact RpF.lookN t e
/-- the classes whose objects one reads: all facts by the class's address -/
structure ClsF (K : PySem.W.Frag) (C : Addr) (f : Str) : Prop where
  cl : Cls K C
  no : NoAttr K C f
theorem ce_fld {e : Expr} {f : Str} {C : Addr} {pos : Pos} {g : Env → Option (Hd × Env)} (hC : Cls X.K C) (hf : NoAttr X.K C f) (h : OE X e g) (hb : attributeBase e f X.env (eval e X.env) = eval e X.env := by rfl) :
    CE X (.Attribute e f pos) (dFld C f g) := by
  obtain ⟨t, pe, s⟩ := h
  refine ⟨_, pe_fld pe hb, fun G A O F H σ ρ c ρ' Q r e q => ?_⟩
  obtain ⟨⟨h, ρ1⟩, e1, e⟩ := bnd e
  obtain ⟨d, e2, e⟩ := bnd e
  cases d with
  | obj C' l =>
    have e9 : (if C' = C then (l.lookup f).bind fun x => some (Cell.val x, ρ1) else none) = some (c, ρ') := e
    clear e
    split at e9
    · rename_i hC'
      subst hC'
      obtain ⟨x, e3, e4⟩ := bnd e9
      cases e4
      refine s G A O F H σ ρ _ _ _ r e1 fun F1 H1 v r1 f1 hv => ?_
      obtain ⟨a, dx, fs, rfl, ha, rf⟩ := (r1.look hv e2).obj r1.fh
      obtain ⟨w, hw, rw⟩ := rf.look e3
      exact ⟨a, _, dx, fs, w, rfl, ha, hC, hf, hw, q F1 H1 _ (r1.pushV rw) f1⟩
    · cases e9
  | _ => cases e
end
end Q
end
section
set_option maxHeartbeats 1000000
namespace Q
open PySem PySem.Spec PyProof.Rows L2
/-! ### a value is held while another one is reckoned -/
theorem RE.hold {B : Bx} {O F H : Hp} {σ : L2.St} {ρ : Env} {v : V} {c : Cell} (r : RE B O F H (some v :: σ) (some c :: ρ)) :
    ∃ O', RE B O' F H σ ρ ∧ ∀ F' H' σ' ρ', RE B O' F' H' σ' ρ' → Le F F' → RE B O F' H' (some v :: σ') (some c :: ρ') := by
  obtain ⟨v', ev, hc⟩ := r.at_ 0 _ rfl
  cases ev
  cases co : c.isOwn with
  | true =>
    obtain ⟨a, o, rfl, ha, ro, fa⟩ := hc.obj co
    have ow0 : Own (some (.ref a) :: σ) (some c :: ρ) 0 a := ⟨rfl, c, rfl, co⟩
    have oa : O a = none := r.no 0 a ow0
    have nown : ∀ i, ¬ Own σ ρ i a := fun i ow => by
      have : Own (some (.ref a) :: σ) (some c :: ρ) (i + 1) a := ⟨by simpa using ow.1, ow.2.choose, by simpa using ow.2.choose_spec.1, ow.2.choose_spec.2⟩
      exact absurd (r.inj _ _ a ow0 this) (by omega)
    have r1 := r.pop
    refine ⟨upd O a o, ⟨r1.fh, fun b u e => ?_, r1.gf, fun b u e => ?_, r1.len, r1.at_, r1.inj, fun i b ow => ?_⟩, fun F' H' σ' ρ' r' f => ?_⟩
    · by_cases h : b = a
      · subst h; rw [upd_same] at e; cases e; exact ha
      · rw [upd_ne h] at e; exact r1.oh b u e
    · by_cases h : b = a
      · subst h; exact fa
      · rw [upd_ne h] at e; exact r1.of_ b u e
    · have h : b ≠ a := fun z => by subst z; exact nown i ow
      rw [upd_ne h]; exact r1.no i b ow
    · have ha' : H' a = some o := r'.oh a o upd_same
      have fa' : F' a = none := r'.of_ a o upd_same
      have rO : RE B O F' H' σ' ρ' := ⟨r'.fh, fun b u e => r'.oh b u (by
          rw [upd_ne (fun z => by subst z; rw [oa] at e; cases e)]; exact e), r'.gf, fun b u e => r'.of_ b u (by
          rw [upd_ne (fun z => by subst z; rw [oa] at e; cases e)]; exact e), r'.len, r'.at_, r'.inj, fun i b ow => by
          have h := r'.no i b ow
          have hb : b ≠ a := fun z => by subst z; rw [upd_same] at h; cases h
          rw [upd_ne hb] at h; exact h⟩
      refine rO.push ?_ fun _ b eb => ?_
      · cases c with
        | own d => exact ⟨a, o, rfl, ha', ro.mono f, fa'⟩
        | par j d =>
          obtain ⟨b, u, e1, ej, _⟩ := hc
          cases e1
          exact ⟨a, o, rfl, ej, ha', ro.mono f, fa'⟩
        | val d => cases co
        | old d => cases co
        | lent d => cases co
      · cases eb
        refine ⟨oa, fun i ow => ?_⟩
        have h := r'.no i a ow
        rw [upd_same] at h; cases h
  | false =>
    refine ⟨O, r.pop, fun F' H' σ' ρ' r' f => r'.push (hc.mono f fun z => by rw [co] at z; cases z) fun z => by rw [co] at z; cases z⟩

/-! ### targets -/
section
variable {X : Cx}
/-- a target that sets no slot beside vs -/
def SndGv (K : PySem.W.Frag) (vs : List Nat) (g : TG) (f : Cell → Env → Option Env) : Prop := ∀ (G : Hp) (A : Nat → Option Addr) (O F H : Hp) (σ : L2.St) (ρ : Env) (c : Cell) (v : V) (ρ' : Env) (Q : L2.St → Hp → Prop),
  RE ⟨K, G, A⟩ O F H (some v :: σ) (some c :: ρ) → f c ρ = some ρ' → (∀ F' H' σ', RE ⟨K, G, A⟩ O F' H' σ' ρ' → Le F F' → (σ'.length = σ.length ∧ ∀ j, j ∉ vs → σ'[j]? = σ[j]?) → Q σ' H') → g v σ H Q
def SndGs (K : PySem.W.Frag) (vs : List Nat) (g : TGs) (f : List D → Env → Option Env) : Prop := ∀ (G : Hp) (A : Nat → Option Addr) (O F H : Hp) (σ : L2.St) (ρ : Env) (ds : List D) (xs : List V) (ρ' : Env) (Q : L2.St → Hp → Prop),
  RE ⟨K, G, A⟩ O F H σ ρ → Rps K F xs ds → f ds ρ = some ρ' → (∀ F' H' σ', RE ⟨K, G, A⟩ O F' H' σ' ρ' → Le F F' → (σ'.length = σ.length ∧ ∀ j, j ∉ vs → σ'[j]? = σ[j]?) → Q σ' H') → g xs σ H Q
def GE (X : Cx) (e : Expr) (vs : List Nat) (f : Cell → Env → Option Env) : Prop := ∃ t, PG X e t ∧ SndGv X.K vs t f
def GEs (X : Cx) (es : List Expr) (vs : List Nat) (f : List D → Env → Option Env) : Prop := ∃ t, PGs X es t ∧ SndGs X.K vs t f
def dName (i : Nat) : Cell → Env → Option Env := fun c ρ => match ρ[i]? with
  | some (some (.par _ _)) => none
  | some _ => some (ρ.set i (some c))
  | none => none
theorem dName_lt {i : Nat} {c : Cell} {ρ ρ' : Env} (h : dName i c ρ = some ρ') : i < ρ.length ∧ ρ' = ρ.set i (some c) := by
  unfold dName at h
  split at h
  · cases h
  · rename_i z hz hq
    cases h
    exact ⟨(List.getElem?_eq_some_iff.mp ‹ρ[i]? = some z›).1, rfl⟩
  · cases h
theorem set_out {α : Type} {l : List α} {i j : Nat} {x : α} (h : j ≠ i) : (l.set i x)[j]? = l[j]? := by
  rw [getElem?_setS, if_neg (fun e => h e.symm)]
theorem snd_name {K : PySem.W.Frag} {i : Nat} : SndGv K [i] (gName i) (dName i) := fun G A O F H σ ρ c v ρ' Q r e q => by
  obtain ⟨h1, h2⟩ := dName_lt e
  subst h2
  have hl : (some c :: ρ).length = (some v :: σ).length := r.len
  exact q F H _ (r.put i (by simp at hl; omega)) (Le.refl F) ⟨by simp, fun j hj => set_out (by simpa using hj)⟩
theorem g_name (i : Nat) {x : Str} {pos : Pos} (hN : X.N.Nodup) (hi : X.N[i]? = some x := by rfl) (hx : Loc X.env.scope x := by first | exact Or.inl rfl | exact Or.inr rfl) (hf : X.fn x = true ∨ X.env.scope.names.lookup x = some .local := by first | exact .inl rfl | exact .inr rfl) : GE X (.Name x pos) [i] (dName i) :=
  ⟨_, pg_name hN hi hx hf, snd_name⟩
def dGnil : List D → Env → Option Env := fun ds ρ => match ds with
  | [] => some ρ
  | _ => none
def dGcons (f : Cell → Env → Option Env) (g : List D → Env → Option Env) : List D → Env → Option Env := fun ds ρ => match ds with
  | d :: r => (f (.val d) ρ).bind fun ρ1 => g r ρ1
  | [] => none
theorem g_nil : GEs X [] [] dGnil := ⟨_, pgs_nil, fun G A O F H σ ρ ds xs ρ' Q r rp e q => by
  cases rp with
  | nil => cases e; exact ⟨rfl, q F H σ r (Le.refl F) ⟨rfl, fun _ _ => rfl⟩⟩
  | cons _ _ => cases e⟩
theorem g_cons {e : Expr} {es : List Expr} {vs ws : List Nat} {f : Cell → Env → Option Env} {g : List D → Env → Option Env} (h1 : GE X e vs f) (h2 : GEs X es ws g)
    (hs : (assignEach (e :: es) X.env).map (·.2) = assign e X.env :: (assignEach es X.env).map (·.2) := by rfl) : GEs X (e :: es) (vs ++ ws) (dGcons f g) := by
  obtain ⟨t, p, s⟩ := h1
  obtain ⟨u, p2, s2⟩ := h2
  refine ⟨_, pgs_cons p p2 hs, fun G A O F H σ ρ ds xs ρ' Q r rp e q => ?_⟩
  cases rp with
  | nil => cases e
  | cons h t' =>
    rename_i v d vs' ds'
    obtain ⟨ρ1, e1, e2⟩ := bnd (show (f (.val d) ρ).bind _ = some ρ' from e)
    refine ⟨v, vs', rfl, s G A O F H σ ρ _ v ρ1 _ (r.pushV h) e1 fun F1 H1 σ1 r1 f1 z1 => ?_⟩
    refine s2 G A O F1 H1 σ1 ρ1 _ _ ρ' Q r1 (t'.mono f1) e2 fun F2 H2 σ2 r2 f2 z2 => ?_
    exact q F2 H2 σ2 r2 (f1.trans f2) ⟨z2.1.trans z1.1, fun j hj => by
      rw [List.mem_append] at hj
      rw [z2.2 j fun z => hj (.inr z), z1.2 j fun z => hj (.inl z)]⟩
def dGtup (n : Nat) (g : List D → Env → Option Env) : Cell → Env → Option Env := fun c ρ => match c with
  | .val (.tup l) => if l.length = n then g l ρ else none
  | _ => none
theorem g_tup {es : List Expr} {k : Nat} {pos : Pos} {vs : List Nat} {n : Nat} {g : List D → Env → Option Env} (hc : X.calm = true) (h : GEs X es vs g) (hn : (assignEach es X.env).length = n := by rfl) (hst : (assignEach es X.env).findIdx? (·.1) = none := by rfl) :
    GE X (.Tuple es k pos) vs (dGtup n g) := by
  obtain ⟨t, p, s⟩ := h
  refine ⟨_, pg_tup hc p hn hst, fun G A O F H σ ρ c v ρ' Q r e q => ?_⟩
  unfold dGtup at e
  split at e
  · rename_i l
    split at e
    · rename_i hl
      obtain ⟨v', ev, hv⟩ := r.at_ 0 _ rfl
      cases ev
      have rd : Rdb X.K F H v (.tup l) := .inl hv
      obtain ⟨a, xs, rfl, hs, rp, z⟩ := rd.tup r.fh
      exact ⟨a, xs, rfl, hs, by rw [rp.len, hl], s G A O F H σ ρ _ _ ρ' Q r.pop rp e q⟩
    · cases e
  · cases e
/-- x[k] = v: a list or a dict that is owned -/
def putP {κ : Type} [DecidableEq κ] (kf : D → Option κ) (l : List (D × D)) (k : κ) (kd d : D) : List (D × D) :=
  if (l.any fun p => decide (kf p.1 = some k)) = true then l.map (fun p => if kf p.1 = some k then (p.1, d) else p) else l ++ [(kd, d)]
def putD (t : Bool) (l : List (D × D)) (k d : D) : Option (List (D × D)) := match t with
  | false => (key1 k).bind fun kk => if l.length < sizeLine then some (putP key1 l kk k d) else none
  | true => (keyT k).bind fun kk => if l.length < sizeLine then some (putP keyT l kk k d) else none
def setD (o k d : D) : Option D := match o with
  | .lst l => (match k with
    | .int i => (ixN l.length i).bind fun j => some (.lst (l.set j d))
    | _ => none)
  | .dct t l => (putD t l k d).bind fun m => some (.dct t m)
  | _ => none
/-- what an own slot holds is changed -/
def wrOwn (i : Nat) (f : D → Option D) (ρ : Env) : Option Env := match ρ[i]? with
  | some (some (.own o)) => (f o).bind fun o' => some (ρ.set i (some (.own o')))
  | some (some (.par j o)) => (f o).bind fun o' => some (ρ.set i (some (.par j o')))
  | _ => none
theorem wrOwn_at {i : Nat} {f : D → Option D} {ρ ρ' : Env} (h : wrOwn i f ρ = some ρ') : ∃ c c' : Cell, ρ[i]? = some (some c) ∧ c.isOwn = true ∧ f c.d = some c'.d ∧ ρ' = ρ.set i (some c') ∧ (∀ j, c = .par j c.d → c' = .par j c'.d) ∧ (c = .own c.d → c' = .own c'.d) := by
  unfold wrOwn at h
  split at h
  · rename_i o hq
    obtain ⟨o', e1, e2⟩ := bnd h
    cases e2
    exact ⟨.own o, .own o', hq, rfl, e1, rfl, (fun j z => nomatch z), fun _ => rfl⟩
  · rename_i j o hq
    obtain ⟨o', e1, e2⟩ := bnd h
    cases e2
    refine ⟨.par j o, .par j o', hq, rfl, e1, rfl, (fun j' z => ?_), fun z => nomatch z⟩
    injection z with z1 z2
    rw [z1] <;> rfl
  · cases h
theorem put_K {K : PySem.W.Frag} {F : Hp} {k : Key} {v : V} {d : D} (h : Rp K F v d) : ∀ {kvs : List (Key × V)} {l : List (D × D)}, RpK K F kvs l → RpK K F (putK kvs k v) (putP key1 l k (kD k) d) := by
  have any : ∀ {kvs : List (Key × V)} {l : List (D × D)}, RpK K F kvs l → (kvs.any fun kv => decide (kv.1 = k)) = (l.any fun p => decide (key1 p.1 = some k)) := by
    intro kvs l r
    induction kvs generalizing l with
    | nil => cases r; rfl
    | cons p kvs ih => cases r with
      | cons h t => simp only [List.any_cons, key1_kD, Option.some.injEq, ih t]
  have mp : ∀ {kvs : List (Key × V)} {l : List (D × D)}, RpK K F kvs l → RpK K F (kvs.map (fun kv => if kv.1 = k then (kv.1, v) else kv)) (l.map (fun p => if key1 p.1 = some k then (p.1, d) else p)) := by
    intro kvs l r
    induction kvs generalizing l with
    | nil => cases r; exact .nil
    | cons p kvs ih => cases r with
      | cons h' t =>
        rename_i k' v' d' ds'
        simp only [List.map_cons, key1_kD, Option.some.injEq]
        by_cases e : k' = k
        · subst e; simp only [if_true]; exact .cons h (ih t)
        · simp only [e, if_false]; exact .cons h' (ih t)
  have ap : ∀ {kvs : List (Key × V)} {l : List (D × D)}, RpK K F kvs l → RpK K F (kvs ++ [(k, v)]) (l ++ [(kD k, d)]) := by
    intro kvs l r
    induction kvs generalizing l with
    | nil => cases r; exact .cons h .nil
    | cons p kvs ih => cases r with
      | cons h' t => exact .cons h' (ih t)
  intro kvs l r
  unfold putK putP
  rw [any r]
  split
  · exact mp r
  · exact ap r
theorem put_T {K : PySem.W.Frag} {F : Hp} {k : List Key} {v : V} {d : D} (h : Rp K F v d) : ∀ {kvs : List (List Key × V)} {l : List (D × D)}, RpT K F kvs l → RpT K F (putK kvs k v) (putP keyT l k (.tup (k.map kD)) d) := by
  have any : ∀ {kvs : List (List Key × V)} {l : List (D × D)}, RpT K F kvs l → (kvs.any fun kv => decide (kv.1 = k)) = (l.any fun p => decide (keyT p.1 = some k)) := by
    intro kvs l r
    induction kvs generalizing l with
    | nil => cases r; rfl
    | cons p kvs ih => cases r with
      | cons h t => simp only [List.any_cons, keyT, keyL_map, Option.some.injEq, ih t]
  have mp : ∀ {kvs : List (List Key × V)} {l : List (D × D)}, RpT K F kvs l → RpT K F (kvs.map (fun kv => if kv.1 = k then (kv.1, v) else kv)) (l.map (fun p => if keyT p.1 = some k then (p.1, d) else p)) := by
    intro kvs l r
    induction kvs generalizing l with
    | nil => cases r; exact .nil
    | cons p kvs ih => cases r with
      | cons h' t =>
        rename_i k' v' d' ds'
        simp only [List.map_cons, keyT, keyL_map, Option.some.injEq]
        by_cases e : k' = k
        · subst e; simp only [if_true]; exact .cons h (ih t)
        · simp only [e, if_false]; exact .cons h' (ih t)
  have ap : ∀ {kvs : List (List Key × V)} {l : List (D × D)}, RpT K F kvs l → RpT K F (kvs ++ [(k, v)]) (l ++ [(.tup (k.map kD), d)]) := by
    intro kvs l r
    induction kvs generalizing l with
    | nil => cases r; exact .cons h .nil
    | cons p kvs ih => cases r with
      | cons h' t => exact .cons h' (ih t)
  intro kvs l r
  unfold putK putP
  rw [any r]
  split
  · exact mp r
  · exact ap r
def dSetI (i : Nat) (fi : Env → Option (Hd × Env)) : Cell → Env → Option Env := fun c ρ => match c with
  | .val d => (oVar i ρ).bind fun _ => (fi ρ).bind fun p => (look p.2 p.1).bind fun k => wrOwn i (fun o => setD o k d) p.2
  | .own d => (oVar i ρ).bind fun _ => (fi ρ).bind fun p => (look p.2 p.1).bind fun k => wrOwn i (fun o => setD o k d) p.2
  | _ => none
theorem pset_or {t t' : TSet} (h : PSet X t) (h' : PSet X t') : PSet X (fun o i v H Q => t o i v H Q ∨ t' o i v H Q) := by
  intro pins s σ H o i v ov iv u Q I ro ri rv q
  rcases q with q | q
  · exact h pins s σ H o i v ov iv u Q I ro ri rv q
  · exact h' pins s σ H o i v ov iv u Q I ro ri rv q
/-- the store itself -/
theorem set_main {K : PySem.W.Frag} {G : Hp} {A : Nat → Option Addr} {O F0 F1 H1 : Hp} {σ : L2.St} {ρ1 ρ' : Env} {i : Nat} {v kv o : V} {d kd : D} {h : Hd} {Q : L2.St → Hp → Prop} (r1 : RE ⟨K, G, A⟩ O F1 H1 σ ρ1) (f1 : Le F0 F1) (rv : Rp K F0 v d)
    (hk : HdR K F1 σ kv h) (e2 : look ρ1 h = some kd) (e : wrOwn i (fun o => setD o kd d) ρ1 = some ρ') (ho : σ[i]? = some (some o)) (q : ∀ F' H', RE ⟨K, G, A⟩ O F' H' σ ρ' → Le F1 F' → Q σ H') :
    (rSetL o kv v H1 fun H3 => Q σ H3) ∨ (rSetD o kv v H1 fun H3 => Q σ H3) := by
  obtain ⟨c0, c1, hc0, co, hf, rfl, hp1, hp2⟩ := wrOwn_at e
  obtain ⟨o', eo, hcr⟩ := r1.at_ i c0 hc0
  rw [ho] at eo; cases eo
  obtain ⟨a, u, rfl, ha, ro, fa⟩ := hcr.obj co
  have rk := r1.look hk e2
  have rv1 := Rp.mono f1 rv
  have fin : ∀ u', RO K F1 u' c1.d → Q σ (upd H1 a u') := fun u' ro' => q F1 _ (r1.write hc0 co ho hp1 hp2 ro') (Le.refl F1)
  have hf' : setD c0.d kd d = some c1.d := hf
  clear hf hcr hp1 hp2 hc0
  generalize c0.d = od at hf' ro
  cases ro with
  | lst rp n =>
    simp only [setD] at hf'
    split at hf'
    · rename_i z
      obtain ⟨j, hj, e3⟩ := bnd hf'
      have e3 : D.lst _ = c1.d := Option.some.inj e3
      rw [← rp.len] at hj
      refine .inl ⟨a, _, z, j, rfl, rk.int, ha, hj, fin _ ?_⟩
      rw [← e3]
      exact .lst (rp.setAt j rv1) (by simpa using n)
    · cases hf'
  | dk rp =>
    obtain ⟨m, hm, e3⟩ := bnd hf'
    have e3 : D.dct false _ = c1.d := Option.some.inj e3
    obtain ⟨kk, hk1, hm⟩ := bnd (show (key1 kd).bind _ = some m from hm)
    split at hm
    · rename_i hl
      cases hm
      have ek := key1_inv hk1
      subst ek
      have ey : kv = kV kk := by
        cases kk with
        | inl i => exact rk.int
        | inr x => exact rk.str
      refine .inr ⟨a, _, rfl, .inl ⟨_, kk, ha, ey, by rw [rp.len]; exact hl, rfl⟩, fin _ ?_⟩
      rw [← e3]
      exact .dk (put_K rv1 rp)
    · cases hm
  | dt rp =>
    obtain ⟨m, hm, e3⟩ := bnd hf'
    have e3 : D.dct true _ = c1.d := Option.some.inj e3
    obtain ⟨kk, hk1, hm⟩ := bnd (show (keyT kd).bind _ = some m from hm)
    split at hm
    · rename_i hl
      cases hm
      obtain ⟨b, rfl, hb⟩ := keyT_at r1.fh rk hk1
      refine .inr ⟨a, _, rfl, .inr ⟨_, kk, b, ha, rfl, hb, by rw [rp.len]; exact hl, rfl⟩, fin _ ?_⟩
      rw [← e3]
      have ed : kd = .tup (kk.map kD) := by
        cases kd with
        | tup l => rw [keyL_inv (show keyL l = some kk from hk1)]
        | _ => cases hk1
      rw [ed]
      exact .dt (put_T rv1 rp)
    · cases hm
  | obj rp => cases hf'
theorem g_sub (i : Nat) {x : Str} {ix : Expr} {pos p2 : Pos} {k : Nat} {fi : Env → Option (Hd × Env)} (hr : Room k X.A) (hi : OE X ix fi) (hN : X.N[i]? = some x := by rfl) (hv : Vis X.env.scope x := by first | exact Or.inl rfl | exact Or.inr (Or.inl rfl) | exact Or.inr (Or.inr rfl)) (hd : (x == ("__debug__" : Str)) = false := by decide) (hcd : (x == ("__classdict__" : Str)) = false := by decide)
    (ha : ∀ v, assign (.Subscript (.Name x p2) ix pos) X.env v = (do
      let ov ← holding [v] (eval (.Name x p2) X.env)
      let iv ← holding [v, ov] (eval ix X.env)
      standAt pos
      holding [v, ov, iv] (setItem ov iv v)
      release [v, ov, iv] []) := by intro _; rfl) : GE X (.Subscript (.Name x p2) ix pos) [] (dSetI i fi) := by
  obtain ⟨t, p, s⟩ := hi
  refine ⟨_, pg_sub (pe_var hN hv hd hcd) p (pset_or set_list (set_dict (by have := hr.un; omega))) ha, fun G A O F H σ ρ c v ρ' Q r e q => ?_⟩
  have main : ∀ d, c = .val d ∨ c = .own d → ((oVar i ρ).bind fun _ => (fi ρ).bind fun p => (look p.2 p.1).bind fun k => wrOwn i (fun o => setD o k d) p.2) = some ρ' → gSub (tVar i) t (fun o i v H Q => rSetL o i v H Q ∨ rSetD o i v H Q) v σ H Q := by
    intro d hcd e
    obtain ⟨z, e0, e⟩ := bnd e
    obtain ⟨⟨h, ρ1⟩, e1, e⟩ := bnd e
    obtain ⟨kd, e2, e⟩ := bnd e
    obtain ⟨F0, f0, r0, rv⟩ := r.fz hcd
    unfold oVar at e0
    split at e0
    · rename_i c9 h9
      obtain ⟨o, ho, _⟩ := r0.at_ i _ h9
      refine ⟨o, ho, ?_⟩
      refine s G A O F0 H σ ρ _ _ _ r0 e1 fun F1 H1 kv r1 f1 hk => ?_
      exact set_main r1 f1 rv hk e2 e ho fun F' H' r' f' => q F' H' σ r' ((f0.trans f1).trans f') ⟨rfl, fun _ _ => rfl⟩
    · cases e0
  unfold dSetI at e
  split at e
  · exact main _ (.inl rfl) e
  · exact main _ (.inr rfl) e
  · cases e
end
end Q
end
section
set_option maxHeartbeats 1000000
namespace Q
open PySem PySem.Spec PyProof.Rows L2
section
variable {X : Cx} {e : Expr} {pos : Pos}
/-! ### statements -/
def sSet (i : Nat) (f : Env → Option (Cell × Env)) : Env → Option Out := fun ρ => (f ρ).bind fun p => (dName i p.1 p.2).bind fun ρ1 => some (.nx ρ1)
theorem snd_asg {K : PySem.W.Frag} {t : TE} {g : TG} {vs : List Nat} {f : Env → Option (Cell × Env)} {h : Cell → Env → Option Env} (s : SndE K t f) (s2 : SndGv K vs g h) : SndS K (tAsg t g) (fun ρ => (f ρ).bind fun p => (h p.1 p.2).bind fun ρ1 => some (.nx ρ1)) := fun G A O F H σ ρ out D r e q => by
  obtain ⟨⟨c, ρ1⟩, e1, e⟩ := bnd e
  obtain ⟨ρ2, e2, e⟩ := bnd e
  cases e
  refine s G A O F H σ ρ _ _ _ r e1 fun F1 H1 v r1 f1 => ?_
  exact s2 G A O F1 H1 σ ρ1 c v ρ2 _ r1 e2 fun F2 H2 σ2 r2 f2 _ => q F2 H2 σ2 r2 (f1.trans f2)
theorem cs_set (i : Nat) {x : Str} {p2 : Pos} {f : Env → Option (Cell × Env)} (hN : X.N.Nodup) (h : CE X e f) (hi : X.N[i]? = some x := by rfl) (hx : Loc X.env.scope x := by first | exact Or.inl rfl | exact Or.inr rfl) (hs : swapsWith e (some (.Name x p2)) pos.line X.env = pure false := by rfl)
    (hf : X.fn x = true ∨ X.env.scope.names.lookup x = some .local := by first | exact .inl rfl | exact .inr rfl) : CS X (.Assign [.Name x p2] e pos) (sSet i f) := by
  obtain ⟨t, p, s⟩ := h
  exact ⟨_, ps_set hN hi hx p hs hf, snd_asg s snd_name⟩
/-- any target -/
def sAsg (h : Cell → Env → Option Env) (f : Env → Option (Cell × Env)) : Env → Option Out := fun ρ => (f ρ).bind fun p => (h p.1 p.2).bind fun ρ1 => some (.nx ρ1)
theorem cs_asg {tg : Expr} {vs : List Nat} {f : Env → Option (Cell × Env)} {h : Cell → Env → Option Env} (hg : GE X tg vs h) (he : CE X e f) (hs : swapsWithSole [tg] e pos.line X.env = pure false := by rfl) (hw : swappedStores [tg] e X.env = pure none := by rfl)
    (h1 : (assignEach [tg] X.env).map (·.2) = [assign tg X.env] := by rfl) : CS X (.Assign [tg] e pos) (sAsg h f) := by
  obtain ⟨t, p, s⟩ := he
  obtain ⟨g, pg, sg⟩ := hg
  exact ⟨_, ps_asg p pg hs hw h1, snd_asg s sg⟩
/-- a, b = x, y -/
def sPar (i j : Nat) (fa fb : Env → Option (Cell × Env)) : Env → Option Out := fun ρ => (fa ρ).bind fun p => (fb p.2).bind fun q => (dName i p.1 q.2).bind fun ρ1 => (dName j q.1 ρ1).bind fun ρ2 => some (.nx ρ2)
theorem RE.swap {B : Bx} {O F H : Hp} {σ : L2.St} {ρ : Env} {v w : Option V} {c d : Option Cell} (r : RE B O F H (v :: w :: σ) (c :: d :: ρ)) : RE B O F H (w :: v :: σ) (d :: c :: ρ) := by
  refine r.sub (fun i => if i = 0 then 1 else if i = 1 then 0 else i) (by have := r.len; simpa using this) (fun i j _ _ _ _ z => ?_) fun i c' h => ?_
  · by_cases h1 : i = 0 <;> by_cases h2 : j = 0 <;> by_cases h3 : i = 1 <;> by_cases h4 : j = 1 <;> simp [h1, h2, h3, h4] at z ⊢ <;> omega
  · match i, h with
    | 0, h => exact ⟨by simpa using h, fun v h => by simpa using h⟩
    | 1, h => exact ⟨by simpa using h, fun v h => by simpa using h⟩
    | i + 2, h => exact ⟨by simpa using h, fun v h => by simpa using h⟩
theorem RE.put2 {B : Bx} {O F H : Hp} {σ : L2.St} {ρ : Env} {v w : V} {c d : Cell} (r : RE B O F H (some w :: some v :: σ) (some d :: some c :: ρ)) (i j : Nat) (hi : i < σ.length) (hj : j < σ.length) : RE B O F H ((σ.set i (some v)).set j (some w)) ((ρ.set i (some c)).set j (some d)) := by
  have r1 := r.swap.put (i + 1) (by simpa using hi)
  simp only [List.set_cons_succ] at r1
  exact r1.put j (by simpa using hj)
theorem cs_par (i j : Nat) {a b : Expr} {x y : Str} {px py pt pt2 : Pos} {kt k2} {fa fb : Env → Option (Cell × Env)} (hc : X.calm = true) (hN : X.N.Nodup) (ha : CE X a fa) (hb : CE X b fb) (hi : X.N[i]? = some x := by rfl) (hj : X.N[j]? = some y := by rfl) (hij : i ≠ j := by decide)
    (hx : X.env.scope.names.lookup x = some .local := by rfl) (hy : X.env.scope.names.lookup y = some .local := by rfl)
    (hst : starEach [a, b] X.env = (false, eval a X.env) :: starEach [b] X.env := by rfl) (hst2 : starEach [b] X.env = (false, eval b X.env) :: starEach [] X.env := by rfl)
    (hw : swappedStores [.Tuple [.Name x px, .Name y py] kt pt] (.Tuple [a, b] k2 pt2) X.env = pure (some [x, y]) := by rfl)
    (hs : swapsWithSole [.Tuple [.Name x px, .Name y py] kt pt] (.Tuple [a, b] k2 pt2) pos.line X.env = pure false := by rfl) :
    CS X (.Assign [.Tuple [.Name x px, .Name y py] kt pt] (.Tuple [a, b] k2 pt2) pos) (sPar i j fa fb) := by
  obtain ⟨ta, pa, sa⟩ := ha
  obtain ⟨tb, pb, sb⟩ := hb
  refine ⟨_, ps_par hc hN hi hj hij hx hy (pa_cons pa (pa_cons pb pa_nil hst2) hst) hw hs, fun G A O F H σ ρ out D r e q => ?_⟩
  obtain ⟨⟨c, ρ1⟩, e1, e⟩ := bnd e
  obtain ⟨⟨d, ρ2⟩, e2, e⟩ := bnd e
  obtain ⟨ρ3, e3, e⟩ := bnd e
  obtain ⟨ρ4, e4, e⟩ := bnd e
  cases e
  refine sa G A O F H σ ρ _ _ _ r e1 fun F1 H1 v r1 f1 => ?_
  obtain ⟨O', ro, back⟩ := r1.hold
  refine sb G A O' F1 H1 σ ρ1 _ _ _ ro e2 fun F2 H2 w r2 f2 => ?_
  refine ⟨v, w, rfl, ?_⟩
  have r3 := back F2 H2 _ _ r2 f2
  obtain ⟨l1, z1⟩ := dName_lt e3
  obtain ⟨l2, z2⟩ := dName_lt e4
  subst z1 z2
  have hl : ρ2.length = σ.length := by simpa using r3.len
  have m1 : i < ρ2.length := l1
  have m2 : j < ρ2.length := by
    have z : j < (ρ2.set i (some c)).length := l2
    rw [List.length_set] at z
    exact z
  exact q F2 H2 _ (r3.swap.put2 i j (by omega) (by omega)) (f1.trans f2)
def sDrop (f : Env → Option (Cell × Env)) : Env → Option Out := fun ρ => (f ρ).bind fun p => some (.nx p.2)
theorem cs_expr {f : Env → Option (Cell × Env)} (h : CE X e f) (hs : swapsWith e none pos.line X.env = pure false := by rfl) : CS X (.Expr e pos) (sDrop f) := by
  obtain ⟨t, p, s⟩ := h
  refine ⟨_, ps_expr p hs, fun G A O F H σ ρ out D r e q => ?_⟩
  obtain ⟨⟨c, ρ1⟩, e1, e⟩ := bnd e
  cases e
  exact s G A O F H σ ρ _ _ _ r e1 fun F1 H1 v r1 f1 => q F1 H1 σ r1.pop f1
def sRet (f : Env → Option (Cell × Env)) : Env → Option Out := fun ρ => (f ρ).bind fun p => some (.rt p.1 p.2)
theorem cs_ret {f : Env → Option (Cell × Env)} (h : CE X e f) : CS X (.Return (some e) pos) (sRet f) := by
  obtain ⟨t, p, s⟩ := h
  refine ⟨_, ps_ret p, fun G A O F H σ ρ out D r e q => ?_⟩
  obtain ⟨⟨c, ρ1⟩, e1, e⟩ := bnd e
  cases e
  exact s G A O F H σ ρ _ _ _ r e1 fun F1 H1 v r1 f1 => q F1 H1 v σ r1 f1
def sRetN : Env → Option Out := fun ρ => some (.rt (.val .non) ρ)
theorem cs_retN : CS X (.Return none pos) sRetN := ⟨_, ps_retN, fun G A O F H σ ρ out D r e q => by
  cases e
  exact q F H .non σ (r.pushV .non) (Le.refl F)⟩
/-- a name is handed back: what it owns goes with it -/
def dMove (i : Nat) : Env → Option (Cell × Env) := fun ρ => match ρ[i]? with
  | some (some (.own d)) => some (.own d, ρ.set i none)
  | _ => dVar i ρ
theorem RE.move {B : Bx} {O F H : Hp} {σ : L2.St} {ρ : Env} {i : Nat} {v : V} {c : Cell} (r : RE B O F H σ ρ) (hi : ρ[i]? = some (some c)) (hv : σ[i]? = some (some v)) : RE B O F H (some v :: σ) (some c :: ρ.set i none) := by
  refine r.sub (fun j => match j with | 0 => i | j + 1 => j) (by simp [r.len]) (fun j k c1 c2 h1 h2 z => ?_) fun j c1 h => ?_
  · match j, k with
    | 0, 0 => rfl
    | 0, k + 1 =>
      simp only at z
      subst z
      simp only [List.getElem?_cons_succ] at h2
      rw [getElem?_setS, if_pos rfl] at h2
      split at h2 <;> cases h2
    | j + 1, 0 =>
      simp only at z
      subst z
      simp only [List.getElem?_cons_succ] at h1
      rw [getElem?_setS, if_pos rfl] at h1
      split at h1 <;> cases h1
    | j + 1, k + 1 => simp only at z; rw [z]
  · match j, h with
    | 0, h =>
      have h : some (some c) = some (some c1) := by simpa using h
      cases h
      exact ⟨hi, fun v' h' => by rw [hv] at h'; simpa using h'⟩
    | j + 1, h =>
      simp only [List.getElem?_cons_succ] at h
      rw [getElem?_setS] at h
      by_cases hj : i = j
      · subst hj
        rw [if_pos rfl] at h
        split at h <;> cases h
      · rw [if_neg hj] at h
        exact ⟨h, fun v' h' => by simpa using h'⟩
theorem ce_move (i : Nat) {x : Str} (hN : X.N[i]? = some x := by rfl) (hv : Vis X.env.scope x := by first | exact Or.inl rfl | exact Or.inr (Or.inl rfl) | exact Or.inr (Or.inr rfl)) (hd : (x == ("__debug__" : Str)) = false := by decide) (hcd : (x == ("__classdict__" : Str)) = false := by decide) : CE X (.Name x pos) (dMove i) := by
  refine ⟨_, pe_var hN hv hd hcd, fun G A O F H σ ρ c ρ' Q r e q => ?_⟩
  unfold dMove at e
  split at e
  · rename_i d hi
    cases e
    obtain ⟨v, ev, _⟩ := r.at_ i _ hi
    exact ⟨v, ev, q F H v (r.move hi ev) (Le.refl F)⟩
  · exact snd_var G A O F H σ ρ c ρ' Q r e q
def sIf (fc : Env → Option (Bool × Env)) (ga gb : Env → Option Out) : Env → Option Out := fun ρ => (fc ρ).bind fun p => if p.1 = true then ga p.2 else gb p.2
/-- what follows from an outcome holds from an earlier frozen part -/
def Post (K : PySem.W.Frag) (G : Hp) (A : Nat → Option Addr) (O F : Hp) (D : Ends) : Out → Prop
  | .nx ρ' => ∀ F' H' σ', RE ⟨K, G, A⟩ O F' H' σ' ρ' → Le F F' → D.nx σ' H'
  | .rt c ρ' => ∀ F' H' v σ', RE ⟨K, G, A⟩ O F' H' (some v :: σ') (some c :: ρ') → Le F F' → D.rt v H'
  | .bk ρ' => ∀ F' H' σ', RE ⟨K, G, A⟩ O F' H' σ' ρ' → Le F F' → D.bk σ' H'
  | .ct ρ' => ∀ F' H' σ', RE ⟨K, G, A⟩ O F' H' σ' ρ' → Le F F' → D.ct σ' H'
theorem Post.mono {K : PySem.W.Frag} {G : Hp} {A : Nat → Option Addr} {O F F' : Hp} {D : Ends} {o : Out} (f : Le F F') (h : Post K G A O F D o) : Post K G A O F' D o := by
  cases o with
  | nx ρ => exact fun F2 H2 σ2 r g => h F2 H2 σ2 r (f.trans g)
  | rt c ρ => exact fun F2 H2 v σ2 r g => h F2 H2 v σ2 r (f.trans g)
  | bk ρ => exact fun F2 H2 σ2 r g => h F2 H2 σ2 r (f.trans g)
  | ct ρ => exact fun F2 H2 σ2 r g => h F2 H2 σ2 r (f.trans g)
theorem SndS.post {K : PySem.W.Frag} {t : TS} {g : Env → Option Out} (s : SndS K t g) {G : Hp} {A : Nat → Option Addr} {O F H : Hp} {σ : L2.St} {ρ : Env} {out : Out} {D : Ends} (r : RE ⟨K, G, A⟩ O F H σ ρ) (e : g ρ = some out) (h : Post K G A O F D out) : t D σ H := by
  refine s G A O F H σ ρ out D r e ?_
  cases out <;> exact h
theorem SndS.of {K : PySem.W.Frag} {t : TS} {g : Env → Option Out} (s : ∀ (G : Hp) (A : Nat → Option Addr) (O F H : Hp) (σ : L2.St) (ρ : Env) (out : Out) (D : Ends), RE ⟨K, G, A⟩ O F H σ ρ → g ρ = some out → Post K G A O F D out → t D σ H) : SndS K t g := fun G A O F H σ ρ out D r e q => by
  refine s G A O F H σ ρ out D r e ?_
  cases out <;> exact q
theorem cs_if {c : Expr} {a b : List Stmt} {fc : Env → Option (Bool × Env)} {ga gb : Env → Option Out} (hc : CT X c fc) (ha : CSs X a ga) (hb : CSs X b gb) : CS X (.If c a b pos) (sIf fc ga gb) := by
  obtain ⟨tc, pc, sc⟩ := hc
  obtain ⟨ta, pa, sa⟩ := ha
  obtain ⟨tb, pb, sb⟩ := hb
  refine ⟨_, ps_if pc pa pb, SndS.of fun G A O F H σ ρ out D r e q => ?_⟩
  obtain ⟨⟨k, ρ1⟩, e1, e⟩ := bnd e
  refine sc G A O F H σ ρ _ _ _ r e1 fun F1 H1 r1 f1 => ?_
  cases k with
  | true => exact sa.post r1 e (q.mono f1)
  | false => exact sb.post r1 e (q.mono f1)
def sPass : Env → Option Out := fun ρ => some (.nx ρ)
def sBreak : Env → Option Out := fun ρ => some (.bk ρ)
def sCont : Env → Option Out := fun ρ => some (.ct ρ)
theorem cs_pass : CS X (.Pass pos) sPass := ⟨_, ps_pass, fun G A O F H σ ρ out D r e q => by cases e; exact q F H σ r (Le.refl F)⟩
theorem cs_break : CS X (.Break pos) sBreak := ⟨_, ps_break, fun G A O F H σ ρ out D r e q => by cases e; exact q F H σ r (Le.refl F)⟩
theorem cs_cont : CS X (.Continue pos) sCont := ⟨_, ps_continue, fun G A O F H σ ρ out D r e q => by cases e; exact q F H σ r (Le.refl F)⟩
def sSeq (f g : Env → Option Out) : Env → Option Out := fun ρ => (f ρ).bind fun o => match o with
  | .nx ρ1 => g ρ1
  | o => some o
theorem css_nil : CSs X [] sPass := ⟨_, pss_nil, fun G A O F H σ ρ out D r e q => by cases e; exact q F H σ r (Le.refl F)⟩
theorem css_one {s : Stmt} {f : Env → Option Out} (h : CS X s f) : CSs X [s] f := let ⟨_, p, z⟩ := h; ⟨_, pss_one p, z⟩
theorem css_cons {s : Stmt} {r : List Stmt} {f g : Env → Option Out} (h1 : CS X s f) (h2 : CSs X r g) : CSs X (s :: r) (sSeq f g) := by
  obtain ⟨t, p, s1⟩ := h1
  obtain ⟨u, p2, s2⟩ := h2
  refine ⟨_, pss_cons p p2, SndS.of fun G A O F H σ ρ out D r e q => ?_⟩
  obtain ⟨o, e1, e⟩ := bnd e
  refine s1.post r e1 ?_
  cases o with
  | nx ρ1 => exact fun F1 H1 σ1 r1 f1 => s2.post r1 e (q.mono f1)
  | rt c ρ1 => cases e; exact q
  | bk ρ1 => cases e; exact q
  | ct ρ1 => cases e; exact q
end
end Q
end
section
set_option maxHeartbeats 1000000
namespace Q
open PySem PySem.Spec PyProof.Rows L2
/-! ### what is walked -/
/-- a walk of items that read as ds, whatever grows -/
def Wk (K : PySem.W.Frag) (F : Hp) (J : It) (ds : List D) : Prop := ∃ (G : Hp → Prop) (Y : Nat → Hp → V → Hp → Prop), Walk J ds.length G Y ∧ (∀ F2 H2, Le F F2 → Ex F2 H2 → G H2) ∧
  ∀ i F2 H2 x H3, i < ds.length → Le F F2 → Ex F2 H2 → Y i H2 x H3 → ∃ d, ds[i]? = some d ∧ Res K F2 H2 x H3 (.val d)
def SndI (K : PySem.W.Frag) (w : TI) (f : Env → Option (List D × Env)) : Prop := ∀ (G : Hp) (A : Nat → Option Addr) (O F H : Hp) (σ : L2.St) (ρ : Env) (ds : List D) (ρ' : Env) (R : It → Hp → Prop), RE ⟨K, G, A⟩ O F H σ ρ → f ρ = some (ds, ρ') →
  (∀ F' H' J, RE ⟨K, G, A⟩ O F' H' σ ρ' → Le F F' → Wk K F' J ds → R J H') → w σ H R
def IE (X : Cx) (tg iter : Expr) (f : Env → Option (List D × Env)) : Prop := ∃ w, PI X tg iter w ∧ SndI X.K w f
/-- the target takes an item: a value, perhaps just laid -/
theorem SndGv.item {K : PySem.W.Frag} {vs : List Nat} {g : TG} {f : Cell → Env → Option Env} (s : SndGv K vs g f) {G : Hp} {A : Nat → Option Addr} {O F H H' : Hp} {σ : L2.St} {ρ ρ' : Env} {d : D} {x : V} {Q : L2.St → Hp → Prop} (r : RE ⟨K, G, A⟩ O F H σ ρ) (res : Res K F H x H' (.val d)) (e : f (.val d) ρ = some ρ')
    (q : ∀ F' H' σ', RE ⟨K, G, A⟩ O F' H' σ' ρ' → Le F F' → (σ'.length = σ.length ∧ ∀ j, j ∉ vs → σ'[j]? = σ[j]?) → Q σ' H') : g x σ H' Q := by
  obtain ⟨F1, f1, r1⟩ := Res.re r res
  exact s G A O F1 H' σ ρ _ x ρ' Q r1 e fun F2 H2 σ2 r2 f2 z => q F2 H2 σ2 r2 (f1.trans f2) z
section
variable {X : Cx} {tg e : Expr} {pos : Pos}
/-! ### for -/
def forL (g : Cell → Env → Option Env) (body : Env → Option Out) : List D → Env → Option Out
  | [], ρ => some (.nx ρ)
  | d :: ds, ρ => (g (.val d) ρ).bind fun ρ1 => (body ρ1).bind fun o => match o with
    | .nx ρ2 => forL g body ds ρ2
    | .ct ρ2 => forL g body ds ρ2
    | .bk ρ2 => some (.nx ρ2)
    | .rt c ρ2 => some (.rt c ρ2)
def sFor (it : Env → Option (List D × Env)) (g : Cell → Env → Option Env) (body : Env → Option Out) : Env → Option Out := fun ρ => (it ρ).bind fun p => forL g body p.1 p.2
theorem drop_cons {α : Type} {l : List α} {i : Nat} {d : α} (h : l[i]? = some d) : l.drop i = d :: l.drop (i + 1) := by
  obtain ⟨h1, h2⟩ := List.getElem?_eq_some_iff.mp h
  rw [List.drop_eq_getElem_cons h1, h2]
theorem cs_for {iter : Expr} {body : List Stmt} {vs : List Nat} {it : Env → Option (List D × Env)} {g : Cell → Env → Option Env} {b : Env → Option Out} (hp : PassesOwn (model X.prog X.w) X.A X.env X.xe) (hc : X.calm = true) (hi : IE X tg iter it) (hg : GE X tg vs g) (hb : CSs X body b)
    (hs : ∀ x, foldedSetIterable iter X.env x = pure x := by intro _; rfl) : CS X (.For tg iter body [] pos) (sFor it g b) := by
  obtain ⟨w, pi, si⟩ := hi
  obtain ⟨t, pg, sg⟩ := hg
  obtain ⟨u, pb, sb⟩ := hb
  refine ⟨_, ps_for hp hc pi pg pb hs, SndS.of fun G A O F H σ ρ out D r e q => ?_⟩
  obtain ⟨⟨ds, ρ1⟩, e1, e⟩ := bnd e
  refine si G A O F H σ ρ _ _ _ r e1 fun F1 H1 J r1 f1 wk => ?_
  obtain ⟨Gd, Y, wlk, hG, hY⟩ := wk
  refine for_it wlk (fun i σ2 H2 => ∃ F2 ρ2, RE ⟨X.K, G, A⟩ O F2 H2 σ2 ρ2 ∧ Le F1 F2 ∧ forL g b (ds.drop i) ρ2 = some out) ⟨F1, ρ1, r1, Le.refl F1, by simpa using e⟩ (fun i σ2 H2 _ ⟨F2, ρ2, r2, f2, _⟩ => hG F2 H2 f2 r2.fh) ?_ ?_
  · rintro i x σ2 H2 H3 hlt ⟨F2, ρ2, r2, f2, e2⟩ y
    obtain ⟨d, hd, res⟩ := hY i F2 H2 x H3 hlt f2 r2.fh y
    rw [drop_cons hd] at e2
    obtain ⟨ρ3, e3, e2⟩ := bnd (show (g (.val d) ρ2).bind _ = some out from e2)
    refine sg.item r2 res e3 fun F3 H4 σ3 r3 f3 _ => ?_
    obtain ⟨o, e4, e2⟩ := bnd e2
    refine sb.post r3 e4 ?_
    cases o with
    | nx ρ4 => exact fun F4 H5 σ4 r4 f4 => ⟨F4, ρ4, r4, f2.trans (f3.trans f4), e2⟩
    | ct ρ4 => exact fun F4 H5 σ4 r4 f4 => ⟨F4, ρ4, r4, f2.trans (f3.trans f4), e2⟩
    | bk ρ4 => cases e2; exact fun F4 H5 σ4 r4 f4 => q F4 H5 σ4 r4 (f1.trans (f2.trans (f3.trans f4)))
    | rt c ρ4 => cases e2; exact fun F4 H5 v σ4 r4 f4 => q F4 H5 v σ4 r4 (f1.trans (f2.trans (f3.trans f4)))
  · rintro σ2 H2 ⟨F2, ρ2, r2, f2, e2⟩
    rw [List.drop_length] at e2
    cases (show some (Out.nx ρ2) = some out from e2)
    exact q F2 H2 σ2 r2 (f1.trans f2)
/-! ### while -/
def whileL (c : Env → Option (Bool × Env)) (b : Env → Option Out) : Nat → Env → Option Out
  | 0, _ => none
  | n + 1, ρ => (c ρ).bind fun p => if p.1 = true then (b p.2).bind fun o => match o with
      | .nx ρ2 => whileL c b n ρ2
      | .ct ρ2 => whileL c b n ρ2
      | .bk ρ2 => some (.nx ρ2)
      | .rt c ρ2 => some (.rt c ρ2)
    else some (.nx p.2)
def fuel : Nat := 1000000000
def sWhile (c : Env → Option (Bool × Env)) (b : Env → Option Out) : Env → Option Out := whileL c b fuel
theorem cs_while {c : Expr} {body : List Stmt} {fc : Env → Option (Bool × Env)} {b : Env → Option Out} (hp : PassesOwn (model X.prog X.w) X.A X.env X.xe) (hc : CT X c fc) (hb : CSs X body b) : CS X (.While c body [] pos) (sWhile fc b) := by
  obtain ⟨tc, pc, sc⟩ := hc
  obtain ⟨u, pb, sb⟩ := hb
  refine ⟨_, ps_while hp pc pb, SndS.of fun G A O F H σ ρ out D r e q => ?_⟩
  refine ⟨fun m σ2 H2 => ∃ F2 ρ2, RE ⟨X.K, G, A⟩ O F2 H2 σ2 ρ2 ∧ Le F F2 ∧ whileL fc b m ρ2 = some out, ⟨fuel, F, ρ, r, Le.refl F, e⟩, ?_⟩
  rintro m σ2 H2 ⟨F2, ρ2, r2, f2, e2⟩
  cases m with
  | zero => cases e2
  | succ m =>
    obtain ⟨⟨k, ρ3⟩, e3, e2⟩ := bnd (show (fc ρ2).bind _ = some out from e2)
    refine sc G A O F2 H2 σ2 ρ2 _ _ _ r2 e3 fun F3 H3 r3 f3 => ?_
    cases k with
    | false =>
      cases (show some (Out.nx ρ3) = some out from e2)
      show D.nx σ2 H3
      exact q F3 H3 σ2 r3 (f2.trans f3)
    | true =>
      obtain ⟨o, e4, e2⟩ := bnd (show (b ρ3).bind _ = some out from e2)
      refine ⟨fun σ4 H4 => ∃ F4 ρ4, RE ⟨X.K, G, A⟩ O F4 H4 σ4 ρ4 ∧ Le F F4 ∧ whileL fc b m ρ4 = some out, fun σ4 H4 h => ⟨m, Nat.lt_succ_self m, h⟩, ?_⟩
      refine sb.post r3 e4 ?_
      cases o with
      | nx ρ4 => exact fun F4 H5 σ4 r4 f4 => ⟨F4, ρ4, r4, f2.trans (f3.trans f4), e2⟩
      | ct ρ4 => exact fun F4 H5 σ4 r4 f4 => ⟨F4, ρ4, r4, f2.trans (f3.trans f4), e2⟩
      | bk ρ4 => cases e2; exact fun F4 H5 σ4 r4 f4 => q F4 H5 σ4 r4 (f2.trans (f3.trans f4))
      | rt c ρ4 => cases e2; exact fun F4 H5 v σ4 r4 f4 => q F4 H5 v σ4 r4 (f2.trans (f3.trans f4))
/-! ### what can be walked: a list, a tuple, a range, enumerate, zip -/
theorem Rps.at {K : PySem.W.Frag} {F : Hp} : ∀ {vs : List V} {ds : List D} {i : Nat} {v : V}, Rps K F vs ds → vs[i]? = some v → ∃ d, ds[i]? = some d ∧ Rp K F v d
  | _, _, _, _, .nil, e => by simp at e
  | _, _, 0, _, .cons h _, e => by simp at e; subst e; exact ⟨_, rfl, h⟩
  | _, _, i + 1, _, .cons _ t, e => by
    obtain ⟨v, h1, h2⟩ := Rps.at t (i := i) (by simpa using e)
    exact ⟨v, by simpa using h1, h2⟩
/-- a frozen sequence -/
def iSeq (f : Env → Option (Hd × Env)) : Env → Option (List D × Env) := fun ρ => (f ρ).bind fun p => match p.1 with
  | .inl d => (seqD d).bind fun l => some (l, p.2)
  | .inr _ => none
theorem wk_list {K : PySem.W.Frag} {F : Hp} {a : Addr} {xs : List V} {l : List D} (h : Rd F a (.lst xs)) (r : Rps K F xs l) : Wk K F (Itl K a) l := by
  refine ⟨_, _, r.len ▸ walk_list (xs := xs), fun F2 H2 f x => .inl (ex_rd x (le_rd f h)), fun i F2 H2 x H3 hi f ex y => ?_⟩
  obtain ⟨rfl, hx⟩ := y
  obtain ⟨d, hd, rp⟩ := (r.mono f).at hx
  exact ⟨d, hd, .val rp⟩
theorem wk_tup {K : PySem.W.Frag} {F : Hp} {a : Addr} {xs : List V} {l : List D} (h : F a = some (.tup xs)) (r : Rps K F xs l) : Wk K F (Itt K a) l := by
  refine ⟨_, _, r.len ▸ walk_tup (xs := xs), fun F2 H2 f x => .inl (.inl (x _ _ (f.at rfl h))), fun i F2 H2 x H3 hi f ex y => ?_⟩
  obtain ⟨rfl, hx⟩ := y
  obtain ⟨d, hd, rp⟩ := (r.mono f).at hx
  exact ⟨d, hd, .val rp⟩
theorem pi_or {w w' : TI} {iter : Expr} (h : PI X tg iter w) (h' : PI X tg iter w') : PI X tg iter (fun σ H R => w σ H R ∨ w' σ H R) :=
  ⟨fun pins s σ H R I q => q.elim (h.run pins s σ H R I) (h'.run pins s σ H R I)⟩
theorem ie_seq {f : Env → Option (Hd × Env)} (h : OE X e f) : IE X tg e (iSeq f) := by
  obtain ⟨t, p, s⟩ := h
  refine ⟨_, pi_or (pi_list p) (pi_tup p), fun G A O F H σ ρ ds ρ' R r e q => ?_⟩
  obtain ⟨⟨h, ρ1⟩, e1, e⟩ := bnd e
  cases h with
  | inr i => cases e
  | inl d =>
    obtain ⟨l, e2, e⟩ := bnd (show (seqD d).bind _ = some (ds, ρ') from e)
    cases e
    cases d with
    | lst l' =>
      cases e2
      refine .inl (s G A O F H σ ρ _ _ _ r e1 fun F1 H1 v r1 f1 hv => ?_)
      have rp : Rp X.K F1 v (.lst ds) := hv
      cases rp with
      | lst h r n => exact ⟨_, rfl, ⟨_, .inl (ex_rd r1.fh h)⟩, q F1 H1 _ r1 f1 (wk_list h r)⟩
    | tup l' =>
      cases e2
      refine .inr (s G A O F H σ ρ _ _ _ r e1 fun F1 H1 v r1 f1 hv => ?_)
      have rp : Rp X.K F1 v (.tup ds) := hv
      cases rp with
      | tup h r n => exact ⟨_, rfl, ⟨_, .inl (.inl (r1.fh _ _ h))⟩, q F1 H1 _ r1 f1 (wk_tup h r)⟩
    | _ => cases e2
def rgD (a b : Int) : List D := (List.range (b - a).toNat).map fun i => D.int (a + (i : Nat))
theorem wk_range {K : PySem.W.Frag} {F : Hp} {a b : Int} : Wk K F (Itr a (b - a).toNat) (rgD a b) := by
  have hl : (rgD a b).length = (b - a).toNat := by unfold rgD; simp
  refine ⟨fun _ => True, YFn fun i => .int (a + (i : Nat)), by rw [hl]; exact walk_range, fun _ _ _ _ => True.intro, fun i F2 H2 x H3 hi f ex y => ?_⟩
  obtain ⟨rfl, rfl⟩ := y
  refine ⟨.int (a + (i : Nat)), ?_, .val (.int _)⟩
  rw [hl] at hi
  unfold rgD
  simp [hi]
open Classical in
/-- (classical: the kernel is not to count) -/
noncomputable def smI (j : Int) : Bool := @decide (-(2 ^ 62) ≤ j ∧ j < 2 ^ 62) (propDecidable _)
theorem smI_ok {j : Int} (h : smI j = true) : -(2 ^ 62) ≤ j ∧ j < 2 ^ 62 := @of_decide_eq_true _ (Classical.propDecidable _) h
theorem smI_nn {j : Int} (h0 : 0 ≤ j) (h1 : j ≤ 1000000000000) : smI j = true := by
  unfold smI
  exact @decide_eq_true _ (Classical.propDecidable _) (by omega)
noncomputable def iRange1 (fa : Env → Option (List Hd × Env)) : Env → Option (List D × Env) := fun ρ => (fa ρ).bind fun p => (lookAll p.2 p.1).bind fun ds => match ds with
  | [.int j] => if smI j = true then some (rgD 0 j, p.2) else none
  | _ => none
noncomputable def iRange2 (fa : Env → Option (List Hd × Env)) : Env → Option (List D × Env) := fun ρ => (fa ρ).bind fun p => (lookAll p.2 p.1).bind fun ds => match ds with
  | [.int i, .int j] => if smI i = true ∧ smI j = true then some (rgD i j, p.2) else none
  | _ => none
theorem ie_range1 {a : Expr} {p : Pos} {fa : Env → Option (List Hd × Env)} (hg : Gl X "range") (hm : X.mg "range" = none) (ha : OA X [a] fa) (hs : starEach [a] X.env = [(false, eval a X.env)] := by rfl) : IE X tg (.Call (.Name "range" p) [a] [] pos) (iRange1 fa) := by
  obtain ⟨t, pa, s⟩ := ha
  refine ⟨_, pi_range1 hg hm pa hs, fun G A O F H σ ρ ds ρ' R r e q => ?_⟩
  obtain ⟨⟨hs, ρ1⟩, e1, e⟩ := bnd e
  obtain ⟨l, e2, e⟩ := bnd e
  split at e
  · split at e
    · rename_i hj
      cases e
      refine s G A O F H σ ρ _ _ _ r e1 fun F1 H1 vs r1 f1 hv => ?_
      obtain ⟨v, rfl, rd⟩ := (r1.lookAll hv e2).one
      refine ⟨_, by rw [rd.int], (smI_ok hj).1, (smI_ok hj).2, ?_⟩
      have z := q F1 H1 _ r1 f1 (wk_range (a := 0))
      simpa using z
    · cases e
  · cases e
theorem ie_range2 {a b : Expr} {p : Pos} {fa : Env → Option (List Hd × Env)} (hg : Gl X "range") (hm : X.mg "range" = none) (ha : OA X [a, b] fa) (hs : starEach [a, b] X.env = [(false, eval a X.env), (false, eval b X.env)] := by rfl) (hs2 : starEach [b] X.env = [(false, eval b X.env)] := by rfl) : IE X tg (.Call (.Name "range" p) [a, b] [] pos) (iRange2 fa) := by
  obtain ⟨t, pa, s⟩ := ha
  refine ⟨_, pi_range2 hg hm pa hs hs2, fun G A O F H σ ρ ds ρ' R r e q => ?_⟩
  obtain ⟨⟨hs, ρ1⟩, e1, e⟩ := bnd e
  obtain ⟨l, e2, e⟩ := bnd e
  split at e
  · split at e
    · rename_i hj
      cases e
      refine s G A O F H σ ρ _ _ _ r e1 fun F1 H1 vs r1 f1 hv => ?_
      obtain ⟨v, w, rfl, rd, rd2⟩ := (r1.lookAll hv e2).two
      exact ⟨_, _, by rw [rd.int, rd2.int], ⟨(smI_ok hj.1).1, (smI_ok hj.1).2, (smI_ok hj.2).1, (smI_ok hj.2).2⟩, q F1 H1 _ r1 f1 wk_range⟩
    · cases e
  · cases e
end
end Q
end
section
set_option maxHeartbeats 1000000
/-! enumerate over a tuple -/
namespace QE
open PySem PySem.Spec PyProof.Rows L2
set_option maxHeartbeats 1000000 in
theorem meets_enum1 {v : Value} {o : Obj} {H : Heap → Prop} (B : Begins v o H) :
    Meets (Builtin.«enumerate.__new__» ⟨[.type "enumerate", v], []⟩) (fun _ R s => H s.heap ∧
      R (.ok (.ret (.ref (s.heap.push o).objs.size))) { s with heap := (s.heap.push o).push { cls := .type "enumerate", data := .fields #[.none, .bool false, .ref s.heap.objs.size, rawInt 0, .none, .none] } }) :=
  .of_wp fun prog w A R s h => by
    obtain ⟨hp, g, d, tk, os⟩ := s; obtain ⟨h1, h⟩ := h
    have hsub := sub_enumerate
    have q1 : ∀ {A' : Around} {E : Value → Shared → Prop} {Q : Value → Shared → Prop}, Q (.ref hp.objs.size) ⟨hp.push o, g, d, tk, os⟩ → wpAny (model prog w) A' (pyIter v) Q E ⟨hp, g, d, tk, os⟩ :=
      fun q => B.iter prog w _ _ ⟨hp, g, d, tk, os⟩ _ h1 q
    wp_walk using q1
    refine wpAny_stack_any fun st => wpAny_pure ?_
    split
    · rename_i c _ _ _ _ _
      cases (c == Value.type "enumerate")
      · wp_walk using q1
        exact ⟨_, rfl, h⟩
      · wp_walk using q1
        exact ⟨_, rfl, h⟩
    · wp_walk using q1
      exact ⟨_, rfl, h⟩
section
variable {prog : Program} {w : World} {A : Around} {E : Value → Shared → Prop} {s : Shared}
theorem call_enum1 {v : Value} {o : Obj} {H : Heap → Prop} {Q : Value → Shared → Prop} (B : Begins v o H) (h1 : H s.heap)
    (h : ∀ h', IsEnum h' (s.heap.objs.size + 1) s.heap.objs.size 0 .none → h'.get? s.heap.objs.size = some o → h'.objs.size = s.heap.objs.size + 2 →
      (∀ b o, s.heap.get? b = some o → h'.get? b = some o) → Q (.ref (s.heap.objs.size + 1)) { s with heap := h' }) :
    wpAny (model prog w) A (call (.type "enumerate") [v]) Q E s := by
  refine callType_new F.called_enumerate (by decide) (F.typeCall_enumerate_1 _) (F.newCall_enumerate_1 _) (fun obj => F.args_object_init_2 obj _) F.entry_enumerate_new
    (meets_enum1 B) ⟨h1, ?_⟩
  have hz : (s.heap.push o).objs.size = s.heap.objs.size + 1 := Heap.size_push ..
  show _ ∧ _
  rw [hz]
  have he : IsEnum ((s.heap.push o).push { cls := .type "enumerate", data := .fields #[.none, .bool false, .ref s.heap.objs.size, rawInt 0, .none, .none] }) (s.heap.objs.size + 1) s.heap.objs.size 0 .none := by
    have := Heap.get?_push_size (s.heap.push o) (o := { cls := .type "enumerate", data := .fields #[.none, .bool false, .ref s.heap.objs.size, rawInt 0, .none, .none] }) rfl
    rw [hz] at this; exact this
  exact ⟨⟨_, he, rfl⟩, h _ he (Heap.get?_push_of_some _ (Heap.get?_push_size _ B.free)) (by rw [Heap.size_push, hz]) fun b o x => Heap.get?_push_of_some _ (Heap.get?_push_of_some _ x)⟩
end
/-- the tuple at a, each item in a new pair -/
def IteT (K : PySem.W.Frag) (a : Addr) : It :=
  ⟨fun i H => ∃ (xs : List V) (x : V), SqT K H a xs ∧ xs[i]? = some x, fun i H v H' => ∃ T x, v = .ref T ∧ H T = none ∧ H' = upd H T (.tup [.int (i : Nat), x]) ∧ ∀ xs, SqT K H a xs → xs[i]? = some x, fun i H => ∃ xs : List V, SqT K H a xs ∧ xs.length = i⟩
theorem turn_enumT {P : Program} {w : World} {K : PySem.W.Frag} {elts : List Expr} {kk : Nat} {tpos : Pos} (a e it : Addr) :
    Turn P w K (.Tuple elts kk tpos) (IteT K a) [e, it] e (fun i h => (∃ old, IsEnum h e it ((i : Nat) : Int) old) ∧ h.IsTupleIter it a i ∧ e ≠ it ∧ a ≠ it ∧ a ≠ e) where
  mem := by simp
  obj := fun i h st b hb => by
    obtain ⟨⟨old, he⟩, ⟨o, ho, hc, hd⟩, _⟩ := st
    have e' : b = e ∨ b = it := by simpa using hb
    rcases e' with z | z
    · rw [z]; exact ⟨_, he, fun v q => nomatch q⟩
    · rw [z]; exact ⟨o, ho, fun v q => by rw [hd] at q; cases q⟩
  keep := fun i h h' st k => let ⟨⟨old, he⟩, hi, hne⟩ := st; ⟨⟨old, k e (by simp) _ he⟩, hi.at fun o q => k it (by simp) o q, hne⟩
  item := by
    intro X hP hw hK hc i pins s σ H E I hf st hg
    subst hP hw hK
    obtain ⟨⟨old, he⟩, hit, hne, hai, hae⟩ := st
    obtain ⟨xs, x, hq, hx⟩ := hg
    obtain ⟨its, rv, p, hz⟩ := I.tuple hq
    obtain ⟨u, hu, ru⟩ := rv.get hx
    have hil : it < s.heap.objs.size := by obtain ⟨_, q, _⟩ := hit; exact Heap.lt_size q
    have hel : e < s.heap.objs.size := Heap.lt_size he
    have hlt : i < its.toArray.size := by
      have := (List.getElem?_eq_some_iff.mp hu).1
      simpa using this
    have hh : X.A.in1.handled = none := I.ok.hd hc
    refine wpAny_pyNext_enum_itemD (Draws.tuple (prog := X.prog) (w := X.w) hh it a hai its.toArray) he ⟨hit, p⟩ hlt hne (by simp; exact ⟨hne, fun z => hae z.symm⟩) fun u' h' tk hu' ho st' hT hsz hk => ?_
    have eu : u' = u := by
      have hu' : its.toArray[i]? = some u' := hu'
      have : some u' = some u := by rw [← hu', ← hu]; simp
      exact Option.some.inj this
    subst eu
    refine ⟨_, rfl, wpAny_letOwnedTupleGo_enum (s := { s with heap := h', toks := tk + 1 }) ho fun h'' he' sb => ?_⟩
    have hT2 : h''.get? s.heap.objs.size = some { cls := .type "tuple", data := .seq #[.int i tk, u'] } := (sb.2 _ (Nat.ne_of_gt hel)).trans hT
    have new : ObjOk X.prog X.w (upd H s.heap.objs.size (.tup [.int (i : Nat), x])) h'' s.heap.objs.size (.tup [.int (i : Nat), x]) :=
      ⟨by show 2 ≤ sizeLine; decide, [.int i tk, u'], .cons ⟨_, rfl⟩ (.cons ru .nil), ⟨_, hT2, rfl, _, rfl⟩⟩
    have I1 : Inv X pins σ (upd H s.heap.objs.size (.tup [.int (i : Nat), x])) { s with heap := h'', toks := tk + 1 } :=
      I.turnedNew (ch := [e, it]) (fun b ob hb q => (sb.2 b (fun z => hb (by simp [z]))).trans (hk b ob (fun z => hb (by simp [z])) (fun z => hb (by simp [z])) q)) hf (Nat.le_refl _) new
    refine ⟨.ref s.heap.objs.size, _, I1, rfl, ⟨_, x, rfl, I.hok.fresh (Nat.le_refl _), rfl, fun ys hy => by rw [I.tuple_inj hy hq]; exact hx⟩, ⟨⟨u', ?_⟩, st'.1.at fun o q => (sb.2 it (Ne.symm hne)).trans q, hne, hai, hae⟩, fun b hb => ?_⟩
    · have e1 : ((i + 1 : Nat) : Int) = (i : Int) + 1 := by omega
      rw [e1]; exact he'
    · have hb' : b < s.heap.objs.size := by
        have e' : b = e ∨ b = it := by simpa using hb
        rcases e' with z | z
        · rw [z]; exact hel
        · rw [z]; exact hil
      rw [upd_ne (Nat.ne_of_lt hb')]
      exact (hf b hb).1
  done := by
    intro X hP hw hK hc i pins s σ H E I hf st hg
    subst hP hw hK
    obtain ⟨⟨old, he⟩, hit, hne, hai, hae⟩ := st
    obtain ⟨xs, hq, hx⟩ := hg
    obtain ⟨its, rv, p, hz⟩ := I.tuple hq
    obtain ⟨f0, f1, f2, f3, f4, f5⟩ := hf it (by simp)
    have hl := rv.length
    have hh : X.A.in1.handled = none := I.ok.hd hc
    have hn : i = its.toArray.size := by simp; omega
    subst hn
    exact wpAny_pyNext_enum_endD (Draws.tuple (prog := X.prog) (w := X.w) hh it a hai its.toArray) he ⟨hit, p⟩ fun h' eb => ⟨rfl, I.turned (t' := s.toks) (fun b o hb q => eb b o hb q) f0 f1 f3 f4 f5⟩
  self := fun A i s Q E st h => let ⟨⟨_, he⟩, _⟩ := st; wpAny_pyIter_enum he h
def iEnumT (K : PySem.W.Frag) (ta : TA) : TI := fun σ H R => ta σ H fun vs H1 => ∃ a xs, vs = [.ref a] ∧ SqT K H1 a xs ∧ R (IteT K a) H1
theorem pi_enumT {X : Cx} {e : Expr} {ta : TA} {p pos tpos : Pos} {elts : List Expr} {kk : Nat} (hg : Gl X "enumerate") (hm : X.mg "enumerate" = none) (ha : PA X [e] ta) (hs : starEach [e] X.env = [(false, eval e X.env)] := by rfl) :
    PI X (.Tuple elts kk tpos) (.Call (.Name "enumerate" p) [e] [] pos) (iEnumT X.K ta) := by
  refine ⟨fun pins s σ H R I h => ?_⟩
  refine Call_ (ld_blt I hg hm boot_enumerate (PyProof.Rows.callWith_type1 (thn (ha.run pos pins s σ H _ I h) fun us s1 ⟨vs, H1, I1, r1, q1⟩ => ?_) hs rfl))
  obtain ⟨a, xs, ex, hq, q⟩ := q1
  subst ex
  cases r1 with
  | cons r rr =>
    cases rr
    cases r
    obtain ⟨its, rv, p', hz⟩ := I1.tuple hq
    have hal : a < s1.heap.objs.size := p'.lt
    refine call_enum1 (begins_tuple a its.toArray) p' fun h' he hit hsz hk => wpAny_pyIter_enum he ?_
    have I2 : Inv X pins σ H1 { s1 with heap := h' } := I1.kept (t' := s1.toks) hk
    refine ⟨s1.heap.objs.size + 1, [s1.heap.objs.size + 1, s1.heap.objs.size], _, _, H1, rfl, I2, turn_enumT a (s1.heap.objs.size + 1) s1.heap.objs.size, ⟨⟨.none, he⟩, ⟨_, hit, rfl, rfl⟩, Nat.succ_ne_self _, Nat.ne_of_lt hal, Nat.ne_of_lt (Nat.lt_succ_of_lt hal)⟩, fun b hb => ?_, q⟩
    have e' : b = s1.heap.objs.size + 1 ∨ b = s1.heap.objs.size := by simpa using hb
    have hle : s1.heap.objs.size ≤ b := by
      rcases e' with z | z
      · rw [z]; exact Nat.le_add_right _ _
      · rw [z]; exact Nat.le_refl _
    exact I1.fpOk hle (I1.hok.fresh hle)
theorem walk_enumT {K : PySem.W.Frag} {a : Addr} {xs : List V} : Walk (IteT K a) xs.length (fun H => SqT K H a xs) (YPair (fun i => some (.int (i : Nat))) (fun i => xs[i]?)) :=
  ⟨fun i _ hi q => ⟨xs, xs[i], q, by simp [hi]⟩, fun _ q => ⟨xs, q, rfl⟩, fun i H x H' _ q y => by
    obtain ⟨T, x', e1, e2, e3, e4⟩ := y
    exact ⟨T, _, x', e1, e2, e3, rfl, e4 xs q⟩⟩
end QE
end
section
set_option maxHeartbeats 1000000
namespace Q
open PySem PySem.Spec PyProof.Rows L2
/-! ### frames -/
section
variable {B : Bx} {O F H : Hp} {σ : L2.St} {ρ : Env} {d : D} {a : Addr} {o o' : HO}
theorem RE.frame (r : RE B O F H σ ρ) (h : H a = none) : RE B (upd O a o) F (upd H a o) σ ρ := by
  have r1 : RE B O F (upd H a o) σ ρ := r.grow (Ex.new h) (Le.refl F) (r.fh.trans (Ex.new h)) fun _ _ => rfl
  refine ⟨r1.fh, Ex.upd2 r.oh, r1.gf, fun b u e => ?_, r1.len, r1.at_, r1.inj, fun i b ow => ?_⟩
  · by_cases hb : b = a
    · subst hb; exact r.fh.back h
    · rw [upd_ne hb] at e; exact r.of_ b u e
  · have hb : b ≠ a := fun z => by
      subst z
      obtain ⟨u, e, _⟩ := r.own_some ow
      rw [h] at e; cases e
    rw [upd_ne hb]; exact r.no i b ow
theorem RE.reframe (r : RE B (upd O a o) F H σ ρ) : RE B (upd O a o') F (upd H a o') σ ρ := by
  have fa : F a = none := r.of_ a o upd_same
  have na : ∀ i, ¬ Own σ ρ i a := fun i ow => by
    have := r.no i a ow
    rw [upd_same] at this; cases this
  refine ⟨r.fh.mut fa, fun b u e => ?_, r.gf, fun b u e => ?_, r.len, fun i c e => ?_, r.inj, fun i b ow => ?_⟩
  · by_cases hb : b = a
    · subst hb; rw [upd_same] at *; exact e
    · rw [upd_ne hb] at *
      exact r.oh b u (by rw [upd_ne hb]; exact e)
  · by_cases hb : b = a
    · subst hb; exact fa
    · rw [upd_ne hb] at e
      exact r.of_ b u (by rw [upd_ne hb]; exact e)
  · obtain ⟨v, ev, q⟩ := r.at_ i c e
    refine ⟨v, ev, q.mono (Le.refl F) fun co b u eb hb => ?_⟩
    subst eb
    have hne : b ≠ a := fun z => by subst z; exact na i ⟨ev, c, e, co⟩
    rw [upd_ne hne]
    exact ⟨hb, (r.own_some ⟨ev, c, e, co⟩).elim fun _ z => z.2⟩
  · have hb : b ≠ a := fun z => by subst z; exact na i ow
    have := r.no i b ow
    rw [upd_ne hb] at *
    exact this
theorem RE.unframe (r : RE B (upd O a o) F H σ ρ) (oa : O a = none) (ro : RO B.K F o d) : RE B O F H (some (.ref a) :: σ) (some (.own d) :: ρ) := by
  have fa : F a = none := r.of_ a o upd_same
  have r1 : RE B O F H σ ρ := by
    refine ⟨r.fh, fun b u e => r.oh b u ?_, r.gf, fun b u e => r.of_ b u ?_, r.len, r.at_, r.inj, fun i b ow => ?_⟩
    · rw [upd_ne (fun z => by subst z; rw [oa] at e; cases e)]; exact e
    · rw [upd_ne (fun z => by subst z; rw [oa] at e; cases e)]; exact e
    · have := r.no i b ow
      by_cases hb : b = a
      · subst hb; exact oa
      · rw [upd_ne hb] at this; exact this
  refine r1.push (c := .own d) ⟨a, o, rfl, r.oh a o upd_same, ro, fa⟩ fun _ b e => ?_
  cases e
  refine ⟨oa, fun i ow => ?_⟩
  have := r.no i a ow
  rw [upd_same] at this; cases this
/-- a frozen dict is locked -/
theorem RE.lock (r : RE B O F H σ ρ) (hd : isDict o = true) (h : F a = some o) (od : Obj) : RE B O (upd F a (.frz od o)) (upd H a (.frz od o)) σ ρ ∧ Le F (upd F a (.frz od o)) := by
  have ff : Le F (upd F a (.frz od o)) := fun b u e => by
    by_cases hb : b = a
    · subst hb; rw [h] at e; cases e; exact .inr ⟨hd, od, upd_same⟩
    · rw [upd_ne hb]; exact .inl e
  have oa : ∀ b u, O b = some u → b ≠ a := fun b u e z => by subst z; rw [r.of_ b u e] at h; cases h
  refine ⟨⟨Ex.upd2 r.fh, fun b u e => ?_, r.gf.trans ff, fun b u e => ?_, r.len, fun i c e => ?_, r.inj, r.no⟩, ff⟩
  · rw [upd_ne (oa b u e)]; exact r.oh b u e
  · rw [upd_ne (oa b u e)]; exact r.of_ b u e
  · obtain ⟨v, ev, q⟩ := r.at_ i c e
    refine ⟨v, ev, q.mono ff fun co b u eb hb => ?_⟩
    subst eb
    obtain ⟨u', _, fb⟩ := r.own_some ⟨ev, c, e, co⟩
    have hne : b ≠ a := fun z => by subst z; rw [h] at fb; cases fb
    rw [upd_ne hne, upd_ne hne]
    exact ⟨hb, fb⟩
end
/-! ### wiping -/
def wipeE (ρ : Env) : List Nat → Env
  | [] => ρ
  | v :: vs => (wipeE ρ vs).set v none
theorem wipeE_len (ρ : Env) : ∀ vs : List Nat, (wipeE ρ vs).length = ρ.length
  | [] => rfl
  | v :: vs => by unfold wipeE; rw [List.length_set, wipeE_len ρ vs]
theorem wipe_get (σ : L2.St) (j : Nat) : ∀ vs : List Nat, (wipe σ vs)[j]? = if j ∈ vs then (if j < σ.length then some none else none) else σ[j]?
  | [] => by simp [wipe]
  | v :: vs => by
    unfold wipe
    rw [getElem?_setS, wipe_length, wipe_get σ j vs]
    by_cases h : v = j
    · subst h; simp
    · have h' : ¬ j = v := fun z => h z.symm
      simp [h, h']
theorem wipeE_get (ρ : Env) (j : Nat) : ∀ vs : List Nat, (wipeE ρ vs)[j]? = if j ∈ vs then (if j < ρ.length then some none else none) else ρ[j]?
  | [] => by simp [wipeE]
  | v :: vs => by
    unfold wipeE
    rw [getElem?_setS, wipeE_len, wipeE_get ρ j vs]
    by_cases h : v = j
    · subst h; simp
    · have h' : ¬ j = v := fun z => h z.symm
      simp [h, h']
theorem wipe_ext {a b : L2.St} {vs : List Nat} (hl : a.length = b.length) (h : ∀ j, j ∉ vs → a[j]? = b[j]?) : wipe a vs = wipe b vs := by
  apply List.ext_getElem?
  intro j
  rw [wipe_get, wipe_get, hl]
  by_cases hj : j ∈ vs
  · rw [if_pos hj, if_pos hj]
  · rw [if_neg hj, if_neg hj, h j hj]
theorem wipe_wipe {a : L2.St} {vs : List Nat} : wipe (wipe a vs) vs = wipe a vs := wipe_ext (wipe_length _ _) fun j hj => by rw [wipe_get, if_neg hj]
section
variable {B : Bx} {O F H : Hp} {σ : L2.St} {ρ : Env}
theorem RE.wipe (r : RE B O F H σ ρ) (vs : List Nat) : RE B O F H (wipe σ vs) (wipeE ρ vs) := by
  refine r.sub id (by rw [wipeE_len, wipe_length, r.len]) (fun _ _ _ _ _ _ e => e) fun i c e => ?_
  rw [wipeE_get] at e
  by_cases hi : i ∈ vs
  · rw [if_pos hi] at e
    split at e <;> cases e
  · rw [if_neg hi] at e
    refine ⟨e, fun v h => ?_⟩
    rw [wipe_get, if_neg hi]; exact h
theorem RE.unwipe {vs : List Nat} (r : RE B O F H (Q.wipeE ρ vs |> fun _ => L2.wipe σ vs) (wipeE ρ vs)) : RE B O F H σ (wipeE ρ vs) := by
  refine r.sub id (by rw [r.len, wipe_length]) (fun _ _ _ _ _ _ e => e) fun i c e => ⟨e, fun v h => ?_⟩
  have h : (L2.wipe σ vs)[i]? = some (some v) := h
  exact (wipe_some h).1
end
/-! ### comprehensions -/
/-- the items of one clause -/
def lcL (g : Cell → Env → Option Env) (tt : Env → Option (Bool × Env)) (te : Env → Option (Cell × Env)) (vs : List Nat) : List D → Env → Option (List D × Env)
  | [], ρ => some ([], ρ)
  | d :: ds, ρ => (g (.val d) ρ).bind fun ρ1 => (tt ρ1).bind fun p => if p.1 = true then (te p.2).bind fun q => match q.1 with
      | .val x => (lcL g tt te vs ds (wipeE q.2 vs)).bind fun r => some (x :: r.1, r.2)
      | .own x => (lcL g tt te vs ds (wipeE q.2 vs)).bind fun r => some (x :: r.1, r.2)
      | _ => none
    else lcL g tt te vs ds (wipeE p.2 vs)
theorem lcL_wiped {g : Cell → Env → Option Env} {tt : Env → Option (Bool × Env)} {te : Env → Option (Cell × Env)} {vs : List Nat} : ∀ {ds : List D} {ρ ρ0 : Env} {r : List D × Env}, ρ = wipeE ρ0 vs → lcL g tt te vs ds ρ = some r → ∃ ρ1, r.2 = wipeE ρ1 vs
  | [], ρ, ρ0, r, h, e => by
    cases (show some ([], ρ) = some r from e)
    exact ⟨ρ0, h⟩
  | d :: ds, ρ, ρ0, r, h, e => by
    obtain ⟨ρ1, e1, e⟩ := bnd (show (g (.val d) ρ).bind _ = some r from e)
    obtain ⟨⟨k, ρ2⟩, e2, e⟩ := bnd e
    split at e
    · obtain ⟨⟨c, ρ3⟩, e3, e⟩ := bnd e
      split at e
      · obtain ⟨r2, e4, e⟩ := bnd e
        cases e
        obtain ⟨ρ9, h9⟩ := lcL_wiped (r := r2) rfl e4
        exact ⟨ρ9, h9⟩
      · obtain ⟨r2, e4, e⟩ := bnd e
        cases e
        obtain ⟨ρ9, h9⟩ := lcL_wiped (r := r2) rfl e4
        exact ⟨ρ9, h9⟩
      · cases e
    · exact lcL_wiped rfl e
def dLc (it : Env → Option (List D × Env)) (g : Cell → Env → Option Env) (tt : Env → Option (Bool × Env)) (te : Env → Option (Cell × Env)) (vs : List Nat) : Env → Option (Cell × Env) := fun ρ =>
  (it ρ).bind fun p => (lcL g tt te vs p.1 (wipeE p.2 vs)).bind fun r => if r.1.length ≤ sizeLine then some (.own (.lst r.1), r.2) else none
/-- one turn of a comprehension: the element goes to the end of the list at Dd -/
theorem lc_turn {K : PySem.W.Frag} {G : Hp} {A : Nat → Option Addr} {g : Cell → Env → Option Env} {tt : Env → Option (Bool × Env)} {te : Env → Option (Cell × Env)} {vs vg : List Nat} {tg : TG} {t : TT} {u : TE}
    (sg : SndGv K vg tg g) (st : SndT K t tt) (se : SndE K u te) (hsub : ∀ j ∈ vg, j ∈ vs) {O F2 H2 H3 : Hp} {σ : L2.St} {ρ2 ρe : Env} {Dd : Addr} {acc : List V} {accd out rest : List D} {d : D} {ds : List D} {x : V} {Nx : Hp → Prop}
    (r2 : RE ⟨K, G, A⟩ (upd O Dd (.lst acc)) F2 H2 (wipe σ vs) ρ2) (ra : Rps K F2 acc accd) (res : Res K F2 H2 x H3 (.val d)) (e2 : lcL g tt te vs (d :: ds) ρ2 = some (rest, ρe)) (ho : accd ++ rest = out) (hn : out.length ≤ sizeLine)
    (nx : ∀ F4 H4 ρ4 acc' accd' rest', RE ⟨K, G, A⟩ (upd O Dd (.lst acc')) F4 H4 (wipe σ vs) ρ4 → Le F2 F4 → Rps K F4 acc' accd' → lcL g tt te vs ds ρ4 = some (rest', ρe) → accd' ++ rest' = out → (∃ ρ5, ρ4 = wipeE ρ5 vs) → Nx H4) :
    tg x (wipe σ vs) H3 fun σ2 H2 => wipe σ2 vs = wipe σ vs ∧ t σ2 H2 fun b H3 =>
      if b = true then u σ2 H3 fun y H4 => ∃ acc, H4 Dd = some (.lst acc) ∧ acc.length < sizeLine ∧ Nx (upd H4 Dd (.lst (acc ++ [y]))) else Nx H3 := by
  obtain ⟨ρ3, e3, e2⟩ := bnd (show (g (.val d) ρ2).bind _ = some (rest, ρe) from e2)
  obtain ⟨⟨k, ρ4⟩, e4, e2⟩ := bnd e2
  refine sg.item r2 res e3 fun F3 H4 σ3 r3 f3 z => ?_
  have hw : wipe σ3 vs = wipe σ vs := by
    rw [wipe_ext z.1 fun j hj => z.2 j fun m => hj (hsub j m)]
    exact wipe_wipe
  refine ⟨hw, ?_⟩
  refine st G A _ F3 H4 σ3 ρ3 k ρ4 _ r3 e4 fun F4 H5 r4 f4 => ?_
  cases k with
  | false =>
    have e2 : lcL g tt te vs ds (wipeE ρ4 vs) = some (rest, ρe) := e2
    show Nx H5
    exact nx F4 H5 _ acc accd rest (hw ▸ r4.wipe vs) (f3.trans f4) (ra.mono (f3.trans f4)) e2 ho ⟨ρ4, rfl⟩
  | true =>
    obtain ⟨⟨c, ρ5⟩, e5, e2⟩ := bnd (show (te ρ4).bind _ = some (rest, ρe) from e2)
    have fin : ∀ xd, (c = .val xd ∨ c = .own xd) → ((lcL g tt te vs ds (wipeE ρ5 vs)).bind fun r => some (xd :: r.1, r.2)) = some (rest, ρe) → u σ3 H5 fun y H4 => ∃ acc, H4 Dd = some (.lst acc) ∧ acc.length < sizeLine ∧ Nx (upd H4 Dd (.lst (acc ++ [y]))) := by
      intro xd hc e2
      obtain ⟨⟨rest', ρe'⟩, e6, e2⟩ := bnd e2
      cases e2
      refine se G A _ F4 H5 σ3 ρ4 c ρ5 _ r4 e5 fun F5 H6 y r5 f5 => ?_
      obtain ⟨F6, f6, r6, ry⟩ := r5.fz hc
      have hl : accd.length < sizeLine := by
        have : (accd ++ xd :: rest').length ≤ sizeLine := by rw [ho]; exact hn
        rw [List.length_append, List.length_cons] at this
        omega
      have ff : Le F2 F6 := f3.trans (f4.trans (f5.trans f6))
      refine ⟨acc, r6.oh Dd _ upd_same, by rw [ra.len]; exact hl, ?_⟩
      refine nx F6 _ (wipeE ρ5 vs) (acc ++ [y]) (accd ++ [xd]) rest' ?_ ff ((ra.mono ff).app (.cons ry .nil)) e6 (by rw [List.append_assoc]; exact ho) ⟨ρ5, rfl⟩
      have r7 := r6.reframe (o' := .lst (acc ++ [y]))
      exact hw ▸ r7.wipe vs
    split at e2
    · rename_i hc; exact fin _ (.inl hc) e2
    · rename_i hc; exact fin _ (.inr hc) e2
    · cases e2
/-! the canonical readings -/
def canE (K : PySem.W.Frag) (f : Env → Option (Cell × Env)) : TE := fun σ H Q => ∃ (G : Hp) (A : Nat → Option Addr) (O F : Hp) (ρ : Env) (c : Cell) (ρ' : Env), RE ⟨K, G, A⟩ O F H σ ρ ∧ f ρ = some (c, ρ') ∧ ∀ F' H' v, RE ⟨K, G, A⟩ O F' H' (some v :: σ) (some c :: ρ') → Le F F' → Q v H'
def canT (K : PySem.W.Frag) (f : Env → Option (Bool × Env)) : TT := fun σ H Q => ∃ (G : Hp) (A : Nat → Option Addr) (O F : Hp) (ρ : Env) (b : Bool) (ρ' : Env), RE ⟨K, G, A⟩ O F H σ ρ ∧ f ρ = some (b, ρ') ∧ ∀ F' H', RE ⟨K, G, A⟩ O F' H' σ ρ' → Le F F' → Q b H'
def canG (K : PySem.W.Frag) (vs : List Nat) (f : Cell → Env → Option Env) : TG := fun v σ H Q => ∃ (G : Hp) (A : Nat → Option Addr) (O F : Hp) (ρ : Env) (c : Cell) (ρ' : Env), RE ⟨K, G, A⟩ O F H (some v :: σ) (some c :: ρ) ∧ f c ρ = some ρ' ∧
  ∀ F' H' σ', RE ⟨K, G, A⟩ O F' H' σ' ρ' → Le F F' → (σ'.length = σ.length ∧ ∀ j, j ∉ vs → σ'[j]? = σ[j]?) → Q σ' H'
def canI (K : PySem.W.Frag) (f : Env → Option (List D × Env)) : TI := fun σ H R => ∃ (G : Hp) (A : Nat → Option Addr) (O F : Hp) (ρ : Env) (ds : List D) (ρ' : Env), RE ⟨K, G, A⟩ O F H σ ρ ∧ f ρ = some (ds, ρ') ∧
  ∀ F' H' J, RE ⟨K, G, A⟩ O F' H' σ ρ' → Le F F' → Wk K F' J ds → R J H'
section
variable {K : PySem.W.Frag}
theorem snd_canE {f : Env → Option (Cell × Env)} : SndE K (canE K f) f := fun G A O F H σ ρ c ρ' Q r e q => ⟨G, A, O, F, ρ, c, ρ', r, e, q⟩
theorem snd_canT {f : Env → Option (Bool × Env)} : SndT K (canT K f) f := fun G A O F H σ ρ c ρ' Q r e q => ⟨G, A, O, F, ρ, c, ρ', r, e, q⟩
theorem snd_canG {vs : List Nat} {f : Cell → Env → Option Env} : SndGv K vs (canG K vs f) f := fun G A O F H σ ρ c v ρ' Q r e q => ⟨G, A, O, F, ρ, c, ρ', r, e, q⟩
theorem snd_canI {f : Env → Option (List D × Env)} : SndI K (canI K f) f := fun G A O F H σ ρ ds ρ' Q r e q => ⟨G, A, O, F, ρ, ds, ρ', r, e, q⟩
end
theorem CE.can {X : Cx} {e : Expr} {f : Env → Option (Cell × Env)} (h : CE X e f) : PE X e (canE X.K f) := by
  obtain ⟨t, p, s⟩ := h
  exact ⟨fun pins sh σ H Q I ⟨G, A, O, F, ρ, c, ρ', r, e, q⟩ => p.run pins sh σ H Q I (s G A O F H σ ρ c ρ' Q r e q)⟩
theorem GE.can {X : Cx} {e : Expr} {vs : List Nat} {f : Cell → Env → Option Env} (h : GE X e vs f) : PG X e (canG X.K vs f) := by
  obtain ⟨t, p, s⟩ := h
  exact ⟨fun pins sh σ H v u Q I ru ⟨G, A, O, F, ρ, c, ρ', r, e, q⟩ => p.run pins sh σ H v u Q I ru (s G A O F H σ ρ c v ρ' Q r e q)⟩
theorem IE.can {X : Cx} {tg iter : Expr} {f : Env → Option (List D × Env)} (h : IE X tg iter f) : PI X tg iter (canI X.K f) := by
  obtain ⟨t, p, s⟩ := h
  exact ⟨fun pins sh σ H R I ⟨G, A, O, F, ρ, ds, ρ', r, e, q⟩ => p.run pins sh σ H R I (s G A O F H σ ρ ds ρ' R r e q)⟩
section
variable {X : Cx} {elt tg iter : Expr} {scope : Scope} {own : List (Str × Nat)} {pos : Pos}
def OT (X : Cx) (ifs : List Expr) (f : Env → Option (Bool × Env)) : Prop := ∃ t, PTs X ifs t ∧ SndT X.K t f
def tTrue : Env → Option (Bool × Env) := fun ρ => some (true, ρ)
theorem ot_nil : OT X [] tTrue := ⟨_, pts_nil, fun G A O F H σ ρ b ρ' Q r e q => by cases e; exact q F H r (Le.refl F)⟩
theorem ot_one {c : Expr} {f : Env → Option (Bool × Env)} (h : CT X c f) : OT X [c] f := let ⟨_, p, s⟩ := h; ⟨_, pts_one p, s⟩
theorem OT.can {X : Cx} {ifs : List Expr} {f : Env → Option (Bool × Env)} (h : OT X ifs f) : PTs X ifs (canT X.K f) := by
  obtain ⟨t, p, s⟩ := h
  exact ⟨fun pins sh σ H Q I ⟨G, A, O, F, ρ, b, ρ', r, e, q⟩ => p.run pins sh σ H Q I (s G A O F H σ ρ b ρ' Q r e q)⟩
theorem snd_lc {K : PySem.W.Frag} {w : TI} {t : TG} {tt' : TT} {u : TE} {it : Env → Option (List D × Env)} {g : Cell → Env → Option Env} {tt : Env → Option (Bool × Env)} {te : Env → Option (Cell × Env)} {vs vg : List Nat}
    (si : SndI K w it) (sg : SndGv K vg t g) (st : SndT K tt' tt) (se : SndE K u te) (hsub : ∀ j ∈ vg, j ∈ vs) : SndE K (tLc w t tt' u vs) (dLc it g tt te vs) := fun G A O F H σ ρ c ρ' Q r e q => by
  obtain ⟨⟨ds, ρ1⟩, e1, e⟩ := bnd e
  obtain ⟨⟨out, ρe⟩, e2, e⟩ := bnd e
  split at e
  · rename_i hn
    cases e
    refine si G A O F H σ ρ _ _ _ r e1 fun F1 H1 J r1 f1 wk => ?_
    intro Dd hD
    obtain ⟨Gd, Y, wlk, hG, hY⟩ := wk
    refine lc_it wlk (fun i H2 => ∃ F2 ρ2 acc accd rest, RE ⟨K, G, A⟩ (upd O Dd (.lst acc)) F2 H2 (wipe σ vs) ρ2 ∧ Le F1 F2 ∧ Rps K F2 acc accd ∧ lcL g tt te vs (ds.drop i) ρ2 = some (rest, ρe) ∧ accd ++ rest = out ∧ ∃ ρ5, ρ2 = wipeE ρ5 vs)
      ⟨F1, _, [], [], out, (r1.frame (o := .lst []) hD).wipe vs, Le.refl F1, .nil, by simpa using e2, rfl, ρ1, rfl⟩ (fun i H2 _ ⟨F2, ρ2, acc, accd, rest, r2, f2, _⟩ => hG F2 H2 f2 r2.fh) ?_ ?_
    · rintro i x H2 H3 hlt ⟨F2, ρ2, acc, accd, rest, r2, f2, ra, e3, ho, _⟩ y
      obtain ⟨d, hd, res⟩ := hY i F2 H2 x H3 hlt f2 r2.fh y
      rw [drop_cons hd] at e3
      exact lc_turn sg st se hsub r2 ra res e3 ho hn fun F4 H4 ρ4 acc' accd' rest' r4 f4 ra' e4 ho' hw => ⟨F4, ρ4, acc', accd', rest', r4, f2.trans f4, ra', e4, ho', hw⟩
    · rintro H2 ⟨F2, ρ2, acc, accd, rest, r2, f2, ra, e3, ho, ρ5, hw⟩
      rw [List.drop_length] at e3
      cases (show some (([] : List D), ρ2) = some (rest, ρe) from e3)
      rw [List.append_nil] at ho
      subst ho
      subst hw
      have oD : O Dd = none := r1.oh.back hD
      have r3 := (r2.unwipe).unframe oD (.lst ra hn)
      exact q F2 H2 _ r3 (f1.trans f2)
  · cases e
theorem ce_lc {it : Env → Option (List D × Env)} {ifs : List Expr} {g : Cell → Env → Option Env} {tt : Env → Option (Bool × Env)} {te : Env → Option (Cell × Env)} {vg : List Nat} (own : List (Str × Nat)) (hc : X.calm = true) (hN : X.N.Nodup) (hi : IE X tg iter it) (ok : BlkOk X.N X.env.scope scope own)
    (hg : ∀ (s : Shared) (H : Hp) (C : Addr) (cl : List (Str × Addr)) (fp : List Addr), GE (X.blk s H scope (compEnvC scope cl C X.env) fp) tg vg g) (ht : ∀ (s : Shared) (H : Hp) (C : Addr) (cl : List (Str × Addr)) (fp : List Addr), OT (X.blk s H scope (compEnvC scope cl C X.env) fp) ifs tt)
    (he : ∀ (s : Shared) (H : Hp) (C : Addr) (cl : List (Str × Addr)) (fp : List Addr), CE (X.blk s H scope (compEnvC scope cl C X.env) fp) elt te)
    (hsub : ∀ j ∈ vg, j ∈ own.map (·.2) := by decide) (hs : ∀ x, foldedSetIterable iter X.env x = pure x := by intro _; rfl) : CE X (.ListComp elt [⟨tg, iter, ifs, 0⟩] scope pos) (dLc it g tt te (own.map (·.2))) := by
  obtain ⟨w, pi, si⟩ := hi
  exact ⟨_, pe_lc hc hN pi ok (fun s H C cl fp => (hg s H C cl fp).can) (fun s H C cl fp => (ht s H C cl fp).can) (fun s H C cl fp => (he s H C cl fp).can) hs, snd_lc si snd_canG snd_canT snd_canE hsub⟩
end
end Q
end
section
set_option maxHeartbeats 1000000
namespace Q
open PySem PySem.Spec PyProof.Rows L2
/-! ### calls: what is handed, what comes back -/
def argCs : List Hd → Env → Option (List Cell × List Nat)
  | [], _ => some ([], [])
  | .inl d :: t, ρ => (argCs t ρ).bind fun p => some (.val d :: p.1, p.2)
  | .inr i :: t, ρ => (argCs t ρ).bind fun p => match ρ[i]? with
    | some (some (.own d)) => if i ∈ p.2 then none else some (.own d :: p.1, i :: p.2)
    | some (some (.par _ d)) => if i ∈ p.2 then none else some (.own d :: p.1, i :: p.2)
    | some (some (.val d)) => some (.val d :: p.1, p.2)
    | some (some (.old d)) => some (.val d :: p.1, p.2)
    | some (some (.lent d)) => some (.val d :: p.1, p.2)
    | _ => none
def wb : List Hd → List Cell → Env → Option Env
  | [], [], ρ => some ρ
  | .inl _ :: t, _ :: cs, ρ => wb t cs ρ
  | .inr i :: t, c :: cs, ρ => (wb t cs ρ).bind fun ρ1 => match ρ[i]?, c with
    | some (some (.own _)), .own d => some (ρ1.set i (some (.own d)))
    | some (some (.par j _)), .own d => some (ρ1.set i (some (.par j d)))
    | some (some (.own _)), _ => none
    | some (some (.par _ _)), _ => none
    | _, _ => some ρ1
  | _, _, _ => none
abbrev Fn := List Cell → Option (Cell × List Cell)
def A0 : Nat → Option Addr := fun _ => none
def spF (K : PySem.W.Frag) (n : Nat) (φ : Fn) : Sp := fun vs H Q E => vs.length = n ∧ ∃ (O F : Hp) (cs : List Cell) (c : Cell) (cs' : List Cell), RE ⟨K, F, A0⟩ O F H (vs.map some) (cs.map some) ∧ φ cs = some (c, cs') ∧
  (c.isOwn = true → ∃ d, c = .own d) ∧ ∀ F' H' v, RE ⟨K, F, A0⟩ O F' H' (some v :: vs.map some) (some c :: cs'.map some) → Le F F' → Q v H'

section
variable {K : PySem.W.Frag} {G : Hp} {A A' : Nat → Option Addr} {O O' F H : Hp} {σ : L2.St} {ρ : Env}
theorem map_get {α β : Type} {f : α → β} {l : List α} {i : Nat} {b : β} (h : (l.map f)[i]? = some b) : ∃ a, l[i]? = some a ∧ f a = b := by
  rw [List.getElem?_map] at h
  cases e : l[i]? with
  | none => rw [e] at h; cases h
  | some a => rw [e] at h; exact ⟨a, rfl, Option.some.inj h⟩
theorem own_tail {v : V} {c : Cell} {vs : List V} {cs : List Cell} {k : Nat} {a : Addr} (h : Own ((v :: vs).map some) ((c :: cs).map some) (k + 1) a) : Own (vs.map some) (cs.map some) k a := by
  obtain ⟨h1, c1, h2, h3⟩ := h
  exact ⟨by simpa using h1, c1, by simpa using h2, h3⟩
theorem own_at {i : Nat} {a : Addr} {v : V} {c : Cell} (hi : ρ[i]? = some (some c)) (hv : σ[i]? = some (some v)) (co : c.isOwn = true) (hva : v = .ref a) : Own σ ρ i a := ⟨hva ▸ hv, c, hi, co⟩
/-- the arguments, as a callee sees them -/
theorem args_re (r : RE ⟨K, G, A⟩ O F H σ ρ) (ho : Ex O' H) (hof : ∀ a o, O' a = some o → F a = none) : ∀ {vs : List V} {hs : List Hd} {cs : List Cell} {ps : List Nat}, HdRs K F σ vs hs → argCs hs ρ = some (cs, ps) →
    (∀ i ∈ ps, ∀ a, Own σ ρ i a → O' a = none) → RE ⟨K, F, A0⟩ O' F H (vs.map some) (cs.map some) ∧ (∀ k a, Own (vs.map some) (cs.map some) k a → ∃ i, i ∈ ps ∧ hs[k]? = some (.inr i) ∧ Own σ ρ i a)
  | _, _, cs, ps, .nil, e, hn => by
    cases (show some (([] : List Cell), ([] : List Nat)) = some (cs, ps) from e)
    refine ⟨⟨r.fh, ho, Le.refl F, hof, rfl, fun i c e => ?_, fun i j a o => ?_, fun i a o => ?_⟩, fun k a o => ?_⟩
    · simp at e
    · obtain ⟨_, _, h, _⟩ := o; simp at h
    · obtain ⟨_, _, h, _⟩ := o; simp at h
    · obtain ⟨_, _, h, _⟩ := o; simp at h
  | _, _, cs, ps, .cons (v := v) (h := h) (vs := vs) (hs := hs) hv t, e, hn => by
    cases h with
    | inl d =>
      obtain ⟨⟨cs1, ps1⟩, e1, e2⟩ := bnd (show (argCs hs ρ).bind _ = some (cs, ps) from e)
      cases e2
      obtain ⟨r1, o1⟩ := args_re r ho hof t e1 hn
      refine ⟨r1.pushV (d := d) hv, fun k a o => ?_⟩
      cases k with
      | zero => obtain ⟨_, c, h, z⟩ := o; simp at h; subst h; cases z
      | succ k =>
        obtain ⟨i, m1, m2, m3⟩ := o1 k a (own_tail o)
        exact ⟨i, m1, by simpa using m2, m3⟩
    | inr i =>
      obtain ⟨⟨cs1, ps1⟩, e1, e2⟩ := bnd (show (argCs hs ρ).bind _ = some (cs, ps) from e)
      have hv : σ[i]? = some (some v) := hv
      have vl : ∀ d, Rp K F v d → cs = .val d :: cs1 → ps = ps1 → RE ⟨K, F, A0⟩ O' F H ((v :: vs).map some) (cs.map some) ∧ (∀ k a, Own ((v :: vs).map some) (cs.map some) k a → ∃ i', i' ∈ ps ∧ (Sum.inr i :: hs)[k]? = some (.inr i') ∧ Own σ ρ i' a) := by
        intro d hd hc hp
        subst hc hp
        obtain ⟨r1, o1⟩ := args_re r ho hof t e1 hn
        refine ⟨r1.pushV (d := d) hd, fun k a o => ?_⟩
        cases k with
        | zero => obtain ⟨_, c, h, z⟩ := o; simp at h; subst h; cases z
        | succ k =>
          obtain ⟨i', m1, m2, m3⟩ := o1 k a (own_tail o)
          exact ⟨i', m1, by simpa using m2, m3⟩
      have ow : ∀ (c0 : Cell), ρ[i]? = some (some c0) → c0.isOwn = true → cs = .own c0.d :: cs1 → i ∉ ps1 → ps = i :: ps1 → RE ⟨K, F, A0⟩ O' F H ((v :: vs).map some) (cs.map some) ∧ (∀ k a, Own ((v :: vs).map some) (cs.map some) k a → ∃ i', i' ∈ ps ∧ (Sum.inr i :: hs)[k]? = some (.inr i') ∧ Own σ ρ i' a) := by
        intro c0 hc0 co hc ni hp
        subst hc hp
        obtain ⟨r1, o1⟩ := args_re r ho hof t e1 fun q hq => hn q (List.mem_cons_of_mem _ hq)
        obtain ⟨v', ev, hcr⟩ := r.at_ i c0 hc0
        rw [hv] at ev; cases ev
        obtain ⟨b, u, rfl, hb, ro, fb⟩ := hcr.obj co
        have oi : Own σ ρ i b := ⟨hv, c0, hc0, co⟩
        refine ⟨r1.push (c := .own c0.d) ⟨b, u, rfl, hb, ro, fb⟩ fun _ a ea => ?_, fun k a o => ?_⟩
        · cases ea
          refine ⟨hn i List.mem_cons_self b oi, fun k o => ?_⟩
          obtain ⟨q, m1, _, m3⟩ := o1 k b o
          exact ni (r.inj q i b m3 oi ▸ m1)
        · cases k with
          | zero =>
            obtain ⟨h1, c, h, z⟩ := o
            simp at h1
            subst h1
            exact ⟨i, List.mem_cons_self, rfl, oi⟩
          | succ k =>
            obtain ⟨i', m1, m2, m3⟩ := o1 k a (own_tail o)
            exact ⟨i', List.mem_cons_of_mem _ m1, by simpa using m2, m3⟩
      split at e2
      · rename_i d hd
        split at e2
        · cases e2
        · rename_i ni; cases e2; exact ow _ hd rfl rfl ni rfl
      · rename_i j d hd
        split at e2
        · cases e2
        · rename_i ni; cases e2; exact ow _ hd rfl rfl ni rfl
      · rename_i d hd
        cases e2
        obtain ⟨v', ev, hc⟩ := r.at_ i _ hd
        rw [hv] at ev; cases ev
        exact vl d hc rfl rfl
      · rename_i d hd
        cases e2
        obtain ⟨v', ev, hc⟩ := r.at_ i _ hd
        rw [hv] at ev; cases ev
        exact vl d (Rp.mono r.gf hc) rfl rfl
      · rename_i d hd
        cases e2
        obtain ⟨v', ev, hc⟩ := r.at_ i _ hd
        rw [hv] at ev; cases ev
        obtain ⟨a, xs, rfl, e2, ro, _⟩ := hc
        exact vl d ((ro.mono r.gf).froz e2) rfl rfl
      · cases e2
/-- what is written back -/
theorem wb_at : ∀ {hs : List Hd} {cs cs' : List Cell} {ps : List Nat} {ρ ρ' : Env}, argCs hs ρ = some (cs, ps) → wb hs cs' ρ = some ρ' → ρ'.length = ρ.length ∧ ∀ i, (ρ'[i]? = ρ[i]? ∧ i ∉ ps) ∨
    (i ∈ ps ∧ ∃ (k : Nat) (d : D), hs[k]? = some (.inr i) ∧ cs'[k]? = some (.own d) ∧ ((∃ d0, ρ[i]? = some (some (.own d0)) ∧ ρ'[i]? = some (some (.own d))) ∨ ∃ j d0, ρ[i]? = some (some (.par j d0)) ∧ ρ'[i]? = some (some (.par j d))))
  | [], cs, [], ps, ρ, ρ', e, h => by
    cases (show some (([] : List Cell), ([] : List Nat)) = some (cs, ps) from e)
    cases (show some ρ = some ρ' from h)
    exact ⟨rfl, fun i => .inl ⟨rfl, by simp⟩⟩
  | [], cs, _ :: _, ps, ρ, ρ', e, h => by cases h
  | .inl d :: t, cs, [], ps, ρ, ρ', e, h => by cases h
  | .inr i :: t, cs, [], ps, ρ, ρ', e, h => by cases h
  | .inl d :: t, cs, c' :: cs', ps, ρ, ρ', e, h => by
    obtain ⟨⟨cs1, ps1⟩, e1, e2⟩ := bnd (show (argCs t ρ).bind _ = some (cs, ps) from e)
    cases e2
    obtain ⟨hl, hw⟩ := wb_at e1 (show wb t cs' ρ = some ρ' from h)
    refine ⟨hl, fun i => ?_⟩
    rcases hw i with hw | ⟨m, k, d', h1, h2, h3⟩
    · exact .inl hw
    · exact .inr ⟨m, k + 1, d', by simpa using h1, by simpa using h2, h3⟩
  | .inr i :: t, cs, c' :: cs', ps, ρ, ρ', e, h => by
    obtain ⟨⟨cs1, ps1⟩, e1, e2⟩ := bnd (show (argCs t ρ).bind _ = some (cs, ps) from e)
    obtain ⟨ρ1, h1, h2⟩ := bnd (show (wb t cs' ρ).bind _ = some ρ' from h)
    obtain ⟨hl, hw⟩ := wb_at e1 h1
    have vl : ps = ps1 → ρ' = ρ1 → ρ'.length = ρ.length ∧ ∀ i', (ρ'[i']? = ρ[i']? ∧ i' ∉ ps) ∨ (i' ∈ ps ∧ ∃ (k : Nat) (d : D), (Sum.inr i :: t)[k]? = some (.inr i') ∧ (c' :: cs')[k]? = some (.own d) ∧ ((∃ d0, ρ[i']? = some (some (.own d0)) ∧ ρ'[i']? = some (some (.own d))) ∨ ∃ j d0, ρ[i']? = some (some (.par j d0)) ∧ ρ'[i']? = some (some (.par j d)))) := by
      intro hp hr
      subst hp hr
      refine ⟨hl, fun i' => ?_⟩
      rcases hw i' with hw | ⟨m, k, d', h1, h2, h3⟩
      · exact .inl hw
      · exact .inr ⟨m, k + 1, d', by simpa using h1, by simpa using h2, h3⟩
    have ow : ∀ (c0 c1 : Cell) (d : D), ρ[i]? = some (some c0) → i ∉ ps1 → ps = i :: ps1 → c' = .own d → ρ' = ρ1.set i (some c1) → ((∃ d0, c0 = .own d0 ∧ c1 = .own d) ∨ ∃ j d0, c0 = .par j d0 ∧ c1 = .par j d) → ρ'.length = ρ.length ∧ ∀ i', (ρ'[i']? = ρ[i']? ∧ i' ∉ ps) ∨ (i' ∈ ps ∧ ∃ (k : Nat) (d : D), (Sum.inr i :: t)[k]? = some (.inr i') ∧ (c' :: cs')[k]? = some (.own d) ∧ ((∃ d0, ρ[i']? = some (some (.own d0)) ∧ ρ'[i']? = some (some (.own d))) ∨ ∃ j d0, ρ[i']? = some (some (.par j d0)) ∧ ρ'[i']? = some (some (.par j d)))) := by
      intro c0 c1 d hc0 ni hp hc' hr hk
      subst hp hc' hr
      refine ⟨by simpa using hl, fun i' => ?_⟩
      have il : i < ρ.length := (List.getElem?_eq_some_iff.mp hc0).1
      by_cases hi : i = i'
      · subst hi
        refine .inr ⟨List.mem_cons_self, 0, d, rfl, rfl, ?_⟩
        have e9 : (ρ1.set i (some c1))[i]? = some (some c1) := by rw [getElem?_setS, if_pos rfl, if_pos (by omega)]
        rw [e9]
        rcases hk with ⟨d0, z1, z2⟩ | ⟨j, d0, z1, z2⟩
        · exact .inl ⟨d0, z1 ▸ hc0, by rw [z2]⟩
        · exact .inr ⟨j, d0, z1 ▸ hc0, by rw [z2]⟩
      · have e9 : (ρ1.set i (some c1))[i']? = ρ1[i']? := by rw [getElem?_setS, if_neg hi]
        rw [e9]
        rcases hw i' with ⟨hw, nm⟩ | ⟨m, k, d', h1, h2, h3⟩
        · exact .inl ⟨hw, fun z => by rcases List.mem_cons.mp z with z | z; exact hi z.symm; exact nm z⟩
        · exact .inr ⟨List.mem_cons_of_mem _ m, k + 1, d', by simpa using h1, by simpa using h2, h3⟩
    split at e2
    · rename_i d0 hd
      split at e2
      · cases e2
      · rename_i ni
        cases e2
        rw [hd] at h2
        cases c' with
        | own d => cases h2; exact ow _ _ d hd ni rfl rfl rfl (.inl ⟨_, rfl, rfl⟩)
        | _ => cases h2
    · rename_i j d0 hd
      split at e2
      · cases e2
      · rename_i ni
        cases e2
        rw [hd] at h2
        cases c' with
        | own d => cases h2; exact ow _ _ d hd ni rfl rfl rfl (.inr ⟨_, _, rfl, rfl⟩)
        | _ => cases h2
    · rename_i d hd
      cases e2
      rw [hd] at h2
      exact vl rfl (by cases c' <;> exact (Option.some.inj h2).symm)
    · rename_i d hd
      cases e2
      rw [hd] at h2
      exact vl rfl (by cases c' <;> exact (Option.some.inj h2).symm)
    · rename_i d hd
      cases e2
      rw [hd] at h2
      exact vl rfl (by cases c' <;> exact (Option.some.inj h2).symm)
    · cases e2
end
/-- a call, at the data -/
def dApp (φ : Fn) (hs : List Hd) (ρ : Env) : Option (Cell × Env) := (argCs hs ρ).bind fun p => (φ p.1).bind fun q => match q.1 with
  | .val d => (wb hs q.2 ρ).bind fun ρ' => some (.val d, ρ')
  | .own d => (wb hs q.2 ρ).bind fun ρ' => some (.own d, ρ')
  | _ => none
theorem dApp_in {φ : Fn} {hs : List Hd} {ρ ρ' : Env} {c : Cell} (h : dApp φ hs ρ = some (c, ρ')) : ∃ cs ps cs', argCs hs ρ = some (cs, ps) ∧ φ cs = some (c, cs') ∧ wb hs cs' ρ = some ρ' ∧ ((∃ d, c = .val d) ∨ ∃ d, c = .own d) := by
  obtain ⟨⟨cs, ps⟩, e1, h⟩ := bnd h
  obtain ⟨⟨c1, cs'⟩, e2, h⟩ := bnd h
  cases c1 with
  | val d => obtain ⟨ρ1, e3, h⟩ := bnd h; cases h; exact ⟨cs, ps, cs', e1, e2, e3, .inl ⟨d, rfl⟩⟩
  | own d => obtain ⟨ρ1, e3, h⟩ := bnd h; cases h; exact ⟨cs, ps, cs', e1, e2, e3, .inr ⟨d, rfl⟩⟩
  | _ => cases h
open Classical in
theorem app_ok {K : PySem.W.Frag} {G : Hp} {A : Nat → Option Addr} {O F H : Hp} {σ : L2.St} {ρ ρ' : Env} {vs : List V} {hs : List Hd} {φ : Fn} {c : Cell} {n : Nat} {Q : VK} {E : XK} (r : RE ⟨K, G, A⟩ O F H σ ρ) (hv : HdRs K F σ vs hs) (e : dApp φ hs ρ = some (c, ρ')) (hn : vs.length = n)
    (q : ∀ F' H' v, RE ⟨K, G, A⟩ O F' H' (some v :: σ) (some c :: ρ') → Le F F' → Q v H') : spF K n φ vs H Q E := by
  obtain ⟨cs, ps, cs', e1, e2, e3, hc⟩ := dApp_in e
  let O' : Hp := fun a => if ∃ i, Own σ ρ i a ∧ i ∉ ps then H a else O a
  have O'1 : ∀ a i, Own σ ρ i a → i ∉ ps → O' a = H a := fun a i o n => if_pos ⟨i, o, n⟩
  have O'2 : ∀ a, (¬ ∃ i, Own σ ρ i a ∧ i ∉ ps) → O' a = O a := fun a n => if_neg n
  have oO : ∀ a o, O a = some o → O' a = some o := fun a o h => by
    rw [O'2 a]; exact h
    rintro ⟨i, oi, _⟩
    rw [r.no i a oi] at h; cases h
  have ho : Ex O' H := fun a o h => by
    by_cases z : ∃ i, Own σ ρ i a ∧ i ∉ ps
    · obtain ⟨i, z1, z2⟩ := z; rw [O'1 a i z1 z2] at h; exact h
    · rw [O'2 a z] at h; exact r.oh a o h
  have hof : ∀ a o, O' a = some o → F a = none := fun a o h => by
    by_cases z : ∃ i, Own σ ρ i a ∧ i ∉ ps
    · obtain ⟨i, z1, z2⟩ := z; exact (r.own_some z1).elim fun _ y => y.2
    · rw [O'2 a z] at h; exact r.of_ a o h
  obtain ⟨ra, oa⟩ := args_re (O' := O') r ho hof hv e1 fun i hi a o => by
    rw [O'2 a]; exact r.no i a o
    rintro ⟨j, oj, nj⟩
    exact nj (r.inj i j a o oj ▸ hi)
  refine ⟨hn, O', F, cs, c, cs', ra, e2, ?_, fun F' H' v rr ff => q F' H' v ?_ ff⟩
  · rintro z
    rcases hc with ⟨d, rfl⟩ | ⟨d, rfl⟩
    · cases z
    · exact ⟨d, rfl⟩
  obtain ⟨hl, hw⟩ := wb_at e1 e3
  have lh : vs.length = hs.length := by
    clear e e1 e3 oa hw hl rr ra q hn
    induction hv with
    | nil => rfl
    | cons _ _ ih => simp [ih]
  -- a passed slot's address
  have passed : ∀ (i : Nat) (k : Nat) (d : D), hs[k]? = some (.inr i) → cs'[k]? = some (.own d) → ∃ a u, σ[i]? = some (some (.ref a)) ∧ vs[k]? = some (.ref a) ∧ H' a = some u ∧ RO K F' u d ∧ F' a = none ∧ Own (some v :: vs.map some) (some c :: cs'.map some) (k + 1) a := by
    intro i k d h1 h2
    have hk : ∃ v1, vs[k]? = some v1 ∧ HdR K F σ v1 (.inr i) := by
      clear e e1 e3 oa hw hl rr ra q hn lh h2
      induction hv generalizing k with
      | nil => simp at h1
      | cons hh _ ih => cases k with
        | zero => simp at h1; subst h1; exact ⟨_, rfl, hh⟩
        | succ k => exact ih k (by simpa using h1)
    obtain ⟨v1, hv1, hs1⟩ := hk
    obtain ⟨v2, ev, a, u, e4, e5, ro, fa⟩ := rr.at_ (k + 1) (.own d) (by simp [h2])
    have : some (some v1) = some (some v2) := by rw [← ev]; simp [hv1]
    cases this
    subst e4
    exact ⟨a, u, hs1, hv1, e5, ro, fa, by simpa using hv1, .own d, by simp [h2], rfl⟩
  have keep : ∀ i a, Own σ ρ i a → i ∉ ps → ∃ u, H a = some u ∧ H' a = some u ∧ F' a = none ∧ O' a = some u := fun i a o ni => by
    obtain ⟨u, hu, _⟩ := r.own_some o
    have h := O'1 a i o ni
    rw [hu] at h
    exact ⟨u, hu, rr.oh a u h, rr.of_ a u h, h⟩
  have kind : ∀ (i : Nat) (c' : Cell), ρ'[i]? = some (some c') → ∃ c0 : Cell, ρ[i]? = some (some c0) ∧ c0.isOwn = c'.isOwn := fun i c' h => by
    rcases hw i with ⟨h1, _⟩ | ⟨_, k, d, _, _, (⟨d0, h3, h4⟩ | ⟨j, d0, h3, h4⟩)⟩
    · rw [h] at h1; exact ⟨c', h1.symm, rfl⟩
    · rw [h] at h4; cases h4; exact ⟨_, h3, rfl⟩
    · rw [h] at h4; cases h4; exact ⟨_, h3, rfl⟩
  have ow : ∀ {i a}, Own σ ρ' i a → Own σ ρ i a := fun {i a} ⟨h1, c1, h2, h3⟩ => by
    obtain ⟨c0, h4, h5⟩ := kind i c1 h2
    exact ⟨h1, c0, h4, h5.trans h3⟩
  have owS : ∀ {i a}, Own (some v :: σ) (some c :: ρ') (i + 1) a → Own σ ρ i a := fun {i a} ⟨h1, c1, h2, h3⟩ => ow ⟨by simpa using h1, c1, by simpa using h2, h3⟩
  have own0 : ∀ {a}, Own (some v :: σ) (some c :: ρ') 0 a → Own (some v :: vs.map some) (some c :: cs'.map some) 0 a := fun {a} ⟨h1, c1, h2, h3⟩ => ⟨by simpa using h1, c1, by simpa using h2, h3⟩
  have clash : ∀ {i a}, Own (some v :: σ) (some c :: ρ') 0 a → Own σ ρ i a → False := fun {i a} o0 oi => by
    have o0' := own0 o0
    by_cases hi : i ∈ ps
    · rcases hw i with ⟨_, ni⟩ | ⟨_, k, d, h1, h2, _⟩
      · exact ni hi
      · obtain ⟨b, u, s1, s2, _, _, _, ob⟩ := passed i k d h1 h2
        obtain ⟨oi1, _⟩ := oi
        rw [oi1] at s1
        cases s1
        exact absurd (rr.inj 0 (k + 1) _ o0' ob) (by omega)
    · obtain ⟨u, _, _, _, hO⟩ := keep i a oi hi
      rw [rr.no 0 a o0'] at hO; cases hO
  refine ⟨rr.fh, fun a o h => rr.oh a o (oO a o h), r.gf.trans ff, fun a o h => rr.of_ a o (oO a o h), by simp [hl, r.len], fun i c' h => ?_, fun i j a oi oj => ?_, fun i a o => ?_⟩
  · cases i with
    | zero =>
      simp at h
      subst h
      obtain ⟨v1, ev, hcr⟩ := rr.at_ 0 c rfl
      cases ev
      refine ⟨v, rfl, ?_⟩
      rcases hc with ⟨d, rfl⟩ | ⟨d, rfl⟩
      · exact hcr
      · exact hcr
    | succ i =>
      have h : ρ'[i]? = some (some c') := by simpa using h
      rcases hw i with ⟨h1, ni⟩ | ⟨_, k, d, h1, h2, h3⟩
      · rw [h] at h1
        obtain ⟨v1, ev, hcr⟩ := r.at_ i c' h1.symm
        refine ⟨v1, by simpa using ev, ?_⟩
        cases c' with
        | val d => exact Rp.mono ff hcr
        | old d => exact hcr
        | own d =>
          obtain ⟨a, u, e4, e5, ro, fa⟩ := hcr
          obtain ⟨u', k1, k2, k3, _⟩ := keep i a (own_at h1.symm ev rfl e4) ni
          rw [e5] at k1; cases k1
          exact ⟨a, u, e4, k2, ro.mono ff, k3⟩
        | par j d =>
          obtain ⟨a, u, e4, e6, e5, ro, fa⟩ := hcr
          obtain ⟨u', k1, k2, k3, _⟩ := keep i a (own_at h1.symm ev rfl e4) ni
          rw [e5] at k1; cases k1
          exact ⟨a, u, e4, e6, k2, ro.mono ff, k3⟩
        | lent d =>
          obtain ⟨a, xs, e4, e5, ro, nG⟩ := hcr
          exact ⟨a, xs, e4, ff.at rfl e5, ro, nG⟩
      · obtain ⟨a, u, s1, s2, s3, ro, fa, _⟩ := passed i k d h1 h2
        refine ⟨.ref a, by simpa using s1, ?_⟩
        rcases h3 with ⟨d0, h4, h5⟩ | ⟨j, d0, h4, h5⟩
        · rw [h] at h5; cases h5
          exact ⟨a, u, rfl, s3, ro, fa⟩
        · rw [h] at h5; cases h5
          obtain ⟨v1, ev, a1, u1, e4, e6, _⟩ := r.at_ i _ h4
          rw [s1] at ev; cases ev; cases e4
          exact ⟨a, u, rfl, e6, s3, ro, fa⟩
  · cases i with
    | zero => cases j with
      | zero => rfl
      | succ j => exact (clash oi (owS oj)).elim
    | succ i => cases j with
      | zero => exact (clash oj (owS oi)).elim
      | succ j => rw [r.inj i j a (owS oi) (owS oj)]
  · cases i with
    | zero =>
      have h := rr.no 0 a (own0 o)
      cases q9 : O a with
      | none => rfl
      | some u => rw [oO a u q9] at h; cases h
    | succ i => exact r.no i a (owS o)
end Q
end
section
set_option maxHeartbeats 1000000
namespace Q
open PySem PySem.Spec PyProof.Rows L2
/-! ### a def's body -/
def parm : Nat → List Cell → Env
  | _, [] => []
  | j, .own d :: t => some (.par j d) :: parm (j + 1) t
  | j, c :: t => some c :: parm (j + 1) t
def outs : Nat → List Cell → Env → Option (List Cell)
  | _, [], _ => some []
  | j, .own _ :: t, x :: ρ => match x with
    | some (.par j' d) => if j' = j then (outs (j + 1) t ρ).bind fun r => some (.own d :: r) else none
    | _ => none
  | j, c :: t, _ :: ρ => (outs (j + 1) t ρ).bind fun r => some (c :: r)
  | _, _ :: _, [] => none
def fnD (N : Nat) (g : Env → Option Out) : Fn := fun cs => (g (parm 0 cs ++ List.replicate (N - cs.length) none)).bind fun o => match o with
  | .rt (.val d) ρ => (outs 0 cs ρ).bind fun r => some (.val d, r)
  | .rt (.own d) ρ => (outs 0 cs ρ).bind fun r => some (.own d, r)
  | .nx ρ => (outs 0 cs ρ).bind fun r => some (.val .non, r)
  | _ => none
theorem parm_len : ∀ {j : Nat} {cs : List Cell}, (parm j cs).length = cs.length
  | _, [] => rfl
  | j, c :: t => by cases c <;> simp [parm, parm_len (j := j + 1) (cs := t)]
theorem parm_get : ∀ {j : Nat} {cs : List Cell} {i : Nat} {x : Option Cell}, (parm j cs)[i]? = some x → ∃ c0 : Cell, cs[i]? = some c0 ∧ ((∃ d, c0 = .own d ∧ x = some (.par (j + i) d)) ∨ (x = some c0 ∧ ∀ d, c0 ≠ .own d))
  | j, [], i, x, h => by simp [parm] at h
  | j, c :: t, 0, x, h => by
    cases c with
    | own d => simp [parm] at h; exact ⟨_, rfl, .inl ⟨d, rfl, by simpa using h.symm⟩⟩
    | _ => simp [parm] at h; exact ⟨_, rfl, .inr ⟨h.symm, by simp⟩⟩
  | j, c :: t, i + 1, x, h => by
    have h : (parm (j + 1) t)[i]? = some x := by cases c <;> simpa [parm] using h
    obtain ⟨c0, h1, h2⟩ := parm_get h
    refine ⟨c0, by simpa using h1, ?_⟩
    rcases h2 with ⟨d, e1, e2⟩ | h2
    · exact .inl ⟨d, e1, by rw [e2]; congr 2; omega⟩
    · exact .inr h2
theorem outs_at : ∀ {j : Nat} {cs cs' : List Cell} {ρ : Env}, outs j cs ρ = some cs' → cs'.length = cs.length ∧ ∀ (i : Nat) (c' : Cell), cs'[i]? = some c' →
    (∃ d, c' = .own d ∧ ρ[i]? = some (some (.par (j + i) d))) ∨ (cs[i]? = some c' ∧ ∀ d, c' ≠ .own d)
  | j, [], cs', ρ, h => by
    cases (show some ([] : List Cell) = some cs' from by cases ρ <;> exact h)
    exact ⟨rfl, fun i c' h => by simp at h⟩
  | j, c :: t, cs', [], h => by cases c <;> cases h
  | j, c :: t, cs', x :: ρ, h => by
    have nx : ∀ r, outs (j + 1) t ρ = some r → cs' = c :: r → (∀ d, c ≠ .own d) → cs'.length = (c :: t).length ∧ ∀ (i : Nat) (c' : Cell), cs'[i]? = some c' →
        (∃ d, c' = .own d ∧ (x :: ρ)[i]? = some (some (.par (j + i) d))) ∨ ((c :: t)[i]? = some c' ∧ ∀ d, c' ≠ .own d) := by
      intro r e1 e2 hc
      subst e2
      obtain ⟨hl, ih⟩ := outs_at e1
      refine ⟨by simp [hl], fun i c' h => ?_⟩
      cases i with
      | zero => simp at h; subst h; exact .inr ⟨rfl, hc⟩
      | succ i =>
        rcases ih i c' (by simpa using h) with ⟨d, z1, z2⟩ | ⟨z1, z2⟩
        · refine .inl ⟨d, z1, ?_⟩
          rw [List.getElem?_cons_succ, z2]; congr 3; omega
        · exact .inr ⟨by simpa using z1, z2⟩
    cases c with
    | own d0 =>
      cases x with
      | none => cases h
      | some c1 => cases c1 with
        | par j' d =>
          have h : (if j' = j then (outs (j + 1) t ρ).bind fun r => some (Cell.own d :: r) else none) = some cs' := h
          split at h
          · rename_i hj
            subst hj
            obtain ⟨r, e1, e2⟩ := bnd h
            cases e2
            obtain ⟨hl, ih⟩ := outs_at e1
            refine ⟨by simp [hl], fun i c' h => ?_⟩
            cases i with
            | zero => simp at h; subst h; exact .inl ⟨d, rfl, rfl⟩
            | succ i =>
              rcases ih i c' (by simpa using h) with ⟨d, z1, z2⟩ | ⟨z1, z2⟩
              · refine .inl ⟨d, z1, ?_⟩
                rw [List.getElem?_cons_succ, z2]; congr 3; omega
              · exact .inr ⟨by simpa using z1, z2⟩
          · cases h
        | _ => cases h
    | val d => obtain ⟨r, e1, e2⟩ := bnd (show (outs (j + 1) t ρ).bind _ = some cs' from h); exact nx r e1 (Option.some.inj e2).symm (by simp)
    | par j' d => obtain ⟨r, e1, e2⟩ := bnd (show (outs (j + 1) t ρ).bind _ = some cs' from h); exact nx r e1 (Option.some.inj e2).symm (by simp)
    | old d => obtain ⟨r, e1, e2⟩ := bnd (show (outs (j + 1) t ρ).bind _ = some cs' from h); exact nx r e1 (Option.some.inj e2).symm (by simp)
    | lent d => obtain ⟨r, e1, e2⟩ := bnd (show (outs (j + 1) t ρ).bind _ = some cs' from h); exact nx r e1 (Option.some.inj e2).symm (by simp)
def adr (vs : List V) : Nat → Option Addr := fun i => match vs[i]? with
  | some (.ref a) => some a
  | _ => none
theorem adr_at {vs : List V} {i : Nat} {a : Addr} (h : adr vs i = some a) : vs[i]? = some (.ref a) := by
  unfold adr at h
  split at h
  · cases h; assumption
  · cases h
theorem start_get {N : List Str} {vs : List V} {i : Nat} {v : V} (h : vs[i]? = some v) : (L2.start N vs)[i]? = some (some v) := by
  unfold L2.start
  rw [List.getElem?_append_left (by simpa using (List.getElem?_eq_some_iff.mp h).1), List.getElem?_map, h]; rfl
theorem re_start {K : PySem.W.Frag} {O F H : Hp} {vs : List V} {cs : List Cell} {N : List Str} (r : RE ⟨K, F, A0⟩ O F H (vs.map some) (cs.map some)) : RE ⟨K, F, adr vs⟩ O F H (L2.start N vs) (parm 0 cs ++ List.replicate (N.length - cs.length) none) := by
  have hl : cs.length = vs.length := by simpa using r.len
  have at' : ∀ (i : Nat) (c : Cell), (parm 0 cs ++ List.replicate (N.length - cs.length) none)[i]? = some (some c) → ∃ c0 : Cell, (cs.map some)[i]? = some (some c0) ∧ ((∃ d, c0 = .own d ∧ c = .par i d) ∨ (c = c0 ∧ c.isOwn = false)) := fun i c h => by
    by_cases hi : i < cs.length
    · rw [List.getElem?_append_left (by rw [parm_len]; exact hi)] at h
      obtain ⟨c0, h1, h2⟩ := parm_get h
      refine ⟨c0, by simp [h1], ?_⟩
      rcases h2 with ⟨d, e1, e2⟩ | ⟨e1, e2⟩
      · cases e2; exact .inl ⟨d, e1, by simp⟩
      · cases e1
        refine .inr ⟨rfl, ?_⟩
        cases c with
        | own d => exact absurd rfl (e2 d)
        | par j d =>
          obtain ⟨v, ev, a, o, _, z, _⟩ := r.at_ i (.par j d) (by simp [h1])
          cases z
        | _ => rfl
    · rw [List.getElem?_append_right (by rw [parm_len]; omega), List.getElem?_replicate] at h
      split at h <;> cases h
  have ow : ∀ {i a}, Own (L2.start N vs) (parm 0 cs ++ List.replicate (N.length - cs.length) none) i a → Own (vs.map some) (cs.map some) i a := fun {i a} ⟨h1, c, h2, h3⟩ => by
    obtain ⟨c0, e1, e2⟩ := at' i c h2
    obtain ⟨v, ev, _⟩ := r.at_ i c0 e1
    obtain ⟨v', ev', rfl⟩ : ∃ v', vs[i]? = some v' ∧ v' = v := by
      obtain ⟨v', z1, z2⟩ := map_get ev
      exact ⟨v', z1, Option.some.inj z2⟩
    rw [start_get ev'] at h1
    cases h1
    rcases e2 with ⟨d, rfl, rfl⟩ | ⟨rfl, z⟩
    · exact ⟨ev, _, e1, rfl⟩
    · rw [z] at h3; cases h3
  refine ⟨r.fh, r.oh, r.gf, r.of_, ?_, fun i c h => ?_, fun i j a o1 o2 => r.inj i j a (ow o1) (ow o2), fun i a o => r.no i a (ow o)⟩
  · unfold L2.start
    simp only [List.length_append, List.length_map, List.length_replicate, parm_len]
    omega
  · obtain ⟨c0, e1, e2⟩ := at' i c h
    obtain ⟨v, ev, hc⟩ := r.at_ i c0 e1
    obtain ⟨v', z1, z2⟩ := map_get ev
    cases z2
    refine ⟨v, start_get z1, ?_⟩
    rcases e2 with ⟨d, rfl, rfl⟩ | ⟨rfl, z⟩
    · obtain ⟨a, o, rfl, h1, ro, fa⟩ := hc
      refine ⟨a, o, rfl, ?_, h1, ro, fa⟩
      show adr vs i = some a
      unfold adr
      rw [z1]
    · cases c with
      | val d => exact hc
      | old d => exact hc
      | own d => cases z
      | par j d => cases z
      | lent d => exact hc
theorem re_end {K : PySem.W.Frag} {O F H F' H' : Hp} {vs : List V} {cs cs' : List Cell} {v : V} {c : Cell} {σ' : L2.St} {ρ' : Env} (r : RE ⟨K, F, A0⟩ O F H (vs.map some) (cs.map some)) (r' : RE ⟨K, F, adr vs⟩ O F' H' (some v :: σ') (some c :: ρ')) (f : Le F F') (e : outs 0 cs ρ' = some cs') (hc : (∃ d, c = .val d) ∨ ∃ d, c = .own d) :
    RE ⟨K, F, A0⟩ O F' H' (some v :: vs.map some) (some c :: cs'.map some) := by
  obtain ⟨hl, ho⟩ := outs_at e
  have hl0 : cs.length = vs.length := by simpa using r.len
  have own1 : ∀ (i : Nat) (d : D), cs'[i]? = some (.own d) → ∃ a u, vs[i]? = some (.ref a) ∧ H' a = some u ∧ RO K F' u d ∧ F' a = none ∧ Own (some v :: σ') (some c :: ρ') (i + 1) a := fun i d h => by
    rcases ho i _ h with ⟨d', e1, e2⟩ | ⟨_, e2⟩
    · cases e1
      rw [Nat.zero_add] at e2
      obtain ⟨v1, ev, a, u, rfl, ha, h1, ro, fa⟩ := r'.at_ (i + 1) (.par i d) (by simpa using e2)
      exact ⟨a, u, adr_at ha, h1, ro, fa, ev, _, by simpa using e2, rfl⟩
    · exact absurd rfl (e2 d)
  have isO : ∀ (i : Nat) (c' : Cell), cs'[i]? = some c' → c'.isOwn = true → ∃ d, c' = .own d := fun i c' h z => by
    rcases ho i c' h with ⟨d, e1, _⟩ | ⟨e1, e2⟩
    · exact ⟨d, e1⟩
    · cases c' with
      | own d => exact ⟨d, rfl⟩
      | par j d =>
        obtain ⟨v, ev, a, o, _, q, _⟩ := r.at_ i (.par j d) (by simp [e1])
        cases q
      | _ => cases z
  have ow : ∀ {i a}, Own (some v :: vs.map some) (some c :: cs'.map some) i a → Own (some v :: σ') (some c :: ρ') i a := fun {i a} ⟨h1, c1, h2, h3⟩ => by
    cases i with
    | zero => exact ⟨by simpa using h1, c1, by simpa using h2, h3⟩
    | succ i =>
      obtain ⟨c2, e1, e2⟩ := map_get (show (cs'.map some)[i]? = some (some c1) from by simpa using h2)
      cases e2
      obtain ⟨d, rfl⟩ := isO i c1 e1 h3
      obtain ⟨b, u, z1, _, _, _, z2⟩ := own1 i d e1
      have : (vs.map some)[i]? = some (some (.ref a)) := by simpa using h1
      rw [List.getElem?_map, z1] at this
      cases this
      exact z2
  refine ⟨r'.fh, r'.oh, f, r'.of_, by simp [hl, hl0], fun i c1 h => ?_, fun i j a o1 o2 => r'.inj i j a (ow o1) (ow o2), fun i a o => r'.no i a (ow o)⟩
  cases i with
  | zero =>
    simp at h
    subst h
    obtain ⟨v1, ev, q⟩ := r'.at_ 0 c rfl
    cases ev
    refine ⟨v, rfl, ?_⟩
    rcases hc with ⟨d, rfl⟩ | ⟨d, rfl⟩
    · exact q
    · exact q
  | succ i =>
    obtain ⟨c2, e1, e2⟩ := map_get (show (cs'.map some)[i]? = some (some c1) from by simpa using h)
    cases e2
    rcases ho i c1 e1 with ⟨d, rfl, _⟩ | ⟨e3, e4⟩
    · obtain ⟨a, u, z1, z2, z3, z4, _⟩ := own1 i d e1
      exact ⟨.ref a, by simp [z1], a, u, rfl, z2, z3, z4⟩
    · obtain ⟨v1, ev, q⟩ := r.at_ i c1 (by simp [e3])
      refine ⟨v1, by simpa using ev, ?_⟩
      cases c1 with
      | val d => exact Rp.mono f q
      | old d => exact q
      | own d => exact absurd rfl (e4 d)
      | par j d => obtain ⟨a, o, _, z, _⟩ := q; cases z
      | lent d => obtain ⟨a, xs, q1, q2, q3, q4⟩ := q; exact ⟨a, xs, q1, f.at rfl q2, q3, q4⟩
section
variable {P : Program} {w : World} {K : PySem.W.Frag} {mg : Str → Option Value} {base : Heap} {x qual : Str} {params : Arguments} {body : List Stmt} {scope : Scope} {dvs : List V} {kws : List (Str × V)} {f : Addr} {fd : FuncData} {N ps : List Str} {k : Nat}
theorem fn_ok {g : Env → Option Out} (F : FunD K x qual params body scope dvs kws f fd) (S : FnScope N ps scope)
    (hb : ∀ (cdv : Value) (A : Around) (outer : List PySem.Env) (s : Shared) (H : Hp) (E : XK), Room k (A.deeper (envOfC qual scope s.heap.objs.size f cdv)) → CSs (cxOf CX0 P w K mg base N qual scope f cdv A outer s H E).nox body g) :
    FnOk P w K mg base CX0 (k + 1) f fd ps (spF K ps.length (fnD N.length g)) := by
  refine FunD.ok F S (fun vs H Q E h => h.1) fun cdv A outer s H vs Q E hr hsp => ?_
  obtain ⟨t, p, z⟩ := hb cdv A outer s H E hr
  obtain ⟨hn, O, F0, cs, c, cs', r, e, hc, q⟩ := hsp
  refine ⟨t, p.nox, ?_⟩
  obtain ⟨o, e1, e2⟩ := bnd (show (g (parm 0 cs ++ List.replicate (N.length - cs.length) none)).bind _ = some (c, cs') from e)
  refine SndS.post z (re_start r) e1 ?_
  cases o with
  | nx ρ' =>
    obtain ⟨r1, e3, e4⟩ := bnd e2
    cases e4
    exact fun F' H' σ' r' f' => q F' H' .non (re_end r (r'.pushV .non) f' e3 (.inl ⟨_, rfl⟩)) f'
  | rt c1 ρ' =>
    cases c1 with
    | val d =>
      obtain ⟨r1, e3, e4⟩ := bnd e2
      cases e4
      exact fun F' H' v σ' r' f' => q F' H' v (re_end r r' f' e3 (.inl ⟨_, rfl⟩)) f'
    | own d =>
      obtain ⟨r1, e3, e4⟩ := bnd e2
      cases e4
      exact fun F' H' v σ' r' f' => q F' H' v (re_end r r' f' e3 (.inr ⟨_, rfl⟩)) f'
    | _ => cases e2
  | bk ρ' => cases e2
  | ct ρ' => cases e2
/-- a def that may be called -/
structure Fd (P : Program) (w : World) (K : PySem.W.Frag) (mg : Str → Option Value) (base : Heap) (k : Nat) (x : Str) (n : Nat) (φ : Fn) : Prop where
  ex : ∃ (f : Addr) (fd : FuncData) (ps : List Str), FnOk P w K mg base CX0 k f fd ps (spF K n φ) ∧ mg x = some (.ref f) ∧ PySem.W.keepIn K (.ref f) = true ∧ Binds K fd ps []
/-- .. by keywords alone, named ks, the parameters' order by perm -/
structure FdK (P : Program) (w : World) (K : PySem.W.Frag) (mg : Str → Option Value) (base : Heap) (k : Nat) (x : Str) (n : Nat) (φ : Fn) (ks : List Str) (perm : List Nat) : Prop where
  ex : ∃ (f : Addr) (fd : FuncData) (ps : List Str), FnOk P w K mg base CX0 k f fd ps (spF K n φ) ∧ mg x = some (.ref f) ∧ PySem.W.keepIn K (.ref f) = true ∧ ∀ (s : Shared) (ws : List Value), ws.length = ks.length → BindsTo s fd ⟨[], ks.zip ws⟩ (ps.zip (perm.map fun i => ws.getD i .none))
structure Md (P : Program) (w : World) (K : PySem.W.Frag) (mg : Str → Option Value) (base : Heap) (k : Nat) (C : Addr) (m : Str) (n : Nat) (φ : Fn) : Prop where
  ex : ∃ (f : Addr) (fd : FuncData) (ps : List Str), Cls K C ∧ Meth K C m f ∧ FnOk P w K mg base CX0 k f fd ps (spF K n φ) ∧ Binds K fd ps []
structure Kd (P : Program) (w : World) (K : PySem.W.Frag) (mg : Str → Option Value) (base : Heap) (k : Nat) (x : Str) (C : Addr) (n : Nat) (φ : Fn) : Prop where
  ex : ∃ (f : Addr) (fd : FuncData) (ps : List Str), Mk K C f ∧ FnOk P w K mg base CX0 k f fd ps (spF K n φ) ∧ mg x = some (.ref C) ∧ Binds K fd ps []
end
section
variable {X : Cx} {k j n : Nat} {x m : Str} {C : Addr} {φ : Fn} {e o : Expr} {es : List Expr} {fa : Env → Option (List Hd × Env)} {p pos apos : Pos}
def dCal (n : Nat) (φ : Fn) (fa : Env → Option (List Hd × Env)) : Env → Option (Cell × Env) := fun ρ => (fa ρ).bind fun p => if p.1.length = n then dApp φ p.1 p.2 else none
theorem HdRs.len {K : PySem.W.Frag} {F : Hp} {σ : L2.St} : ∀ {vs : List V} {hs : List Hd}, HdRs K F σ vs hs → vs.length = hs.length
  | _, _, .nil => rfl
  | _, _, .cons _ t => by simp [HdRs.len t]
theorem snd_cal {t : TA} (s : SndA X.K t fa) : SndE X.K (tCall (spF X.K n φ) [] E0 t) (dCal n φ fa) := fun G A O F H σ ρ c ρ' Q r e q => by
  obtain ⟨⟨hs, ρ1⟩, e1, e⟩ := bnd e
  split at e
  · rename_i hn
    refine s G A O F H σ ρ _ _ _ r e1 fun F1 H1 vs r1 f1 hv => ?_
    rw [List.append_nil]
    exact app_ok r1 hv e (by rw [hv.len]; exact hn) fun F' H' v r' f' => q F' H' v r' (f1.trans f')
  · cases e
theorem ce_call (c : Fd X.prog X.w X.K X.mg X.base k x n φ) (hr : Room j X.A) (hk : k ≤ j) (hg : Gl X x) (ha : OA X (e :: es) fa)
    (hdb : (x == ("__debug__" : Str)) = false := by decide) (he : starEach (e :: es) X.env = (false, eval e X.env) :: starEach es X.env := by rfl) (hpl : (backTo pos (starEach es X.env)).any (·.1) = false := by rfl) :
    CE X (.Call (.Name x p) (e :: es) [] pos) (dCal n φ fa) := by
  obtain ⟨f, fd, ps, F, hm, kp, b⟩ := c.ex
  obtain ⟨t, pa, s⟩ := ha
  exact ⟨_, pe_call F (hr.mono hk) hg hm kp b .nil pass0 pa hdb he hpl, snd_cal s⟩
/-- keywords -/
def OK (X : Cx) (kws : List Keyword) (f : Env → Option (List Hd × Env)) : Prop := ∃ t, PK X kws t ∧ SndA X.K t f
theorem ok_nil : OK X [] aNil := ⟨_, pk_nil, snd_nil⟩
theorem ok_cons {kws : List Keyword} {f : Env → Option (Hd × Env)} {g : Env → Option (List Hd × Env)} {nm : Option Str} {kpos : Pos} (h1 : OE X e f) (h2 : OK X kws g) : OK X (⟨nm, e, kpos⟩ :: kws) (aCons f g) := by
  obtain ⟨t, p, s⟩ := h1
  obtain ⟨u, q, z⟩ := h2
  exact ⟨_, pk_cons p q, snd_cons s z⟩
def permH (perm : List Nat) (hs : List Hd) : List Hd := perm.map fun i => hs.getD i (.inl .non)
def dCallK (n : Nat) (φ : Fn) (m : Nat) (perm : List Nat) (fa : Env → Option (List Hd × Env)) : Env → Option (Cell × Env) := fun ρ => (fa ρ).bind fun p => if perm.length = n ∧ p.1.length = m then dApp φ (permH perm p.1) p.2 else none
def tCallK0 (sp : Sp) (m : Nat) (perm : List Nat) (tk : TA) : TE := fun σ H Q => tk σ H fun zs H1 => zs.length = m ∧ sp (perm.map fun i => zs.getD i .non) H1 Q E0
theorem HdRs.perm {K : PySem.W.Frag} {F : Hp} {σ : L2.St} {vs : List V} {hs : List Hd} (r : HdRs K F σ vs hs) : ∀ perm : List Nat, HdRs K F σ (perm.map fun i => vs.getD i .non) (permH perm hs)
  | [] => .nil
  | i :: l => by
    refine .cons ?_ (HdRs.perm r l)
    clear l
    induction r generalizing i with
    | nil => exact .non
    | cons h _ ih => cases i with
      | zero => exact h
      | succ i => exact ih i
theorem vals_perm {vs : List V} {us : List Value} (r : Vals vs us) : ∀ perm : List Nat, Vals (perm.map fun i => vs.getD i .non) (perm.map fun i => us.getD i .none)
  | [] => .nil
  | i :: l => by
    refine .cons ?_ (vals_perm r l)
    clear l
    induction r generalizing i with
    | nil => exact (rfl : Value.none = Value.none)
    | cons h _ ih => cases i with
      | zero => exact h
      | succ i => exact ih i
theorem ce_callK {ks : List Str} {perm : List Nat} {kw : Keyword} {kws : List Keyword} (c : FdK X.prog X.w X.K X.mg X.base k x n φ ks perm) (hr : Room j X.A) (hk : k ≤ j) (hg : Gl X x) (ha : OK X (kw :: kws) fa)
    (hall : (backToKw pos (keywordEach (kw :: kws) X.env)).all (·.1.isSome) = true := by rfl) (hks : (backToKw pos (keywordEach (kw :: kws) X.env)).filterMap (·.1) = ks := by rfl)
    (hdb : (x == ("__debug__" : Str)) = false := by decide)
    (hpl : ((backTo pos (starEach [] X.env)).any (·.1) || (backToKw pos (keywordEach (kw :: kws) X.env)).any (·.1.isNone)) = false := by rfl) :
    CE X (.Call (.Name x p) [] (kw :: kws) pos) (dCallK n φ ks.length perm fa) := by
  obtain ⟨f, fd, ps, F, hm, kp, b⟩ := c.ex
  obtain ⟨tk, pk, s⟩ := ha
  refine ⟨tCallK0 (spF X.K n φ) ks.length perm tk, ⟨fun pins sh σ H Q I h => ?_⟩, fun G A O F H σ ρ c ρ' Q r e q => ?_⟩
  · refine wpAny_Call_Name_kw (ld_glob I hg hm ?_ hdb)
    refine PySem.W.callWith_KW0 (h₀ := X.base) I.ok.mod.kin kp hall ?_ hpl
    refine thn (pk.run pos pins sh σ H _ I h) fun ws s2 ⟨zs, H2, I2, rz, l2, q2⟩ => ⟨I2.kIn, ?_⟩
    rw [hks]
    refine wpAny_call (codeAny_mono (F.run X.A X.stack s2 H2 ⟨[], ks.zip ws⟩ (perm.map fun i => ws.getD i .none) (perm.map fun i => zs.getD i .non) Q E0 (hr.mono hk) I2.env0 (b s2 ws (rz.length.symm.trans l2)) (vals_perm rz perm) q2) fun r s' hq => ?_)
    cases r with
    | error e => exact hq.elim
    | ok fl =>
      cases fl with
      | ret u => exact I2.after hq
      | next => exact False.elim hq
      | brk => exact False.elim hq
      | cont => exact False.elim hq
  · obtain ⟨⟨hs, ρ1⟩, e1, e⟩ := bnd e
    split at e
    · rename_i hn
      refine s G A O F H σ ρ _ _ _ r e1 fun F1 H1 vs r1 f1 hv => ?_
      refine ⟨by rw [hv.len]; exact hn.2, ?_⟩
      exact app_ok r1 (hv.perm perm) e (by simpa using hn.1) fun F' H' v r' f' => q F' H' v r' (f1.trans f')
    · cases e
/-! ### methods -/
def dMeth (C : Addr) (m : Str) (n : Nat) (φ : Fn) (fo : Env → Option (Hd × Env)) (fa : Env → Option (List Hd × Env)) : Env → Option (Cell × Env) := fun ρ => (fo ρ).bind fun p => (look p.2 p.1).bind fun d => match d with
  | .obj C' l => if C' = C ∧ l.lookup m = none then (fa p.2).bind fun q => if q.1.length + 1 = n then dApp φ (p.1 :: q.1) q.2 else none else none
  | _ => none
theorem snd_meth {ta : TE} {t : TA} {fo : Env → Option (Hd × Env)} (so : SndO X.K ta fo) (s : SndA X.K t fa) : SndE X.K (tMeth C m (spF X.K n φ) [] E0 ta t) (dMeth C m n φ fo fa) := fun G A O F H σ ρ c ρ' Q r e q => by
  obtain ⟨⟨h, ρ1⟩, e1, e⟩ := bnd e
  obtain ⟨d, e2, e⟩ := bnd e
  cases d with
  | obj C' l =>
    have e9 : (if C' = C ∧ l.lookup m = none then (fa ρ1).bind fun q => if q.1.length + 1 = n then dApp φ (h :: q.1) q.2 else none else none) = some (c, ρ') := e
    clear e
    split at e9
    · rename_i hC
      obtain ⟨rfl, hl⟩ := hC
      obtain ⟨⟨hs, ρ2⟩, e3, e⟩ := bnd e9
      split at e
      · rename_i hn
        refine so G A O F H σ ρ _ _ _ r e1 fun F1 H1 v r1 f1 hv => ?_
        obtain ⟨a, dx, fs, rfl, ha, rf⟩ := (r1.look hv e2).obj r1.fh
        refine ⟨a, dx, fs, rfl, ha, rf.lookN hl, ?_⟩
        refine s G A O F1 H1 σ ρ1 _ _ _ r1 e3 fun F2 H2 vs r2 f2 hvs => ?_
        rw [List.append_nil]
        exact app_ok r2 (.cons (hv.mono f2) hvs) e (by simpa [hvs.len] using hn) fun F' H' v r' f' => q F' H' v r' ((f1.trans f2).trans f')
      · cases e
    · cases e9
  | _ => cases e
theorem ce_meth {fo : Env → Option (Hd × Env)} (c : Md X.prog X.w X.K X.mg X.base k C m n φ) (hr : Room j X.A) (hk : k ≤ j) (ho : OE X o fo) (ha : OA X (e :: es) fa)
    (hst : starEach (e :: es) X.env = (false, eval e X.env) :: starEach es X.env := by rfl) (hpl : (backTo pos (starEach es X.env)).any (·.1) = false := by rfl) {pl : Sem Bool}
    (ht : eval (.Call (.Attribute o m apos) (e :: es) [] pos) X.env = (do
      let ov ← eval o X.env
      standAt apos.atName
      let (f, first) ← holding [ov] (getMethod ov m pl)
      callWith pos f first (backTo pos (starEach (e :: es) X.env)) (backToKw pos (keywordEach [] X.env))) := by rfl) :
    CE X (.Call (.Attribute o m apos) (e :: es) [] pos) (dMeth C m n φ fo fa) := by
  obtain ⟨f, fd, ps, cl, me, F, b⟩ := c.ex
  obtain ⟨t, pa, s⟩ := ha
  obtain ⟨u, po, so⟩ := ho
  exact ⟨_, pe_meth (pl := pl) po cl me F (hr.mono hk) b .nil pass0 pa hst hpl ht, snd_meth so s⟩
/-! ### a new instance -/
def shH : Hd → Hd
  | .inl d => .inl d
  | .inr i => .inr (i + 1)
def dMake (C : Addr) (n : Nat) (φ : Fn) (fa : Env → Option (List Hd × Env)) : Env → Option (Cell × Env) := fun ρ => (fa ρ).bind fun p => if p.1.length + 1 = n then
    (dApp φ (.inr 0 :: p.1.map shH) (some (.own (.obj C [])) :: p.2)).bind fun q => match q.1, q.2 with
      | .val .non, some (.own d) :: ρ' => some (.own d, ρ')
      | _, _ => none
  else none
theorem HdRs.sh {K : PySem.W.Frag} {F : Hp} {σ : L2.St} {x : Option V} : ∀ {vs : List V} {hs : List Hd}, HdRs K F σ vs hs → HdRs K F (x :: σ) vs (hs.map shH)
  | _, _, .nil => .nil
  | _, _, .cons (h := h) hv t => .cons (by cases h with | inl d => exact hv | inr i => exact hv) (HdRs.sh t)
theorem snd_make {t : TA} (s : SndA X.K t fa) : SndE X.K (tMake C (spF X.K n φ) [] E0 t) (dMake C n φ fa) := fun G A O F H σ ρ c ρ' Q r e q => by
  obtain ⟨⟨hs, ρ1⟩, e1, e⟩ := bnd e
  split at e
  · rename_i hn
    obtain ⟨⟨c1, ρ2⟩, e2, e⟩ := bnd e
    refine s G A O F H σ ρ _ _ _ r e1 fun F1 H1 vs r1 f1 hv => ?_
    intro x dx hx hdx ne
    rw [List.append_nil]
    have r2 : RE ⟨X.K, G, A⟩ O F1 (upd H1 dx (.own x)) σ ρ1 := r1.grow (Ex.new hdx) (Le.refl F1) (r1.fh.trans (Ex.new hdx)) fun _ _ => rfl
    have hx2 : upd H1 dx (.own x) x = none := by rw [upd_ne (fun z => ne z.symm)]; exact hx
    have r3 := r2.new (d := .obj C []) (o := .ins C dx []) hx2 (.obj .nil)
    refine app_ok r3 (hs := .inr 0 :: hs.map shH) (.cons (h := .inr 0) rfl hv.sh) e2 (by simpa [hv.len] using hn) fun F' H' v r' f' => ?_
    split at e
    · rename_i d ρ3 h1 h2
      simp only at h1 h2
      subst h1 h2
      cases e
      obtain ⟨v', ev, hc⟩ := r'.at_ 0 _ rfl
      cases ev
      cases hc
      exact ⟨rfl, q F' H' _ r'.pop (f1.trans f')⟩
    · cases e
  · cases e
theorem ce_make (c : Kd X.prog X.w X.K X.mg X.base k x C n φ) (hr : Room j X.A) (hk : k + 1 ≤ j) (hg : Gl X x) (ha : OA X (e :: es) fa)
    (hdb : (x == ("__debug__" : Str)) = false := by decide) (he : starEach (e :: es) X.env = (false, eval e X.env) :: starEach es X.env := by rfl) (hpl : (backTo pos (starEach es X.env)).any (·.1) = false := by rfl) :
    CE X (.Call (.Name x p) (e :: es) [] pos) (dMake C n φ fa) := by
  obtain ⟨f, fd, ps, M, F, hm, b⟩ := c.ex
  obtain ⟨t, pa, s⟩ := ha
  exact ⟨_, pe_make M F (hr.mono hk) hg hm b .nil pass0 pa hdb he hpl, snd_make s⟩
/-! ### a field is set -/
def putFD (f : Str) (v : D) : List (Str × D) → List (Str × D)
  | [] => [(f, v)]
  | (g, x) :: r => if g = f then (g, v) :: r else (g, x) :: putFD f v r
theorem RpF.put {K : PySem.W.Frag} {F : Hp} {f : Str} {v : V} {d : D} (h : Rp K F v d) : ∀ {fs : List (Str × V)} {l : List (Str × D)}, RpF K F fs l → RpF K F (putF f v fs) (putFD f d l)
  | _, _, .nil => .cons h .nil
  | _, _, .cons (k := k) h' t => by
    unfold putF putFD
    split
    · exact .cons h t
    · exact .cons h' (RpF.put h t)
theorem RpF.len {K : PySem.W.Frag} {F : Hp} : ∀ {fs : List (Str × V)} {l : List (Str × D)}, RpF K F fs l → fs.length = l.length
  | _, _, .nil => rfl
  | _, _, .cons _ t => by simp [RpF.len t]
def fldD (C : Addr) (f : Str) (d : D) : D → Option D
  | .obj C' l => if C' = C ∧ l.length < 1000 then some (.obj C' (putFD f d l)) else none
  | _ => none
def sFldD (i : Nat) (C : Addr) (f : Str) (g : Env → Option (Hd × Env)) : Env → Option Out := fun ρ => (g ρ).bind fun p => match p.1 with
  | .inl d => (wrOwn i (fldD C f d) p.2).bind fun ρ' => some (.nx ρ')
  | .inr _ => none
theorem cs_fld (i : Nat) {f : Str} {v : Expr} {pos' : Pos} {g : Env → Option (Hd × Env)} (hC : Cls X.K C) (hf : NoAttr X.K C f) (hv : OE X v g) (hN : X.N[i]? = some x := by rfl) (hx : Vis X.env.scope x := by first | exact Or.inl rfl | exact Or.inr (Or.inl rfl) | exact Or.inr (Or.inr rfl)) (hd : (x == ("__debug__" : Str)) = false := by decide) (hcd : (x == ("__classdict__" : Str)) = false := by decide)
    (hs : swapsWith v (some (.Attribute (.Name x p) f pos')) pos.line X.env = pure false := by rfl) : CS X (.Assign [.Attribute (.Name x p) f pos'] v pos) (sFldD i C f g) := by
  obtain ⟨t, pv, s⟩ := hv
  refine ⟨_, ps_fld (pe_var hN hx hd hcd) pv hs, fun G A O F H σ ρ out D r e q => ?_⟩
  obtain ⟨⟨h, ρ1⟩, e1, e⟩ := bnd e
  cases h with
  | inr _ => cases e
  | inl d =>
    obtain ⟨ρ2, e2, e⟩ := bnd (show (wrOwn i (fldD C f d) ρ1).bind _ = some out from e)
    cases e
    obtain ⟨c0, c1, hc0, co, hf', rfl, hp1, hp2⟩ := wrOwn_at e2
    refine s G A O F H σ ρ _ _ _ r e1 fun F1 H1 y r1 f1 hy => ?_
    obtain ⟨o', eo, hcr⟩ := r1.at_ i c0 hc0
    obtain ⟨a, u, rfl, ha, ro, fa'⟩ := hcr.obj co
    refine ⟨_, eo, ?_⟩
    have fin : ∀ u', RO X.K F1 u' c1.d → RE ⟨X.K, G, A⟩ O F1 (upd H1 a u') σ (ρ1.set i (some c1)) := fun u' ro' => r1.write hc0 co eo hp1 hp2 ro'
    have hf' : fldD C f d c0.d = some c1.d := hf'
    clear hp1 hp2 hc0 hcr
    generalize c0.d = od at hf' ro
    cases ro with
    | @obj C' dx fs l' rf =>
      have h9 : (if C' = C ∧ l'.length < 1000 then some (Q.D.obj C' (putFD f d l')) else none) = some c1.d := hf'
      clear hf'
      split at h9
      · rename_i hC'
        obtain ⟨rfl, hl⟩ := hC'
        have h9 := Option.some.inj h9
        refine ⟨a, _, _, _, rfl, ha, hC, hf, by rw [rf.len]; exact hl, q F1 _ σ (fin _ ?_) f1⟩
        rw [← h9]
        exact .obj (rf.put hy)
      · cases h9
    | _ => cases hf'
end
end Q
end
section
set_option maxHeartbeats 1000000
namespace Q
open PySem PySem.Spec PyProof.Rows L2
/-! ### pairs: enumerate, zip -/
theorem wk_pair {K : PySem.W.Frag} {F : Hp} {J : It} {ds : List D} {Gd : Hp → Prop} {f g : Nat → Option V} (w : Walk J ds.length Gd (YPair f g)) (hG : ∀ F2 H2, Le F F2 → Ex F2 H2 → Gd H2)
    (h : ∀ i x y, i < ds.length → f i = some x → g i = some y → ∃ a b, ds[i]? = some (.tup [a, b]) ∧ Rp K F x a ∧ Rp K F y b) : Wk K F J ds := by
  refine ⟨_, _, w, hG, fun i F2 H2 x H3 hi ff ex y => ?_⟩
  obtain ⟨T, x1, y1, rfl, hT, rfl, e1, e2⟩ := y
  obtain ⟨a, b, e3, ra, rb⟩ := h i x1 y1 hi e1 e2
  exact ⟨_, e3, .tup hT (.cons (ra.mono ff) (.cons (rb.mono ff) .nil)) (by show 2 ≤ sizeLine; decide)⟩
def enumD (l : List D) : List D := l.zipIdx.map fun p => .tup [.int (p.2 : Nat), p.1]
theorem enum_len (l : List D) : (enumD l).length = l.length := by unfold enumD; simp
theorem enum_get (l : List D) (i : Nat) : (enumD l)[i]? = l[i]?.map fun d => .tup [.int (i : Nat), d] := by
  unfold enumD
  rw [List.getElem?_map, List.getElem?_zipIdx]
  cases l[i]? <;> simp
theorem wk_enumL {K : PySem.W.Frag} {F : Hp} {a : Addr} {xs : List V} {l : List D} (h : Rd F a (.lst xs)) (r : Rps K F xs l) : Wk K F (Ite K a) (enumD l) := by
  have w := walk_enum (K := K) (a := a) (xs := xs)
  rw [r.len, ← enum_len l] at w
  refine wk_pair w (fun F2 H2 f x => .inl (ex_rd x (le_rd f h))) fun i x y hi e1 e2 => ?_
  obtain ⟨d, hd, rp⟩ := r.at e2
  cases e1
  exact ⟨_, d, by rw [enum_get, hd]; rfl, .int _, rp⟩
theorem wk_enumT {K : PySem.W.Frag} {F : Hp} {a : Addr} {xs : List V} {l : List D} (h : F a = some (.tup xs)) (r : Rps K F xs l) : Wk K F (QE.IteT K a) (enumD l) := by
  have w := QE.walk_enumT (K := K) (a := a) (xs := xs)
  rw [r.len, ← enum_len l] at w
  refine wk_pair w (fun F2 H2 f x => .inl (.inl (x _ _ (f.at rfl h)))) fun i x y hi e1 e2 => ?_
  obtain ⟨d, hd, rp⟩ := r.at e2
  cases e1
  exact ⟨_, d, by rw [enum_get, hd]; rfl, .int _, rp⟩
def iEnm (fa : Env → Option (List Hd × Env)) : Env → Option (List D × Env) := fun ρ => (fa ρ).bind fun p => match p.1 with
  | [.inl d] => (seqD d).bind fun l => some (enumD l, p.2)
  | _ => none
theorem HdRs.one1 {K : PySem.W.Frag} {F : Hp} {σ : L2.St} {vs : List V} {d : D} (h : HdRs K F σ vs [.inl d]) : ∃ v, vs = [v] ∧ Rp K F v d := by
  cases h with
  | cons h t => cases t; exact ⟨_, rfl, h⟩
theorem HdRs.two2 {K : PySem.W.Frag} {F : Hp} {σ : L2.St} {vs : List V} {d e : D} (h : HdRs K F σ vs [.inl d, .inl e]) : ∃ v w, vs = [v, w] ∧ Rp K F v d ∧ Rp K F w e := by
  cases h with
  | cons h t => cases t with
    | cons h2 t => cases t; exact ⟨_, _, rfl, h, h2⟩
section
variable {X : Cx} {tg e e2 : Expr} {pos p tpos : Pos} {elts : List Expr} {kk : Nat}
theorem ie_enum {fa : Env → Option (List Hd × Env)} (hg : Gl X "enumerate") (hm : X.mg "enumerate" = none) (ha : OA X [e] fa) (hs : starEach [e] X.env = [(false, eval e X.env)] := by rfl) : IE X (.Tuple elts kk tpos) (.Call (.Name "enumerate" p) [e] [] pos) (iEnm fa) := by
  obtain ⟨t, pa, s⟩ := ha
  refine ⟨_, pi_or (pi_enum hg hm pa hs) (QE.pi_enumT hg hm pa hs), fun G A O F H σ ρ ds ρ' R r e q => ?_⟩
  obtain ⟨⟨hs, ρ1⟩, e1, e⟩ := bnd e
  split at e
  · rename_i d hd
    simp only at hd
    subst hd
    obtain ⟨l, e2, e⟩ := bnd e
    cases e
    cases d with
    | lst l' =>
      cases e2
      refine .inl (s G A O F H σ ρ _ _ _ r e1 fun F1 H1 vs r1 f1 hv => ?_)
      obtain ⟨v, rfl, rp⟩ := hv.one1
      cases rp with
      | lst h r n => exact ⟨_, _, rfl, .inl (ex_rd r1.fh h), q F1 H1 _ r1 f1 (wk_enumL h r)⟩
    | tup l' =>
      cases e2
      refine .inr (s G A O F H σ ρ _ _ _ r e1 fun F1 H1 vs r1 f1 hv => ?_)
      obtain ⟨v, rfl, rp⟩ := hv.one1
      cases rp with
      | tup h r n => exact ⟨_, _, rfl, .inl (.inl (r1.fh _ _ h)), q F1 H1 _ r1 f1 (wk_enumT h r)⟩
    | _ => cases e2
  · cases e
def zipD (l m : List D) : List D := List.zipWith (fun a b => .tup [a, b]) l m
theorem walk_zipT {K : PySem.W.Frag} {a b : Addr} {xs ys : List V} {n : Nat} (hn : n = min xs.length ys.length) : Walk (RZ.ItzT K a b) n (fun H => SqT K H a xs ∧ SqT K H b ys) (YPair (fun i => xs[i]?) (fun i => ys[i]?)) := by
  subst hn
  refine ⟨fun i _ hi q => ?_, fun _ q => ⟨xs, ys, q.1, q.2, by omega⟩, fun i H v H' _ q y => ?_⟩
  · have h1 : i < xs.length := by omega
    have h2 : i < ys.length := by omega
    exact ⟨xs, ys, xs[i], ys[i], q.1, q.2, by simp [h1], by simp [h2]⟩
  · obtain ⟨T, x, y, e1, e2, e3, e4, e5⟩ := y
    exact ⟨T, x, y, e1, e2, e3, e4 xs q.1, e5 ys q.2⟩
theorem zip_get (l m : List D) (i : Nat) {a b : D} (h1 : l[i]? = some a) (h2 : m[i]? = some b) : (zipD l m)[i]? = some (.tup [a, b]) := by
  unfold zipD
  rw [List.getElem?_zipWith, h1, h2]
theorem zip_len (l m : List D) : (zipD l m).length = min l.length m.length := by unfold zipD; simp
def iZipD (fa : Env → Option (List Hd × Env)) : Env → Option (List D × Env) := fun ρ => (fa ρ).bind fun p => match p.1 with
  | [.inl (.lst l), .inl (.lst m)] => some (zipD l m, p.2)
  | [.inl (.tup l), .inl (.tup m)] => some (zipD l m, p.2)
  | _ => none
theorem ie_zip {fa : Env → Option (List Hd × Env)} (hg : Gl X "zip") (hm : X.mg "zip" = none) (ha : OA X [e, e2] fa)
    (hs : starEach [e, e2] X.env = (false, eval e X.env) :: starEach [e2] X.env := by rfl) (hpl : (backTo pos (starEach [e2] X.env)).any (·.1) = false := by rfl) : IE X (.Tuple elts kk tpos) (.Call (.Name "zip" p) [e, e2] [] pos) (iZipD fa) := by
  obtain ⟨t, pa, s⟩ := ha
  refine ⟨_, RZ.pi_zipA hg hm pa hs hpl, fun G A O F H σ ρ ds ρ' R r e q => ?_⟩
  obtain ⟨⟨hs, ρ1⟩, e1, e⟩ := bnd e
  split at e
  · rename_i l m hd
    simp only at hd
    subst hd
    cases e
    refine s G A O F H σ ρ _ _ _ r e1 fun F1 H1 vs r1 f1 hv => ?_
    obtain ⟨v, w, rfl, rp, rp2⟩ := hv.two2
    cases rp with
    | @lst a xs _ h r n => cases rp2 with
      | @lst b ys _ h2 r2 n2 =>
        refine ⟨a, b, xs, ys, rfl, .inl ⟨.inl (ex_rd r1.fh h), .inl (ex_rd r1.fh h2), q F1 H1 _ r1 f1 ?_⟩⟩
        refine wk_pair (walk_zip (by rw [zip_len, r.len, r2.len])) (fun F2 H2 f x => ⟨.inl (ex_rd x (le_rd f h)), .inl (ex_rd x (le_rd f h2))⟩) fun i x y hi e1 e2 => ?_
        obtain ⟨d, hd, rp⟩ := r.at e1
        obtain ⟨d', hd', rp'⟩ := r2.at e2
        exact ⟨d, d', zip_get _ _ _ hd hd', rp, rp'⟩
  · rename_i l m hd
    simp only at hd
    subst hd
    cases e
    refine s G A O F H σ ρ _ _ _ r e1 fun F1 H1 vs r1 f1 hv => ?_
    obtain ⟨v, w, rfl, rp, rp2⟩ := hv.two2
    cases rp with
    | @tup a xs _ h r n => cases rp2 with
      | @tup b ys _ h2 r2 n2 =>
        refine ⟨a, b, xs, ys, rfl, .inr ⟨.inl (.inl (r1.fh _ _ h)), .inl (.inl (r1.fh _ _ h2)), q F1 H1 _ r1 f1 ?_⟩⟩
        refine wk_pair (walk_zipT (by rw [zip_len, r.len, r2.len])) (fun F2 H2 f x => ⟨.inl (.inl (x _ _ (f.at rfl h))), .inl (.inl (x _ _ (f.at rfl h2)))⟩) fun i x y hi e1 e2 => ?_
        obtain ⟨d, hd, rp⟩ := r.at e1
        obtain ⟨d', hd', rp'⟩ := r2.at e2
        exact ⟨d, d', zip_get _ _ _ hd hd', rp, rp'⟩
  · cases e
/-- a text, sign by sign -/
def strD (x : Str) : List D := x.cps.toList.map fun c => .str ⟨#[c]⟩
def iTxt (f : Env → Option (Hd × Env)) : Env → Option (List D × Env) := fun ρ => (f ρ).bind fun p => (look p.2 p.1).bind fun d => match d with
  | .str x => some (strD x, p.2)
  | _ => none
theorem ie_str {f : Env → Option (Hd × Env)} (h : OE X e f) : IE X tg e (iTxt f) := by
  obtain ⟨t, p, s⟩ := h
  refine ⟨_, pi_str p, fun G A O F H σ ρ ds ρ' R r e q => ?_⟩
  obtain ⟨⟨h, ρ1⟩, e1, e⟩ := bnd e
  obtain ⟨d, e2, e⟩ := bnd e
  cases d with
  | str x =>
    cases (show some (strD x, ρ1) = some (ds, ρ') from e)
    refine s G A O F H σ ρ _ _ _ r e1 fun F1 H1 v r1 f1 hv => ?_
    refine ⟨x, (r1.look hv e2).str, q F1 H1 _ r1 f1 ?_⟩
    have hl : (strD x).length = x.cps.size := by unfold strD; simp
    refine ⟨_, _, by rw [hl]; exact walk_str, fun _ _ _ _ => True.intro, fun i F2 H2 x' H3 hi f ex y => ?_⟩
    obtain ⟨rfl, c, hc, rfl⟩ := y
    refine ⟨.str ⟨#[c]⟩, ?_, .val (.str _)⟩
    unfold strD
    rw [List.getElem?_map, Array.getElem?_toList, hc]
    rfl
  | _ => cases e
/-- a dict's keys: the dict is frozen and locked -/
theorem pe_lockK {t : TE} {f : Env → Option (Hd × Env)} (pe : PE X e t) (s : SndO X.K t f) : PI X tg e (fun σ H R => ∃ (G : Hp) (A : Nat → Option Addr) (O F : Hp) (ρ ρ' : Env) (l : List (D × D)), RE ⟨X.K, G, A⟩ O F H σ ρ ∧ f ρ = some (.inl (.dct false l), ρ') ∧
    ∀ F' H' J, RE ⟨X.K, G, A⟩ O F' H' σ ρ' → Le F F' → Wk X.K F' J (l.map (·.1)) → R J H') := by
  refine ⟨fun pins sh σ H R I ⟨G, A, O, F, ρ, ρ', l, r, e1, q⟩ => ?_⟩
  refine (pi_keys (tg := tg) (td := fun σ H Q => ∃ (G : Hp) (A : Nat → Option Addr) (O F : Hp) (ρ ρ' : Env) (l : List (D × D)), RE ⟨X.K, G, A⟩ O F H σ ρ ∧ f ρ = some (.inl (.dct false l), ρ') ∧
    ∀ F' H' v, RE ⟨X.K, G, A⟩ O F' H' σ ρ' → Le F F' → (∃ d o kvs, v = V.ref d ∧ F' d = some (.frz o (.dK kvs)) ∧ RpK X.K F' kvs l) → Q v H') ?_).run pins sh σ H R I ⟨G, A, O, F, ρ, ρ', l, r, e1, fun F' H' v r' f' hd => ?_⟩
  · refine ⟨fun pins sh σ H Q I ⟨G, A, O, F, ρ, ρ', l, r, e1, q⟩ => ?_⟩
    refine thn (pe.run pins sh σ H _ I (s G A O F H σ ρ _ _ (fun v H' => ∃ F', RE ⟨X.K, G, A⟩ O F' H' σ ρ' ∧ Le F F' ∧ Rp X.K F' v (.dct false l)) r e1 fun F' H' v r' f' hv => ⟨F', r', f', hv⟩)) fun u s1 ⟨v, H1, I1, rv, F1, r1, f1, hv⟩ => ?_
    cases hv with
    | @dk a kvs _ hd rk =>
      rcases hd with hd | ⟨od, hd⟩
      · obtain ⟨od, I2⟩ := I1.lock (r1.fh _ _ hd) (by trivial)
        obtain ⟨r2, f2⟩ := r1.lock (o := .dK kvs) rfl hd od
        exact ⟨_, _, I2, rv, q _ _ _ r2 (f1.trans f2) ⟨a, od, kvs, rfl, upd_same, rk.mono f2⟩⟩
      · exact ⟨_, _, I1, rv, q _ _ _ r1 f1 ⟨a, od, kvs, rfl, hd, rk⟩⟩
  · obtain ⟨d, o, kvs, rfl, hf, rk⟩ := hd
    refine ⟨d, o, rfl, .inl ⟨kvs, r'.fh _ _ hf, q F' H' _ r' f' ?_⟩⟩
    have hl : (l.map (·.1)).length = kvs.length := by rw [List.length_map, rk.len]
    refine ⟨_, _, by rw [hl]; exact walk_keys, fun F2 H2 f x => x _ _ (f.at rfl hf), fun i F2 H2 x H3 hi f ex y => ?_⟩
    obtain ⟨rfl, k, v, hk, rfl⟩ := y
    have rks := rk.keys
    have : (kvs.map fun kv => kV kv.1)[i]? = some (kV k) := by rw [List.getElem?_map, hk]; rfl
    obtain ⟨d', hd', rp⟩ := rks.at this
    exact ⟨d', hd', .val (rp.mono f)⟩
def iKeysD (f : Env → Option (Hd × Env)) : Env → Option (List D × Env) := fun ρ => (f ρ).bind fun p => match p.1 with
  | .inl (.dct false l) => some (l.map (·.1), p.2)
  | _ => none
theorem ie_keys {f : Env → Option (Hd × Env)} (h : OE X e f) : IE X tg e (iKeysD f) := by
  obtain ⟨t, p, s⟩ := h
  refine ⟨_, pe_lockK p s, fun G A O F H σ ρ ds ρ' R r e q => ?_⟩
  obtain ⟨⟨h, ρ1⟩, e1, e⟩ := bnd e
  split at e
  · rename_i l hd
    simp only at hd
    subst hd
    cases e
    exact ⟨G, A, O, F, ρ, _, l, r, e1, q⟩
  · cases e
end
end Q
end
section
set_option maxHeartbeats 1000000
namespace Q
open PySem PySem.Spec PyProof.Rows L2
section
variable {X : Cx}
/-! ### list times int -/
def rRepR : R2 := fun x y H Q => ∃ l k xs, x = .ref l ∧ y = .int k ∧ Rd H l (.lst xs) ∧ -(2 ^ 63) ≤ k ∧ k < 2 ^ 63 ∧ xs.length * k.toNat ≤ sizeLine ∧
  ∀ p, H p = none → Q (.ref p) (upd H p (.lst (List.replicate k.toNat xs).flatten))
theorem op_repR : OpR X (binaryOp .Mult) rRepR := by
  intro pins s σ H x y v u Q I rx ry h
  obtain ⟨l, k, xs, rfl, rfl, hH, h1, h2, hz, q⟩ := h
  cases rx
  obtain ⟨t, rfl⟩ := ry
  obtain ⟨z, its, n, r, e⟩ := (hH.ok I.hok : ObjOk X.prog X.w H s.heap l (.lst xs))
  have hl := r.length
  have hlen : its.toArray.size * k.toNat ≤ sizeLine := by rw [List.size_toArray, ← hl]; exact hz
  have hcap : ¬ its.toArray.size * k.toNat > (2 ^ 63 - 1) / 8 := by
    have : (sizeLine : Nat) ≤ (2 ^ 63 - 1) / 8 := by decide
    omega
  have hfit : ¬ (!Builtin.List.listFitsIndex k) = true := by
    rw [fitsIndex_both h1 h2]
    exact Bool.false_ne_true
  have hlong : ¬ Builtin.List.listTooLong (its.toArray.size * k.toNat) = true := by
    rw [notLongL hlen]
    exact Bool.false_ne_true
  have hnew : List.foldl (fun x1 x2 => x1 ++ x2) #[] (List.replicate (if its.toArray.isEmpty = true then 0 else k.toNat) its.toArray) = (List.replicate k.toNat its).flatten.toArray := by
    have f0 : ∀ m : Nat, List.foldl (fun x1 x2 => x1 ++ x2) #[] (List.replicate m its.toArray) = (List.replicate m its).flatten.toArray := fun m => by
      have := foldl_rep its m []
      rw [List.nil_append] at this
      exact this
    rw [f0]
    cases its with
    | nil => simp
    | cons a r' => rw [if_neg (by simp)]
  refine wpAny_binaryOp_repeat_ref (T := "list") (U := "int") (by decide) ⟨_, e, rfl⟩ (fun s' => typeIs_int s' k t) noFill_list_mul F.fills_int_mul F.slot_int_rmul repeat_list F.slot_int_index.lookup
    (call_meets F.slot_int_rmul (typeIs_int s k t) F.entry_int_rmul (F.args_int_rmul_2 _ _) (int___rmul___int_list k t l its.toArray n)
      ⟨e, rfl, ⟨_, e, rfl⟩, call_meets F.slot_list_mul ⟨_, e, rfl⟩ F.entry_list_mul (F.args_list_mul_2 _ _) (AutoListH.list___mul___list_int_3 l its.toArray n k t hfit hcap hlong) ⟨e, ?_⟩⟩)
  rw [hnew]
  exact ⟨.ref _, _, I.lnew (t' := s.toks) (r.rep k.toNat) (by rw [PyProof.Rows.lm_len_rep_flat, Nat.mul_comm]; exact hz), rfl, q _ I.fresh⟩
def repD (n : Nat) (l : List D) : List D := (List.replicate n l).flatten
theorem Rps.rep {K : PySem.W.Frag} {F : Hp} {vs : List V} {ds : List D} (r : Rps K F vs ds) : ∀ n : Nat, Rps K F (List.replicate n vs).flatten (repD n ds)
  | 0 => .nil
  | n + 1 => by
    unfold repD
    rw [List.replicate_succ, List.replicate_succ, List.flatten_cons, List.flatten_cons]
    exact r.app (Rps.rep r n)
noncomputable def hRep : D → D → Option Cell := fun a b => match a, b with
  | .lst l, .int k => if smI k = true ∧ l.length * k.toNat ≤ sizeLine then some (.own (.lst (repD k.toNat l))) else none
  | _, _ => none
theorem rep_len (l : List D) (n : Nat) : (repD n l).length = l.length * n := by
  unfold repD
  induction n with
  | zero => simp
  | succ n ih => rw [List.replicate_succ, List.flatten_cons, List.length_append, ih, Nat.mul_succ]; omega
theorem o_rep : OpD X (binaryOp .Mult) hRep := ⟨_, op_repR, fun F H x y a b c Q e rx ry hc q => by
  unfold hRep at hc
  split at hc
  · rename_i l k
    split at hc
    · rename_i hn
      cases hc
      obtain ⟨p1, xs, rfl, s1, r1, n1⟩ := rx.lstR e
      exact ⟨p1, k, xs, rfl, ry.int, s1, by have := smI_ok hn.1; omega, by have := smI_ok hn.1; omega, by rw [r1.len]; exact hn.2, fun p hp => q _ _ (.own hp (.lst (r1.rep _) (by rw [rep_len]; exact hn.2)))⟩
    · cases hc
  · cases hc⟩
theorem o_mul : OpD X (binaryOp .Mult) (hOr hMulI hRep) := OpD.or o_mulI o_rep
/-! ### list(range(..)) -/
open Classical in
noncomputable def smR (j : Int) : Bool := @decide (-(2 ^ 62) ≤ j ∧ j ≤ 16777216) (propDecidable _)
theorem smR_ok {j : Int} (h : smR j = true) : -(2 ^ 62) ≤ j ∧ j ≤ 16777216 := @of_decide_eq_true _ (Classical.propDecidable _) h
theorem smR_nn {j : Int} (h0 : 0 ≤ j) (h1 : j ≤ 16777216) : smR j = true := by
  unfold smR
  exact @decide_eq_true _ (Classical.propDecidable _) (by omega)
noncomputable def dLr1 (f : Env → Option (Hd × Env)) : Env → Option (Cell × Env) := fun ρ => (f ρ).bind fun p => (look p.2 p.1).bind fun d => match d with
  | .int j => if smR j = true then some (.own (.lst (rgD 0 j)), p.2) else none
  | _ => none
noncomputable def dLr2 (f g : Env → Option (Hd × Env)) : Env → Option (Cell × Env) := fun ρ => (f ρ).bind fun p => (g p.2).bind fun q => (look q.2 p.1).bind fun d => (look q.2 q.1).bind fun d2 => match d, d2 with
  | .int i, .int j => if (0 ≤ i ∧ smR i = true) ∧ smR j = true then some (.own (.lst (rgD i j)), q.2) else none
  | _, _ => none
theorem rg_rps {K : PySem.W.Frag} {F : Hp} {a b : Int} : Rps K F (rgV a b) (rgD a b) := by
  unfold rgV rgD
  generalize List.range (b - a).toNat = l
  induction l with
  | nil => exact .nil
  | cons i l ih => exact .cons (.int _) ih
theorem rgD_len (a b : Int) : (rgD a b).length = (b - a).toNat := by unfold rgD; simp
theorem ce_listRg1 {a : Expr} {p p2 pos pos2 : Pos} {f : Env → Option (Hd × Env)} (hc : X.calm = true) (hg : Gl X "list") (hm : X.mg "list" = none) (hg2 : Gl X "range") (hm2 : X.mg "range" = none) (ha : OE X a f)
    (na : starEach [a] X.env = (false, eval a X.env) :: starEach [] X.env := by rfl) (na2 : starEach [.Call (.Name "range" p2) [a] [] pos2] X.env = (false, eval (.Call (.Name "range" p2) [a] [] pos2) X.env) :: starEach [] X.env := by rfl) :
    CE X (.Call (.Name "list" p) [.Call (.Name "range" p2) [a] [] pos2] [] pos) (dLr1 f) := by
  obtain ⟨t, pa, s⟩ := ha
  refine ⟨_, pe_listRg hc hg hm (prg_1 hg2 hm2 pa na) na2, fun G A O F H σ ρ c ρ' Q r e q => ?_⟩
  obtain ⟨⟨h, ρ1⟩, e1, e⟩ := bnd e
  obtain ⟨d, e2, e⟩ := bnd e
  cases d with
  | int j =>
    have e : (if smR j = true then some (Cell.own (.lst (rgD 0 j)), ρ1) else none) = some (c, ρ') := e
    split at e
    · rename_i hj
      have hj := smR_ok hj
      cases e
      refine s G A O F H σ ρ _ _ _ r e1 fun F1 H1 v r1 f1 hv => ?_
      refine ⟨j, (r1.look hv e2).int, ⟨by omega, by omega, hj.1, by omega, by omega⟩, fun p hp => ?_⟩
      obtain ⟨F2, f2, r2⟩ := Res.re r1 (.own hp (.lst (rg_rps (a := 0) (b := j)) (by rw [rgD_len, sizeLine_eq]; omega)))
      exact q F2 _ _ r2 (f1.trans f2)
    · cases e
  | _ => cases e
theorem ce_listRg2 {a b : Expr} {p p2 pos pos2 : Pos} {f g : Env → Option (Hd × Env)} (hc : X.calm = true) (hg : Gl X "list") (hm : X.mg "list" = none) (hg2 : Gl X "range") (hm2 : X.mg "range" = none) (ha : OE X a f) (hb : OE X b g)
    (na : starEach [a, b] X.env = (false, eval a X.env) :: starEach [b] X.env := by rfl) (nb : starEach [b] X.env = (false, eval b X.env) :: starEach [] X.env := by rfl) (hp : (backTo pos2 (starEach [b] X.env)).any (·.1) = false := by rfl)
    (na2 : starEach [.Call (.Name "range" p2) [a, b] [] pos2] X.env = (false, eval (.Call (.Name "range" p2) [a, b] [] pos2) X.env) :: starEach [] X.env := by rfl) :
    CE X (.Call (.Name "list" p) [.Call (.Name "range" p2) [a, b] [] pos2] [] pos) (dLr2 f g) := by
  obtain ⟨t, pa, s⟩ := ha
  obtain ⟨u, pb, s2⟩ := hb
  refine ⟨_, pe_listRg hc hg hm (prg_2 hg2 hm2 pa pb na nb hp) na2, fun G A O F H σ ρ c ρ' Q r e q => ?_⟩
  obtain ⟨⟨h, ρ1⟩, e1, e⟩ := bnd e
  obtain ⟨⟨h2, ρ2⟩, e2, e⟩ := bnd e
  obtain ⟨d, e3, e⟩ := bnd e
  obtain ⟨d2, e4, e⟩ := bnd e
  split at e
  · rename_i i j h9
    split at e
    · rename_i hj
      have hj := (⟨⟨hj.1.1, (smR_ok hj.1.2).2⟩, smR_ok hj.2⟩ : (0 ≤ i ∧ i ≤ 16777216) ∧ -(2 ^ 62) ≤ j ∧ j ≤ 16777216)
      cases e
      refine s G A O F H σ ρ _ _ _ r e1 fun F1 H1 v r1 f1 hv => ?_
      refine s2 G A O F1 H1 σ ρ1 _ _ _ r1 e2 fun F2 H2 w r2 f2 hw => ?_
      refine ⟨i, j, (r2.look (hv.mono f2) e3).int, (r2.look hw e4).int, ⟨by omega, by omega, hj.2.1, by omega, by omega⟩, fun p hp => ?_⟩
      obtain ⟨F3, f3, r3⟩ := Res.re r2 (.own hp (.lst (rg_rps (a := i) (b := j)) (by rw [rgD_len, sizeLine_eq]; omega)))
      exact q F3 _ _ r3 ((f1.trans f2).trans f3)
    · cases e
  · cases e
/-! ### methods that change an own list -/
def rExtR : V → List V → Hp → VK → Prop := fun x vs H Q => ∃ l b xs zs, x = .ref l ∧ vs = [.ref b] ∧ H l = some (.lst xs) ∧ Rd H b (.lst zs) ∧ xs.length + zs.length ≤ sizeLine ∧ Q .non (upd H l (.lst (xs ++ zs)))
theorem mt_extR : MtR X "list.extend" rExtR := by
  intro pins s σ H x vs v us Q I rx rv h
  obtain ⟨l, b, xs, zs, rfl, rfl, hH, hB, hz, q⟩ := h
  cases rx
  obtain ⟨u, rfl, ru⟩ := rv.one
  cases ru
  obtain ⟨z, its, n, r, hl, e⟩ := I.lstM hH
  obtain ⟨z2, its2, n2, r2, e2⟩ := (hB.ok I.hok : ObjOk X.prog X.w H s.heap b (.lst zs))
  have hl2 := r2.length
  have hsz : its.toArray.size + its2.toArray.size ≤ sizeLine := by rw [List.size_toArray, List.size_toArray]; omega
  have hlong : ¬ (!its.toArray.isEmpty && Builtin.List.listTooLong (its.toArray.size + its2.toArray.size)) = true := by
    rw [notLongL hsz, Bool.and_false]
    exact Bool.false_ne_true
  refine call_meets F.slot_list_extend ⟨_, e, rfl⟩ F.entry_list_extend (F.args_list_extend_2 _ _)
    (AutoSeq1.list_extend_list_list_0 l its.toArray n b its2.toArray n2 hlong (by rw [List.size_toArray]; omega) (by omega)) ⟨e, e2, ?_⟩
  refine ⟨.non, _, I.lset (its' := its ++ its2) hH e (by simp) (r.append r2) ?_, rfl, q⟩
  rw [List.length_append]
  omega
/-- a method's effect at the data: the list, what is read of the arguments -/
def MthD (X : Cx) (id : String) (h : List D → List D → Option (List D × D)) : Prop := ∃ r, MtR X id r ∧ ∀ (F H : Hp) (l : Addr) (xs : List V) (vs : List V) (ld ds ld' : List D) (y : D) (Q : VK), Ex F H → H l = some (.lst xs) → Rps X.K F xs ld → ld.length ≤ sizeLine → Rps X.K F vs ds → h ld ds = some (ld', y) →
  (∀ xs' v, Rps X.K F xs' ld' → ld'.length ≤ sizeLine → Rp X.K F v y → Q v (upd H l (.lst xs'))) → r (.ref l) vs H Q
def hAppend : List D → List D → Option (List D × D) := fun l a => match a with
  | [d] => if l.length < sizeLine then some (l ++ [d], .non) else none
  | _ => none
def hExtend : List D → List D → Option (List D × D) := fun l a => match a with
  | [.lst m] => if l.length + m.length ≤ sizeLine then some (l ++ m, .non) else none
  | _ => none
noncomputable def hPopAt : List D → List D → Option (List D × D) := fun l a => match a with
  | [.int i] => if smI i = true then (seqIndex? i l.length).bind fun k => l[k]?.bind fun d => some (l.eraseIdx k, d) else none
  | _ => none
def hPop : List D → List D → Option (List D × D) := fun l a => match a with
  | [] => l[l.length - 1]?.bind fun d => some (l.dropLast, d)
  | _ => none
theorem m_append : MthD X "list.append" hAppend := ⟨_, mt_append, fun F H l xs vs ld ds ld' y Q e hl rx hn rv hc q => by
  unfold hAppend at hc
  split at hc
  · split at hc
    · rename_i d hd
      cases hc
      cases rv with
      | cons h t =>
        cases t
        exact ⟨l, xs, _, rfl, rfl, hl, by rw [rx.len]; exact hd, q _ _ (rx.app (.cons h .nil)) (by simp; omega) .non⟩
    · cases hc
  · cases hc⟩
theorem m_extend : MthD X "list.extend" hExtend := ⟨_, mt_extR, fun F H l xs vs ld ds ld' y Q e hl rx hn rv hc q => by
  unfold hExtend at hc
  split at hc
  · split at hc
    · rename_i m hd
      cases hc
      cases rv with
      | cons h t =>
        cases t
        obtain ⟨b, zs, rfl, hb, rz, nz⟩ := (show Rdb X.K F H _ (.lst m) from .inl h).lstR e
        exact ⟨l, b, xs, zs, rfl, rfl, hl, hb, by rw [rx.len, rz.len]; exact hd, q _ _ (rx.app rz) (by simpa using hd) .non⟩
    · cases hc
  · cases hc⟩
theorem m_popAt : MthD X "list.pop" hPopAt := ⟨_, mt_popAt, fun F H l xs vs ld ds ld' y Q e hl rx hn rv hc q => by
  unfold hPopAt at hc
  split at hc
  · split at hc
    · rename_i i hd
      obtain ⟨k, e1, hc⟩ := bnd hc
      obtain ⟨d, e2, hc⟩ := bnd hc
      cases hc
      cases rv with
      | cons h t =>
        cases t
        cases h
        obtain ⟨v, hv, rp⟩ := rx.get e2
        refine ⟨l, xs, i, k, v, rfl, rfl, hl, by have := smI_ok hd; omega, by have := smI_ok hd; omega, by rw [rx.len]; exact e1, hv, q _ _ (rx.erase k) ?_ rp⟩
        exact Nat.le_trans (len_erase ld k) hn
    · cases hc
  · cases hc⟩
theorem Rps.dropLast {K : PySem.W.Frag} {F : Hp} {vs : List V} {ds : List D} (r : Rps K F vs ds) : Rps K F vs.dropLast ds.dropLast := by
  rw [List.dropLast_eq_take, List.dropLast_eq_take, r.len]
  exact r.tk _
theorem m_pop : MthD X "list.pop" hPop := ⟨_, mt_pop, fun F H l xs vs ld ds ld' y Q e hl rx hn rv hc q => by
  unfold hPop at hc
  split at hc
  · obtain ⟨d, e2, hc⟩ := bnd hc
    cases hc
    cases rv
    obtain ⟨v, hv, rp⟩ := rx.get e2
    exact ⟨l, xs, v, rfl, rfl, hl, by rw [rx.len]; exact hv, q _ _ rx.dropLast (by simp; omega) rp⟩
  · cases hc⟩
/-- reads of arguments; what is written in the slot -/
def mthD (h : List D → List D → Option (List D × D)) (i : Nat) (hs : List Hd) (ρ : Env) : Option (Cell × Env) := (inls hs).bind fun ds => match ρ[i]? with
  | some (some (.own (.lst l))) => (h l ds).bind fun p => some (.val p.2, ρ.set i (some (.own (.lst p.1))))
  | some (some (.par j (.lst l))) => (h l ds).bind fun p => some (.val p.2, ρ.set i (some (.par j (.lst p.1))))
  | _ => none
def dMth (h : List D → List D → Option (List D × D)) (i : Nat) (fa : Env → Option (List Hd × Env)) : Env → Option (Cell × Env) := fun ρ => match ρ[i]? with
  | some (some (.own (.lst _))) => (fa ρ).bind fun p => mthD h i p.1 p.2
  | some (some (.par _ (.lst _))) => (fa ρ).bind fun p => mthD h i p.1 p.2
  | _ => none
theorem mthD_at {h : List D → List D → Option (List D × D)} {i : Nat} {hs : List Hd} {ρ ρ' : Env} {c : Cell} (e : mthD h i hs ρ = some (c, ρ')) : ∃ (ds l l' : List D) (y : D) (c0 c1 : Cell), inls hs = some ds ∧ ρ[i]? = some (some c0) ∧ c0.isOwn = true ∧ c0.d = .lst l ∧ c1.d = .lst l' ∧ h l ds = some (l', y) ∧ c = .val y ∧ ρ' = ρ.set i (some c1) ∧
    (∀ j, c0 = .par j c0.d → c1 = .par j c1.d) ∧ (c0 = .own c0.d → c1 = .own c1.d) := by
  obtain ⟨ds, e1, e⟩ := bnd e
  split at e
  · rename_i l hq
    obtain ⟨⟨l', y⟩, e2, e⟩ := bnd e
    cases e
    exact ⟨ds, l, l', y, _, .own (.lst l'), e1, hq, rfl, rfl, rfl, e2, rfl, rfl, (fun j z => nomatch z), fun _ => rfl⟩
  · rename_i j l hq
    obtain ⟨⟨l', y⟩, e2, e⟩ := bnd e
    cases e
    refine ⟨ds, l, l', y, _, .par j (.lst l'), e1, hq, rfl, rfl, rfl, e2, rfl, rfl, (fun j' z => ?_), fun z => nomatch z⟩
    injection z with z1 z2
    rw [z1]
    rfl
  · cases e
theorem snd_mth {id : String} {r : V → List V → Hp → VK → Prop} {h : List D → List D → Option (List D × D)} {i : Nat} {hs : List Hd} {G : Hp} {A : Nat → Option Addr} {O F H : Hp} {σ : L2.St} {ρ ρ' : Env} {c : Cell} {vs : List V} {o : V} {Q : VK} (s : ∀ (F H : Hp) (l : Addr) (xs : List V) (vs : List V) (ld ds ld' : List D) (y : D) (Q : VK), Ex F H → H l = some (.lst xs) → Rps X.K F xs ld → ld.length ≤ sizeLine → Rps X.K F vs ds → h ld ds = some (ld', y) →
    (∀ xs' v, Rps X.K F xs' ld' → ld'.length ≤ sizeLine → Rp X.K F v y → Q v (upd H l (.lst xs'))) → r (.ref l) vs H Q) (re : RE ⟨X.K, G, A⟩ O F H σ ρ) (hv : HdRs X.K F σ vs hs) (ho : σ[i]? = some (some o)) (e : mthD h i hs ρ = some (c, ρ'))
    (q : ∀ F' H' v, RE ⟨X.K, G, A⟩ O F' H' (some v :: σ) (some c :: ρ') → Le F F' → Q v H') : r o vs H Q := by
  obtain ⟨ds, l, l', y, c0, c1, e1, e2, co, d0, d1, e3, rfl, rfl, hp1, hp2⟩ := mthD_at e
  obtain ⟨o', eo, hcr⟩ := re.at_ i c0 e2
  rw [ho] at eo; cases eo
  obtain ⟨a, u, rfl, ha, ro, fa⟩ := hcr.obj co
  have ro2 : RO X.K F u (.lst l) := d0 ▸ ro
  cases ro2 with
  | lst rx hn =>
    refine s F H a _ vs l ds l' y Q re.fh ha rx hn (inls_rps hv e1) e3 fun xs' v rx' hn' rv => ?_
    exact q F _ v ((re.write e2 co ho hp1 hp2 (d1 ▸ .lst rx' hn')).pushV rv) (Le.refl F)
theorem ce_mth {id : String} {x name : Str} {h : List D → List D → Option (List D × D)} (i : Nat) {e : Expr} {es : List Expr} {fa : Env → Option (List Hd × Env)} {p apos cpos : Pos} (m : MthD X id h) (pa : PlainAttrs "list") (slot : Slot "list" name id) (hty : typeOf (.builtin id) = pure (.type "method_descriptor"))
    (ha : OA X (e :: es) fa) (hN : X.N[i]? = some x := by rfl) (hx : Vis X.env.scope x := by first | exact Or.inl rfl | exact Or.inr (Or.inl rfl) | exact Or.inr (Or.inr rfl)) (hd : (x == ("__debug__" : Str)) = false := by decide) (hcd : (x == ("__classdict__" : Str)) = false := by decide)
    (hbase : attributeBase (.Name x p) name X.env (eval (.Name x p) X.env) = eval (.Name x p) X.env := by rfl)
    (hfew : ((backTo cpos (starEach (e :: es) X.env)).all (fun x => !x.1) && (backToKw cpos (keywordEach [] X.env)).all (fun x => x.1.isSome)
      && decide ((e :: es).length + ([] : List Keyword).length + (if ([] : List Keyword).isEmpty then 0 else 1) < 30)) = true := by rfl)
    (hline : (apos.endLine == cpos.line) = true := by rfl) (hs : starEach (e :: es) X.env = (false, eval e X.env) :: starEach es X.env := by rfl) (hplain : (backTo cpos (starEach es X.env)).any (·.1) = false := by rfl) :
    CE X (.Call (.Attribute (.Name x p) name apos) (e :: es) [] cpos) (dMth h i fa) := by
  obtain ⟨t, pt, s⟩ := ha
  obtain ⟨r, hm, sm⟩ := m
  refine ⟨_, pe_bm pa slot hty hm (pe_var hN hx hd hcd) pt hbase hfew hline hs hplain, fun G A O F H σ ρ c ρ' Q re e q => ?_⟩
  have main : ∀ c0 : Cell, ρ[i]? = some (some c0) → c0.isOwn = true → (∃ l, c0.d = .lst l) → ((fa ρ).bind fun p => mthD h i p.1 p.2) = some (c, ρ') → tBM X.K "list" r (tVar i) t σ H Q := by
    rintro c0 hc0 co ⟨l0, hl0⟩ e
    obtain ⟨⟨hs, ρ1⟩, e1, e⟩ := bnd e
    obtain ⟨o, eo, hcr⟩ := re.at_ i c0 hc0
    obtain ⟨a, u, rfl, hau, ro, _⟩ := hcr.obj co
    rw [hl0] at ro
    cases ro with
    | lst rx hn =>
      refine ⟨.ref a, eo, .inl ⟨rfl, _, .inl (.inl hau)⟩, ?_⟩
      refine s G A O F H σ ρ _ _ _ re e1 fun F1 H1 vs r1 f1 hv => ?_
      exact snd_mth (id := id) sm r1 hv eo e fun F' H' v r' f' => q F' H' v r' (f1.trans f')
  unfold dMth at e
  split at e
  · rename_i l hq; exact main _ hq rfl ⟨_, rfl⟩ e
  · rename_i j l hq; exact main _ hq rfl ⟨_, rfl⟩ e
  · cases e
theorem ce_append (i : Nat) {x : Str} {e : Expr} {fa : Env → Option (List Hd × Env)} {p apos cpos : Pos} (ha : OA X [e] fa) (hN : X.N[i]? = some x := by rfl) (hx : Vis X.env.scope x := by first | exact Or.inl rfl | exact Or.inr (Or.inl rfl) | exact Or.inr (Or.inr rfl)) (hd : (x == ("__debug__" : Str)) = false := by decide) (hcd : (x == ("__classdict__" : Str)) = false := by decide)
    (hbase : attributeBase (.Name x p) "append" X.env (eval (.Name x p) X.env) = eval (.Name x p) X.env := by rfl)
    (hfew : ((backTo cpos (starEach [e] X.env)).all (fun x => !x.1) && (backToKw cpos (keywordEach [] X.env)).all (fun x => x.1.isSome)
      && decide ([e].length + ([] : List Keyword).length + (if ([] : List Keyword).isEmpty then 0 else 1) < 30)) = true := by rfl)
    (hline : (apos.endLine == cpos.line) = true := by rfl) (hs : starEach [e] X.env = (false, eval e X.env) :: starEach [] X.env := by rfl) (hplain : (backTo cpos (starEach [] X.env)).any (·.1) = false := by rfl) :
    CE X (.Call (.Attribute (.Name x p) "append" apos) [e] [] cpos) (dMth hAppend i fa) := ce_mth i m_append F.plainAttrs_list F.slot_list_append F.type_list_append ha hN hx hd hcd hbase hfew hline hs hplain
theorem ce_extend (i : Nat) {x : Str} {e : Expr} {fa : Env → Option (List Hd × Env)} {p apos cpos : Pos} (ha : OA X [e] fa) (hN : X.N[i]? = some x := by rfl) (hx : Vis X.env.scope x := by first | exact Or.inl rfl | exact Or.inr (Or.inl rfl) | exact Or.inr (Or.inr rfl)) (hd : (x == ("__debug__" : Str)) = false := by decide) (hcd : (x == ("__classdict__" : Str)) = false := by decide)
    (hbase : attributeBase (.Name x p) "extend" X.env (eval (.Name x p) X.env) = eval (.Name x p) X.env := by rfl)
    (hfew : ((backTo cpos (starEach [e] X.env)).all (fun x => !x.1) && (backToKw cpos (keywordEach [] X.env)).all (fun x => x.1.isSome)
      && decide ([e].length + ([] : List Keyword).length + (if ([] : List Keyword).isEmpty then 0 else 1) < 30)) = true := by rfl)
    (hline : (apos.endLine == cpos.line) = true := by rfl) (hs : starEach [e] X.env = (false, eval e X.env) :: starEach [] X.env := by rfl) (hplain : (backTo cpos (starEach [] X.env)).any (·.1) = false := by rfl) :
    CE X (.Call (.Attribute (.Name x p) "extend" apos) [e] [] cpos) (dMth hExtend i fa) := ce_mth i m_extend F.plainAttrs_list F.slot_list_extend F.type_list_extend ha hN hx hd hcd hbase hfew hline hs hplain
theorem ce_popAt (i : Nat) {x : Str} {e : Expr} {fa : Env → Option (List Hd × Env)} {p apos cpos : Pos} (ha : OA X [e] fa) (hN : X.N[i]? = some x := by rfl) (hx : Vis X.env.scope x := by first | exact Or.inl rfl | exact Or.inr (Or.inl rfl) | exact Or.inr (Or.inr rfl)) (hd : (x == ("__debug__" : Str)) = false := by decide) (hcd : (x == ("__classdict__" : Str)) = false := by decide)
    (hbase : attributeBase (.Name x p) "pop" X.env (eval (.Name x p) X.env) = eval (.Name x p) X.env := by rfl)
    (hfew : ((backTo cpos (starEach [e] X.env)).all (fun x => !x.1) && (backToKw cpos (keywordEach [] X.env)).all (fun x => x.1.isSome)
      && decide ([e].length + ([] : List Keyword).length + (if ([] : List Keyword).isEmpty then 0 else 1) < 30)) = true := by rfl)
    (hline : (apos.endLine == cpos.line) = true := by rfl) (hs : starEach [e] X.env = (false, eval e X.env) :: starEach [] X.env := by rfl) (hplain : (backTo cpos (starEach [] X.env)).any (·.1) = false := by rfl) :
    CE X (.Call (.Attribute (.Name x p) "pop" apos) [e] [] cpos) (dMth hPopAt i fa) := ce_mth i m_popAt F.plainAttrs_list F.slot_list_pop F.type_list_pop ha hN hx hd hcd hbase hfew hline hs hplain
end
end Q
end
section
set_option maxHeartbeats 1000000
namespace Q
open PySem PySem.Spec PyProof.Rows L2
/-! ### sorted -/
def pyOr (d : D) : PyData := (d.py).getD .none
def leD (a b : D) : Bool := PySem.W.dataLe false pyOr a b
def allAlikeB (l : List PyData) : Bool := l.all fun d => l.all fun d' => PySem.W.alike d d'
def isTupC : PyData → Bool
  | .tuple (_ :: _) => true
  | _ => false
def isPlain : PyData → Bool
  | .none => false
  | .tuple _ => false
  | _ => true
def sortableB (l : List PyData) : Bool := l.all isTupC || l.all isPlain
def okSort (l : List D) : Bool := l.all (fun d => d.py.isSome) && (allAlikeB (l.map pyOr) && (sortableB (l.map pyOr) && l.all fun d => decide ((pyOr d).depth ≤ 60)))
theorem allAlike_of {l : List PyData} (h : allAlikeB l = true) : PySem.W.AllAlike l := fun d hd d' hd' => by
  unfold allAlikeB at h
  rw [List.all_eq_true] at h
  have := h d hd
  rw [List.all_eq_true] at this
  exact this d' hd'
theorem sortable_of {l : List PyData} (h : sortableB l = true) : PySem.W.Sortable l := by
  unfold sortableB at h
  rw [Bool.or_eq_true] at h
  rcases h with h | h
  · refine .inl fun d hd => ?_
    rw [List.all_eq_true] at h
    have := h d hd
    cases d with
    | tuple xs => cases xs with
      | nil => cases this
      | cons x r => exact ⟨x, r, rfl⟩
    | _ => cases this
  · refine .inr fun d hd => ?_
    rw [List.all_eq_true] at h
    have := h d hd
    cases d with
    | tuple xs => cases this
    | none => cases this
    | _ => exact ⟨(fun z => nomatch z), fun _ z => nomatch z⟩
section
variable {X : Cx}
def rSortD (K : PySem.W.Frag) : List V → Hp → VK → Prop := fun xs H Q => ∃ (a : Addr) (vs : List V) (ps : List PyData), xs = [.ref a] ∧ SqL K H a vs ∧ DpAll K H vs ps ∧ vs.length = ps.length ∧ PySem.W.AllAlike ps ∧ PySem.W.Sortable ps ∧ (∀ p ∈ ps, p.depth ≤ 60) ∧
  ∀ p, H p = none → Q (.ref p) (upd H p (.lst (((vs.zip ps).mergeSort (PySem.W.dataLe false Prod.snd)).map (·.1))))
theorem each_of {h : Heap} : ∀ {vs : List V} {ps : List PyData} {its : List Value} {as : List Addr}, Vals vs its → ReadsAll h its ps as → PySem.W.EachIs (fun (u : Value) (b : V × PyData) => RelV b.1 u) its (vs.zip ps) ∧ PySem.W.EachIs (fun (u : Value) (b : V × PyData) => ∃ as, Reads h u b.2 as) its (vs.zip ps)
  | _, _, _, _, .nil, r => by cases r; exact ⟨.nil, .nil⟩
  | _, _, _, _, .cons h t, r => by
    cases r with
    | cons h2 t2 =>
      obtain ⟨a, b⟩ := each_of t t2
      exact ⟨.cons h a, .cons ⟨_, h2⟩ b⟩
theorem vals_each : ∀ {out : List Value} {l : List (V × PyData)}, PySem.W.EachIs (fun (u : Value) (b : V × PyData) => RelV b.1 u) out l → Vals (l.map (·.1)) out
  | _, _, .nil => .nil
  | _, _, .cons h t => .cons h (vals_each t)
theorem cr_sortD {k : Nat} (hr : Room k X.A) : CallR X (.builtin "sorted") (rSortD X.K) := by
  intro pins s σ H xs us Q I r h
  obtain ⟨a, vs, ps, rfl, hs, dp, hlen, hal, hk, hd, q⟩ := h
  obtain ⟨its, rv, pl, hz⟩ := I.list hs
  rw [Vals.ref1 r]
  obtain ⟨as, ra⟩ := Dp.readsAll I ps vs its dp rv
  obtain ⟨e1, e2⟩ := each_of rv ra
  have hmap : (vs.zip ps).map Prod.snd = ps := List.map_snd_zip (by omega)
  have hzl : (vs.zip ps).length = vs.length := by rw [List.length_zip]; omega
  refine PySem.W.sorted_data (enc := Prod.snd) (R := fun u b => RelV b.1 u) pl.isList e1 e2 (by rw [hmap]; exact hal) (by rw [hmap]; exact hk) (by rw [hzl]; exact hz) (fun b hb => ?_) fun out hl he => ?_
  · have : b.2 ∈ ps := by rw [← hmap]; exact List.mem_map.mpr ⟨b, hb, rfl⟩
    have := hd _ this
    have := hr.un
    omega
  · obtain ⟨ep, he'⟩ := PyProof.Rows.sortedAll_at s.heap its out.toArray
    refine ⟨.ref _, upd H (s.heap.objs.size + 1) (.lst _), I.laid (t' := s.toks) (fun _ _ => PyProof.Rows.sortedAll_old) (Nat.le_succ _) ⟨?_, out, ep, vals_each he, by simpa using he'⟩, rfl, q _ (I.hok.fresh (Nat.le_succ _))⟩
    rw [List.length_map, List.length_mergeSort, hzl]
    exact hz
def hSorted : List D → Option Cell
  | [.lst l] => if okSort l = true then some (.own (.lst (l.mergeSort leD))) else none
  | _ => none
theorem pyAll_or : ∀ {l : List D}, (l.all fun d => d.py.isSome) = true → pyAll l = some (l.map pyOr)
  | [], _ => rfl
  | d :: l, h => by
    rw [List.all_cons, Bool.and_eq_true] at h
    obtain ⟨h1, h2⟩ := h
    obtain ⟨p, hp⟩ := Option.isSome_iff_exists.mp h1
    have ih := pyAll_or h2
    simp only [pyAll, hp, ih, List.map_cons, pyOr, Option.getD_some]
    rfl
theorem rps_zip {K : PySem.W.Frag} {F : Hp} : ∀ {vs : List V} {ds : List D}, Rps K F vs ds → ∀ p ∈ vs.zip ds, Rp K F p.1 p.2
  | _, _, .nil, p, h => by simp at h
  | _, _, .cons h t, p, hp => by
    rw [List.zip_cons_cons, List.mem_cons] at hp
    rcases hp with rfl | hp
    · exact h
    · exact rps_zip t p hp
theorem rps_of {K : PySem.W.Frag} {F : Hp} : ∀ {l : List (V × D)}, (∀ p ∈ l, Rp K F p.1 p.2) → Rps K F (l.map (·.1)) (l.map (·.2))
  | [], _ => .nil
  | p :: l, h => .cons (h p List.mem_cons_self) (rps_of fun q hq => h q (List.mem_cons_of_mem _ hq))
theorem c_sorted {k : Nat} (hr : Room k X.A) : CallD X (.builtin "sorted") hSorted := ⟨_, cr_sortD hr, fun F H vs ds c Q e rs hc q => by
  unfold hSorted at hc
  split at hc
  · rename_i l
    split at hc
    · rename_i hok
      cases hc
      obtain ⟨v, rfl, rd⟩ := rs.one
      obtain ⟨a, xs, rfl, hs, rp, n⟩ := rd.lst e
      unfold okSort at hok
      rw [Bool.and_eq_true, Bool.and_eq_true, Bool.and_eq_true] at hok
      obtain ⟨h1, h2, h3, h4⟩ := hok
      refine ⟨a, xs, l.map pyOr, rfl, hs, rp.dp e (pyAll_or h1), by rw [List.length_map, rp.len], allAlike_of h2, sortable_of h3, fun p hp => ?_, fun p hp => q _ _ (.own hp ?_)⟩
      · obtain ⟨d, hd, rfl⟩ := List.mem_map.mp hp
        rw [List.all_eq_true] at h4
        exact of_decide_eq_true (h4 d hd)
      · let le3 : V × D → V × D → Bool := fun p q => leD p.2 q.2
        have e1 : ((xs.zip l).mergeSort le3).map (fun p => (p.1, pyOr p.2)) = ((xs.zip l).map fun p => (p.1, pyOr p.2)).mergeSort (PySem.W.dataLe false Prod.snd) := List.map_mergeSort fun a _ b _ => rfl
        have e2 : ((xs.zip l).mergeSort le3).map Prod.snd = ((xs.zip l).map Prod.snd).mergeSort leD := List.map_mergeSort fun a _ b _ => rfl
        have e3 : (xs.zip l).map Prod.snd = l := List.map_snd_zip (by rw [rp.len]; exact Nat.le_refl _)
        have e4 : (xs.zip l).map (fun p => (p.1, pyOr p.2)) = xs.zip (l.map pyOr) := by rw [List.zip_map_right]; rfl
        rw [← e4, ← e1, List.map_map]
        rw [e3] at e2
        rw [← e2]
        refine .lst (rps_of fun p hp => rps_zip rp p ((List.mergeSort_perm _ _).mem_iff.mp hp)) ?_
        rw [List.length_map, List.length_mergeSort, List.length_zip]
        exact Nat.le_trans (Nat.min_le_right _ _) n
    · cases hc
  · cases hc⟩
/-! sorted(d) -/
def strsD : List D → Option (List Str)
  | [] => some []
  | .str x :: l => (strsD l).bind fun xs => some (x :: xs)
  | _ :: _ => none
theorem strsD_map : ∀ {l : List D} {xs : List Str}, strsD l = some xs → l = xs.map D.str
  | [], xs, h => by simp only [strsD] at h; cases h; rfl
  | d :: l, xs, h => by
    cases d with
    | str x =>
      simp only [strsD] at h
      obtain ⟨ys, e1, e2⟩ := bnd h
      cases e2
      rw [strsD_map e1]
      rfl
    | _ => simp only [strsD] at h; cases h
def leS (a b : Str) : Bool := !ltCps b.cps.toList a.cps.toList
theorem leD_str (a b : Str) : leD (.str a) (.str b) = leS a b := by
  have h : PySem.W.dataLt (.str b) (.str a) = ltCps b.cps.toList a.cps.toList := by rw [PySem.W.dataLt_str, ltCps_eq]
  show (!PySem.W.dataLt (.str b) (.str a)) = _
  rw [h]
  rfl
theorem leS_iff {a b : Str} : leS a b = true ↔ a.cps.toList ≤ b.cps.toList := by
  unfold leS
  rw [ltCps_eq, Bool.not_eq_true', decide_eq_false_iff_not]
  exact List.not_lt
theorem leS_trans (a b c : Str) (h1 : leS a b = true) (h2 : leS b c = true) : leS a c = true := by
  rw [leS_iff] at *
  exact List.le_trans h1 h2
theorem leS_total (a b : Str) : (leS a b || leS b a) = true := by
  rw [Bool.or_eq_true, leS_iff, leS_iff]
  exact List.le_total _ _
theorem leS_antisymm (a b : Str) (h1 : leS a b = true) (h2 : leS b a = true) : a = b := by
  rw [leS_iff] at *
  have h : a.cps.toList = b.cps.toList := List.le_antisymm h1 h2
  exact PySem.W.str_of_cps h
theorem risingS_pairwise : ∀ {l : List Str} {p : Str}, risingS p l = true → (p :: l).Pairwise fun a b => leS a b = true
  | [], p, _ => List.pairwise_singleton _ _
  | x :: r, p, h => by
    have h : (!ltCps x.cps.toList p.cps.toList && risingS x r) = true := h
    rw [Bool.and_eq_true] at h
    have ih := risingS_pairwise h.2
    refine List.pairwise_cons.mpr ⟨fun y hy => ?_, ih⟩
    rcases List.mem_cons.mp hy with rfl | hy
    · exact h.1
    · exact leS_trans _ _ _ h.1 ((List.pairwise_cons.mp ih).1 y hy)
theorem sortedS_pairwise : ∀ {l : List Str}, sortedS l = true → l.Pairwise fun a b => leS a b = true
  | [], _ => .nil
  | x :: r, h => risingS_pairwise h
theorem sortedS_eq {l m : List Str} (hp : l.Perm m) (hs : sortedS l = true) : l = m.mergeSort leS :=
  List.Perm.eq_of_pairwise (le := fun a b => leS a b = true) (fun a b _ _ => leS_antisymm a b) (sortedS_pairwise hs) (List.pairwise_mergeSort leS_trans leS_total m) (hp.trans (List.mergeSort_perm m leS).symm)
def hSortedD : List D → Option Cell
  | [.dct false l] => (strsD (l.map (·.1))).bind fun xs => if xs.length < 64 then some (.own (.lst ((l.map (·.1)).mergeSort leD))) else none
  | _ => none
theorem RpK.strs {K : PySem.W.Frag} {F : Hp} : ∀ {kvs : List (Key × V)} {l : List (D × D)} {xs : List Str}, RpK K F kvs l → strsD (l.map (·.1)) = some xs → kvs.map (·.1) = xs.map Sum.inr
  | _, _, xs, .nil, h => by simp only [List.map_nil, strsD] at h; cases h; rfl
  | _, _, xs, .cons (k := k) (d := d) (ds := ds) h t, e => by
    cases k with
    | inl i => simp only [List.map_cons, kD, strsD] at e; cases e
    | inr x =>
      simp only [List.map_cons, kD, strsD] at e
      obtain ⟨ys, e1, e2⟩ := bnd e
      cases e2
      rw [List.map_cons, RpK.strs t e1]
      rfl
theorem rps_strs {K : PySem.W.Frag} {F : Hp} : ∀ xs : List Str, Rps K F (xs.map V.str) (xs.map D.str)
  | [] => .nil
  | x :: l => .cons (.str x) (rps_strs l)
theorem c_sortedDct (hc : X.calm = true) : CallD X (.builtin "sorted") hSortedD := ⟨_, call_sortedD hc, fun F H vs ds c Q e rs hc q => by
  unfold hSortedD at hc
  split at hc
  · rename_i l
    obtain ⟨xs, e1, hc⟩ := bnd hc
    split at hc
    · rename_i hl
      cases hc
      obtain ⟨v, rfl, rd⟩ := rs.one
      obtain ⟨a, kvs, rfl, hs, rp⟩ := rd.dk e
      refine ⟨a, kvs, xs, rfl, hs, rp.strs e1, hl, fun ys p hp hst hn => q _ _ (.own hn ?_)⟩
      rw [strsD_map e1, ← List.map_mergeSort (r := leS) (f := D.str) (s := leD) fun a _ b _ => (leD_str a b).symm, ← sortedS_eq hp hst]
      refine .lst (rps_strs ys) ?_
      rw [List.length_map, hp.length_eq, sizeLine_eq]
      omega
    · cases hc
  · cases hc⟩
theorem c_sortedA {k : Nat} (hr : Room k X.A) (hc : X.calm = true) : CallD X (.builtin "sorted") (hOrC hSorted hSortedD) := CallD.or (c_sorted hr) (c_sortedDct hc)
end
end Q
end
section
set_option maxHeartbeats 1000000
namespace Q
open PySem PySem.Spec PyProof.Rows L2
/-! ### dict(pairs) -/
section
variable {X : Cx}
def mergeT (bs : List (List Key × Addr × V)) : List (List Key × V) := bs.foldl (fun acc b => putK acc b.1 b.2.2) []
def PrT (K : PySem.W.Frag) (H : Hp) (p : Addr) (b : List Key × Addr × V) : Prop := SqT K H p [.ref b.2.1, b.2.2] ∧ H b.2.1 = some (.tup (b.1.map kV))
theorem prt_of {pins : List (Addr × Obj)} {σ : L2.St} {H : Hp} {s : Shared} (I : Inv X pins σ H s) : ∀ {ps : List Addr} {bs : List (List Key × Addr × V)}, Paired (PrT X.K H) ps bs →
    ∃ prs : List (List Key × Addr × Value), prs.length = ps.length ∧ (∀ (j : Nat) (q : List Key × Addr × Value), prs[j]? = some q → ∃ b, ps[j]? = some b ∧ IsTup s.heap b #[.ref q.2.1, q.2.2] ∧ (tupleKind (mixKind X.prog X.w)).is s.heap q.1 q.2.1) ∧
      ∀ {kvs : List (List Key × V)} {xs : List (List Key × Addr × Value)}, KT H kvs xs → KT H (bs.foldl (fun acc b => putK acc b.1 b.2.2) kvs) (storedAllH xs prs)
  | _, _, .nil => ⟨[], rfl, fun j q e => by simp at e, fun h => h⟩
  | _, _, .cons (a := p) (b := b) h t => by
    obtain ⟨prs, hl, hp, hk⟩ := prt_of I t
    obtain ⟨its, rv, ht, _⟩ := I.tuple h.1
    obtain ⟨u, y, ei, ru, ry⟩ := vals2 rv
    subst ei
    cases ru
    refine ⟨(b.1, b.2.1, y) :: prs, by rw [List.length_cons, List.length_cons, hl], fun j q e => ?_, fun {kvs xs} kt => ?_⟩
    · cases j with
      | zero =>
        have e' : (b.1, b.2.1, y) = q := Option.some.inj e
        subst e'
        exact ⟨p, rfl, ht, key_of I.hok h.2⟩
      | succ j =>
        obtain ⟨b', e1, e2, e3⟩ := hp j q (by simpa using e)
        exact ⟨b', by simpa using e1, e2, e3⟩
    · exact hk (kt.put b.1 h.2 ry)
theorem tk_keeps {P : Program} {w : World} {h h' : Heap} {k : List Key} {a : Addr} (x : (tupleKind (mixKind P w)).is h k a) (hk : ∀ o, h.get? a = some o → h'.get? a = some o) : (tupleKind (mixKind P w)).is h' k a := by
  obtain ⟨o, items, n, ho, r⟩ := x
  exact ⟨o, items, n, hk _ ho, r⟩
theorem call_dictT {k : Nat} (hr : Room k X.A) : CallR X (.type "dict") (fun xs H Q => ∃ (a : Addr) (ps : List Addr) (bs : List (List Key × Addr × V)), xs = [.ref a] ∧ SqL X.K H a (ps.map V.ref) ∧ Paired (PrT X.K H) ps bs ∧
    ∀ p, H p = none → Q (.ref p) (upd H p (.dT (mergeT bs)))) := by
  intro pins s σ H xs us Q I r q
  obtain ⟨a, ps, bs, ex, hq, hp, q⟩ := q
  subst ex
  obtain ⟨u, eu, rx⟩ := vals1 r
  subst eu
  cases rx
  obtain ⟨its, rv, pl, hz⟩ := I.list hq
  have ei := refs_at rv
  subst ei
  rw [List.length_map] at hz
  obtain ⟨prs, hl, hpr, hkt⟩ := prt_of I hp
  obtain ⟨o, n, ho, hc, hd, hdat⟩ := pl
  let pv : List (Value × Value) := prs.map fun p => (.ref p.2.1, p.2.2)
  have hpl : pv.length = prs.length := List.length_map _
  refine PySem.call_dict_pairsH (knd := tupleKind (mixKind X.prog X.w)) (ps := prs) (PySem.PairArg.list a (ps.map Value.ref).toArray (fun j => ps.getD j 0) pv) hr.hd (show X.A.in1.in1.units < cLine from by have := hr.un; show X.A.units + 1 + 1 < cLine; omega)
    ⟨⟨o, n, ho, hc, hd, hdat⟩, ⟨by simp [hpl, hl], fun j k v e => ?_⟩⟩ ⟨hpl.symm, fun i key v e => ?_⟩ (fun h' hk x hx => ?_) (by rw [hpl, hl]; exact hz) fun h' tk hd' hk => ?_
  · obtain ⟨q', e1, e2⟩ := map_get e
    cases e2
    obtain ⟨b, e3, e4, _⟩ := hpr j q' e1
    refine ⟨?_, .inl ?_⟩
    · simp [e3]
    · obtain ⟨o', h1, h2, n', h3⟩ := e4
      have : ps.getD j 0 = b := by simp [e3]
      show s.heap.IsTuple (ps.getD j 0) _
      rw [this]
      exact ⟨o', h1, h2, n', h3⟩
  · obtain ⟨q', e1, e2⟩ := map_get e
    cases e2
    exact ⟨q'.1, q'.2.1, e1, rfl⟩
  · obtain ⟨j, hj⟩ := List.mem_iff_getElem?.mp hx
    obtain ⟨b, _, _, e5⟩ := hpr j x hj
    exact tk_keeps e5 fun o e => hk _ o (Nat.ne_of_lt (Heap.lt_size e)) (by simp) e
  · have hm : (s.heap.objs.size == sysModules) = false := beq_eq_false_iff_ne.mpr (Nat.ne_of_gt I.big)
    have hf := I.hok.fresh (Nat.le_refl s.heap.objs.size)
    have kt : KT H (mergeT bs) (storedAllH [] prs) := hkt (kvs := []) (xs := []) .nil
    have kt' : KT (upd H s.heap.objs.size (.dT (mergeT bs))) (mergeT bs) (storedAllH [] prs) := kt.keeps fun b ys e => by rw [upd_ne (ne_of_none e hf)]; exact e
    have hlen : (mergeT bs).length ≤ sizeLine := by
      have h1 : (mergeT bs).length = (storedAllH [] prs).length := Paired.length kt
      have h2 := storedAllH_length prs []
      simp only [List.length_nil] at h2
      omega
    obtain ⟨o9, es, ep, g1, g2, g3, g4, _, g5⟩ := hd'
    exact ⟨.ref s.heap.objs.size, upd H s.heap.objs.size (.dT (mergeT bs)), I.laid (t' := tk) (fun b o e => hk b o (by simp) e) (Nat.le_refl _)
      (show ObjOk X.prog X.w _ _ _ (.dT (mergeT bs)) from ⟨hlen, hm, _, kt', o9, es, ep, g1, g2, g3, g4, g5⟩), rfl, q _ hf⟩
/-! at the data -/
def foldP {κ : Type} [DecidableEq κ] (kf : D → Option κ) : List D → List (D × D) → Option (List (D × D))
  | [], acc => some acc
  | .tup [kd, d] :: l, acc => (kf kd).bind fun k => foldP kf l (putP kf acc k kd d)
  | _ :: _, _ => none
def hDictK : List D → Option Cell
  | [.lst l] => (foldP key1 l []).bind fun m => some (.own (.dct false m))
  | _ => none
def hDictT : List D → Option Cell
  | [.lst l] => (foldP keyT l []).bind fun m => some (.own (.dct true m))
  | _ => none
theorem foldP_K {K : PySem.W.Frag} {F : Hp} : ∀ {ds : List D} {vs : List V} {acc : List (D × D)} {m : List (D × D)} {kacc : List (Key × V)}, Rps K F vs ds → foldP key1 ds acc = some m → RpK K F kacc acc →
    ∃ (ps : List Addr) (kvs : List (Key × V)), vs = ps.map V.ref ∧ Paired (fun p kv => F p = some (.tup [kV kv.1, kv.2])) ps kvs ∧ RpK K F (mergeK kacc kvs) m
  | [], vs, acc, m, kacc, r, e, ra => by
    cases r
    cases (show some acc = some m from e)
    exact ⟨[], [], rfl, .nil, ra⟩
  | d :: ds, _, acc, m, kacc, .cons (v := v) (vs := vs) h t, e, ra => by
    cases h with
    | @tup a xs l hf hx hn =>
      match l, hx, e with
      | [kd, d], hx, e =>
        obtain ⟨k, e1, e2⟩ := bnd (show (key1 kd).bind _ = some m from e)
        have ek := key1_inv e1
        subst ek
        cases hx with
        | cons hk hx => cases hx with
          | @cons y _ _ _ hv hx =>
            cases hx
            rename_i kv0
            have ekv : kv0 = kV k := by cases k <;> (cases hk; rfl)
            subst ekv
            obtain ⟨ps, kvs, e3, e4, e5⟩ := foldP_K t e2 (put_K hv ra)
            exact ⟨a :: ps, (k, y) :: kvs, by rw [e3]; rfl, .cons hf e4, e5⟩
      | [], hx, e => cases e
      | [_], hx, e => cases e
      | _ :: _ :: _ :: _, hx, e => cases e
    | _ => cases e
theorem c_dictK (hc : X.calm = true) : CallD X (.type "dict") hDictK := ⟨_, call_dictP hc, fun F H vs ds c Q e rs hc q => by
  unfold hDictK at hc
  split at hc
  · rename_i l
    obtain ⟨m, e1, hc⟩ := bnd hc
    cases hc
    obtain ⟨v, rfl, rd⟩ := rs.one
    obtain ⟨a, xs, rfl, hs, rp, n⟩ := rd.lst e
    obtain ⟨ps, kvs, e3, e4, e5⟩ := foldP_K rp e1 .nil
    subst e3
    refine ⟨a, ps, kvs, rfl, hs, ?_, fun p hp => q _ _ (.own hp (.dk e5))⟩
    clear e1 e5 rp hs
    induction e4 with
    | nil => exact .nil
    | cons h _ ih => exact .cons (.inl (.inl (e _ _ h))) ih
  · cases hc⟩
theorem foldP_T {K : PySem.W.Frag} {F : Hp} : ∀ {ds : List D} {vs : List V} {acc : List (D × D)} {m : List (D × D)} {kacc : List (List Key × V)}, Rps K F vs ds → foldP keyT ds acc = some m → RpT K F kacc acc →
    ∃ (ps : List Addr) (bs : List (List Key × Addr × V)), vs = ps.map V.ref ∧ Paired (fun p b => F p = some (.tup [.ref b.2.1, b.2.2]) ∧ F b.2.1 = some (.tup (b.1.map kV))) ps bs ∧ RpT K F (bs.foldl (fun acc b => putK acc b.1 b.2.2) kacc) m
  | [], vs, acc, m, kacc, r, e, ra => by
    cases r
    cases (show some acc = some m from e)
    exact ⟨[], [], rfl, .nil, ra⟩
  | d :: ds, _, acc, m, kacc, .cons (v := v) (vs := vs) h t, e, ra => by
    cases h with
    | @tup a xs l hf hx hn =>
      match l, hx, e with
      | [kd, d], hx, e =>
        obtain ⟨k, e1, e2⟩ := bnd (show (keyT kd).bind _ = some m from e)
        cases hx with
        | @cons kv0 _ _ _ hk hx => cases hx with
          | @cons y _ _ _ hv hx =>
            cases hx
            obtain ⟨b, rfl, hb⟩ := keyT_at (H := F) (Ex.refl F) (.inl hk) e1
            have ed : kd = .tup (k.map kD) := by
              cases kd with
              | tup l => rw [keyL_inv (show keyL l = some k from e1)]
              | _ => cases e1
            obtain ⟨ps, bs, e3, e4, e5⟩ := foldP_T t e2 (kacc := putK kacc k y) (by rw [ed]; exact put_T hv ra)
            exact ⟨a :: ps, (k, b, y) :: bs, by rw [e3]; rfl, .cons ⟨hf, hb⟩ e4, e5⟩
      | [], hx, e => cases e
      | [_], hx, e => cases e
      | _ :: _ :: _ :: _, hx, e => cases e
    | _ => cases e
theorem c_dictT {k : Nat} (hr : Room k X.A) : CallD X (.type "dict") hDictT := ⟨_, call_dictT hr, fun F H vs ds c Q e rs hc q => by
  unfold hDictT at hc
  split at hc
  · rename_i l
    obtain ⟨m, e1, hc⟩ := bnd hc
    cases hc
    obtain ⟨v, rfl, rd⟩ := rs.one
    obtain ⟨a, xs, rfl, hs, rp, n⟩ := rd.lst e
    obtain ⟨ps, bs, e3, e4, e5⟩ := foldP_T rp e1 .nil
    subst e3
    refine ⟨a, ps, bs, rfl, hs, ?_, fun p hp => q _ _ (.own hp (.dt e5))⟩
    clear e1 e5 rp hs
    induction e4 with
    | nil => exact .nil
    | cons h _ ih => exact .cons ⟨.inl (.inl (e _ _ h.1)), e _ _ h.2⟩ ih
  · cases hc⟩
/-- dict(d): a copy -/
def hDictD : List D → Option Cell
  | [.dct false l] => some (.own (.dct false l))
  | _ => none
theorem c_dictD : CallD X (.type "dict") hDictD := ⟨_, call_dictD, fun F H vs ds c Q e rs hc q => by
  unfold hDictD at hc
  split at hc
  · cases hc
    obtain ⟨v, rfl, rd⟩ := rs.one
    obtain ⟨a, kvs, rfl, hs, rp⟩ := rd.dk e
    exact ⟨a, kvs, rfl, hs, fun p hp => q _ _ (.own hp (.dk rp))⟩
  · cases hc⟩
end
end Q
end
section
set_option maxHeartbeats 1000000
namespace Q
open PySem PySem.Spec PyProof.Rows L2
section
variable {X : Cx} {elt tg iter : Expr} {scope : Scope} {pos : Pos}
/-! ### name = [..] on one line -/
theorem cs_setLc (i : Nat) {y : Str} {py spos : Pos} {it : Env → Option (List D × Env)} {ifs : List Expr} {g : Cell → Env → Option Env} {tt : Env → Option (Bool × Env)} {te : Env → Option (Cell × Env)} {vg : List Nat} (own : List (Str × Nat)) (hc : X.calm = true) (hN : X.N.Nodup)
    (hsw : swapsWith (.ListComp elt [⟨tg, iter, ifs, 0⟩] scope pos) (some (.Name y py)) spos.line X.env = pure true) (hi : IE X tg iter it) (ok : BlkOk X.N X.env.scope scope own)
    (hg : ∀ (s : Shared) (H : Hp) (C : Addr) (cl : List (Str × Addr)) (fp : List Addr), GE (X.blk s H scope (compEnvC scope cl C X.env) fp) tg vg g) (ht : ∀ (s : Shared) (H : Hp) (C : Addr) (cl : List (Str × Addr)) (fp : List Addr), OT (X.blk s H scope (compEnvC scope cl C X.env) fp) ifs tt)
    (he : ∀ (s : Shared) (H : Hp) (C : Addr) (cl : List (Str × Addr)) (fp : List Addr), CE (X.blk s H scope (compEnvC scope cl C X.env) fp) elt te)
    (hy : X.N[i]? = some y := by rfl) (hyl : X.env.scope.names.lookup y = some .local := by rfl) (hsub : ∀ j ∈ vg, j ∈ own.map (·.2) := by decide) (hs : ∀ x, foldedSetIterable iter X.env x = pure x := by intro _; rfl) :
    CS X (.Assign [.Name y py] (.ListComp elt [⟨tg, iter, ifs, 0⟩] scope pos) spos) (sSet i (dLc it g tt te (own.map (·.2)))) := by
  obtain ⟨w, pi, si⟩ := hi
  exact ⟨_, ps_setLc hc hN hy hyl hsw pi ok (fun s H C cl fp => (hg s H C cl fp).can) (fun s H C cl fp => (ht s H C cl fp).can) (fun s H C cl fp => (he s H C cl fp).can) hs, snd_asg (snd_lc si snd_canG snd_canT snd_canE hsub) snd_name⟩
/-! ### two clauses -/
theorem lc_it0 {J : It} {n : Nat} {Gd : Hp → Prop} {Y : Nat → Hp → V → Hp → Prop} (w : Walk J n Gd Y) {g : TG} {tt : TT} {te : TE} {vs : List Nat} {σ : L2.St} {H0 : Hp} {D : Addr} {Qd : Hp → Prop} (Pv : Nat → Hp → Prop) (h0 : Pv 0 H0) (hG : ∀ i H, i ≤ n → Pv i H → Gd H)
    (hs : ∀ i x H H', i < n → Pv i H → Y i H x H' → g x (wipe σ vs) H' fun σ2 H2 => wipe σ2 vs = wipe σ vs ∧ tt σ2 H2 fun b H3 =>
      if b = true then te σ2 H3 fun y H4 => ∃ acc, H4 D = some (.lst acc) ∧ acc.length < sizeLine ∧ Pv (i + 1) (upd H4 D (.lst (acc ++ [y]))) else Pv (i + 1) H3) (hd : ∀ H, Pv n H → Qd H) :
    ∃ W : Nat → Nat → Hp → Prop, (∃ m, W 0 m H0) ∧ ∀ i m H, W i m H →
      (J.stop i H ∧ Qd H) ∨ (J.go i H ∧ ∃ Nx : Hp → Prop, (∀ H', Nx H' → ∃ m', m' < m ∧ W (i + 1) m' H') ∧ ∀ x H', J.yld i H x H' → g x (wipe σ vs) H' fun σ2 H2 => wipe σ2 vs = wipe σ vs ∧ tt σ2 H2 fun b H3 =>
        if b = true then te σ2 H3 fun y H4 => ∃ acc, H4 D = some (.lst acc) ∧ acc.length < sizeLine ∧ Nx (upd H4 D (.lst (acc ++ [y]))) else Nx H3) := by
  refine ⟨fun i m H => m = n - i ∧ i ≤ n ∧ Pv i H, ⟨n, by simp, Nat.zero_le _, h0⟩, ?_⟩
  rintro i m H ⟨rfl, hi, p⟩
  have q := hG i H hi p
  by_cases hlt : i < n
  · refine .inr ⟨w.goes i H hlt q, Pv (i + 1), fun H' p' => ⟨n - (i + 1), by omega, rfl, hlt, p'⟩, fun x H' y => hs i x H H' hlt p (w.yields i H x H' hlt q y)⟩
  · have e : i = n := by omega
    subst e
    exact .inl ⟨w.stops H q, hd H p⟩
/-- any loop with a measure -/
theorem lp_it {J : It} {n : Nat} {Gd : Hp → Prop} {Y : Nat → Hp → V → Hp → Prop} (w : Walk J n Gd Y) {H0 : Hp} {Qd : Hp → Prop} {Bd : V → Hp → (Hp → Prop) → Prop} (Pv : Nat → Hp → Prop) (h0 : Pv 0 H0) (hG : ∀ i H, i ≤ n → Pv i H → Gd H)
    (hs : ∀ i x H H', i < n → Pv i H → Y i H x H' → Bd x H' (Pv (i + 1))) (hd : ∀ H, Pv n H → Qd H) :
    ∃ W : Nat → Nat → Hp → Prop, (∃ m, W 0 m H0) ∧ ∀ i m H, W i m H →
      (J.stop i H ∧ Qd H) ∨ (J.go i H ∧ ∃ Nx : Hp → Prop, (∀ H', Nx H' → ∃ m', m' < m ∧ W (i + 1) m' H') ∧ ∀ x H', J.yld i H x H' → Bd x H' Nx) := by
  refine ⟨fun i m H => m = n - i ∧ i ≤ n ∧ Pv i H, ⟨n, by simp, Nat.zero_le _, h0⟩, ?_⟩
  rintro i m H ⟨rfl, hi, p⟩
  have q := hG i H hi p
  by_cases hlt : i < n
  · refine .inr ⟨w.goes i H hlt q, Pv (i + 1), fun H' p' => ⟨n - (i + 1), by omega, rfl, hlt, p'⟩, fun x H' y => hs i x H H' hlt p (w.yields i H x H' hlt q y)⟩
  · have e : i = n := by omega
    subst e
    exact .inl ⟨w.stops H q, hd H p⟩
def lc2L (g : Cell → Env → Option Env) (tt : Env → Option (Bool × Env)) (it1 : Env → Option (List D × Env)) (g1 : Cell → Env → Option Env) (tt1 : Env → Option (Bool × Env)) (te : Env → Option (Cell × Env)) (vs vs1 : List Nat) : List D → Env → Option (List D × Env)
  | [], ρ => some ([], ρ)
  | d :: ds, ρ => (g (.val d) ρ).bind fun ρ1 => (tt ρ1).bind fun p => if p.1 = true then (it1 p.2).bind fun q => (lcL g1 tt1 te vs1 q.1 (wipeE q.2 vs1)).bind fun r => (lc2L g tt it1 g1 tt1 te vs vs1 ds (wipeE r.2 vs)).bind fun s => some (r.1 ++ s.1, s.2)
    else lc2L g tt it1 g1 tt1 te vs vs1 ds (wipeE p.2 vs)
def dLc2 (it : Env → Option (List D × Env)) (g : Cell → Env → Option Env) (tt : Env → Option (Bool × Env)) (it1 : Env → Option (List D × Env)) (g1 : Cell → Env → Option Env) (tt1 : Env → Option (Bool × Env)) (te : Env → Option (Cell × Env)) (vs vs1 : List Nat) : Env → Option (Cell × Env) := fun ρ =>
  (it ρ).bind fun p => (lc2L g tt it1 g1 tt1 te vs vs1 p.1 (wipeE p.2 vs)).bind fun r => if r.1.length ≤ sizeLine then some (.own (.lst r.1), r.2) else none
theorem wipe_sub {a : L2.St} {vs vs1 : List Nat} (h : ∀ j ∈ vs1, j ∈ vs) : wipe (wipe a vs1) vs = wipe a vs := wipe_ext (wipe_length _ _) fun j hj => by rw [wipe_get, if_neg fun z => hj (h j z)]
theorem snd_lc2 {K : PySem.W.Frag} {w w1 : TI} {t t1 : TG} {u u1 : TT} {ue : TE} {it it1 : Env → Option (List D × Env)} {g g1 : Cell → Env → Option Env} {tt tt1 : Env → Option (Bool × Env)} {te : Env → Option (Cell × Env)} {vs vs1 vg vg1 : List Nat}
    (si : SndI K w it) (sg : SndGv K vg t g) (st : SndT K u tt) (si1 : SndI K w1 it1) (sg1 : SndGv K vg1 t1 g1) (st1 : SndT K u1 tt1) (se : SndE K ue te) (hsub : ∀ j ∈ vg, j ∈ vs) (hsub1 : ∀ j ∈ vg1, j ∈ vs1) (hv1 : ∀ j ∈ vs1, j ∈ vs) :
    SndE K (tLc2 w t u w1 t1 u1 ue vs vs1) (dLc2 it g tt it1 g1 tt1 te vs vs1) := fun G A O F H σ ρ c ρ' Q r e q => by
  obtain ⟨⟨ds, ρ1⟩, e1, e⟩ := bnd e
  obtain ⟨⟨out, ρe⟩, e2, e⟩ := bnd e
  split at e
  · rename_i hn
    cases e
    refine si G A O F H σ ρ _ _ _ r e1 fun F1 H1 J r1 f1 wk => ?_
    intro Dd hD
    have oD : O Dd = none := r1.oh.back hD
    obtain ⟨Gd, Y, wlk, hG, hY⟩ := wk
    refine lp_it wlk (Bd := fun x H' Nx => t x (wipe σ vs) H' fun σ2 H2 => wipe σ2 vs = wipe σ vs ∧ u σ2 H2 fun b H3 =>
      if b = true then w1 σ2 H3 fun J1 H4 => ∃ W1 : Nat → Nat → Hp → Prop, (∃ m, W1 0 m H4) ∧ ∀ j k H, W1 j k H →
        (J1.stop j H ∧ Nx H) ∨ (J1.go j H ∧ ∃ Nx1 : Hp → Prop, (∀ H', Nx1 H' → ∃ k', k' < k ∧ W1 (j + 1) k' H') ∧ ∀ x H', J1.yld j H x H' → t1 x (wipe σ2 vs1) H' fun σ3 H5 => wipe σ3 vs1 = wipe σ2 vs1 ∧ u1 σ3 H5 fun b H6 =>
          if b = true then ue σ3 H6 fun y H7 => ∃ acc, H7 Dd = some (.lst acc) ∧ acc.length < sizeLine ∧ Nx1 (upd H7 Dd (.lst (acc ++ [y]))) else Nx1 H6)
      else Nx H3) (fun i H2 => ∃ F2 ρ2 acc accd rest, RE ⟨K, G, A⟩ (upd O Dd (.lst acc)) F2 H2 (wipe σ vs) ρ2 ∧ Le F1 F2 ∧ Rps K F2 acc accd ∧ lc2L g tt it1 g1 tt1 te vs vs1 (ds.drop i) ρ2 = some (rest, ρe) ∧ accd ++ rest = out ∧ ∃ ρ5, ρ2 = wipeE ρ5 vs)
      ⟨F1, _, [], [], out, (r1.frame (o := .lst []) hD).wipe vs, Le.refl F1, .nil, by simpa using e2, rfl, ρ1, rfl⟩ (fun i H2 _ ⟨F2, ρ2, acc, accd, rest, r2, f2, _⟩ => hG F2 H2 f2 r2.fh) ?_ ?_
    · rintro i x H2 H3 hlt ⟨F2, ρ2, acc, accd, rest, r2, f2, ra, e3, ho, _⟩ y
      obtain ⟨d, hd, res⟩ := hY i F2 H2 x H3 hlt f2 r2.fh y
      rw [drop_cons hd] at e3
      obtain ⟨ρ3, e4, e3⟩ := bnd (show (g (.val d) ρ2).bind _ = some (rest, ρe) from e3)
      obtain ⟨⟨k, ρ4⟩, e5, e3⟩ := bnd e3
      refine sg.item r2 res e4 fun F3 H4 σ3 r3 f3 z => ?_
      have hw : wipe σ3 vs = wipe σ vs := by
        rw [wipe_ext z.1 fun j hj => z.2 j fun m => hj (hsub j m)]
        exact wipe_wipe
      refine ⟨hw, ?_⟩
      refine st G A _ F3 H4 σ3 ρ3 k ρ4 _ r3 e5 fun F4 H5 r4 f4 => ?_
      cases k with
      | false => exact ⟨F4, _, acc, accd, rest, hw ▸ r4.wipe vs, f2.trans (f3.trans f4), ra.mono (f3.trans f4), e3, ho, ρ4, rfl⟩
      | true =>
        obtain ⟨⟨ds1, ρ5⟩, e6, e3⟩ := bnd (show (it1 ρ4).bind _ = some (rest, ρe) from e3)
        obtain ⟨⟨out1, ρ6⟩, e7, e3⟩ := bnd e3
        obtain ⟨⟨rest2, ρ7⟩, e8, e3⟩ := bnd e3
        cases e3
        refine si1 G A _ F4 H5 σ3 ρ4 ds1 ρ5 _ r4 e6 fun F5 H6 J1 r5 f5 wk1 => ?_
        obtain ⟨Gd1, Y1, wlk1, hG1, hY1⟩ := wk1
        have hlen : (accd ++ out1).length ≤ sizeLine := by
          have : (accd ++ (out1 ++ rest2)).length ≤ sizeLine := by rw [ho]; exact hn
          rw [List.length_append, List.length_append] at this
          rw [List.length_append]
          omega
        refine lc_it0 wlk1 (fun j H2 => ∃ F2' ρ2 acc accd' rest, RE ⟨K, G, A⟩ (upd O Dd (.lst acc)) F2' H2 (wipe σ3 vs1) ρ2 ∧ Le F5 F2' ∧ Rps K F2' acc accd' ∧ lcL g1 tt1 te vs1 (ds1.drop j) ρ2 = some (rest, ρ6) ∧ accd' ++ rest = accd ++ out1)
          ⟨F5, _, acc, accd, out1, r5.wipe vs1, Le.refl F5, ra.mono (f3.trans (f4.trans f5)), by simpa using e7, rfl⟩ (fun i H2 _ ⟨F2, ρ2, acc, accd, rest, r2, f2, _⟩ => hG1 F2 H2 f2 r2.fh) ?_ ?_
        · rintro j x' H8 H9 hlt1 ⟨F8, ρ8, acc8, accd8, rest8, r8, f8, ra8, e9, ho8⟩ y8
          obtain ⟨d1, hd1, res1⟩ := hY1 j F8 H8 x' H9 hlt1 f8 r8.fh y8
          rw [drop_cons hd1] at e9
          exact lc_turn sg1 st1 se hsub1 r8 ra8 res1 e9 ho8 hlen fun F9 H9 ρ9 acc' accd' rest' r9 f9 ra' e10 ho' hw' => ⟨F9, ρ9, acc', accd', rest', r9, f8.trans f9, ra', e10, ho'⟩
        · rintro H8 ⟨F8, ρ8, acc8, accd8, rest8, r8, f8, ra8, e9, ho8⟩
          rw [List.drop_length] at e9
          cases (show some (([] : List D), ρ8) = some (rest8, ρ6) from e9)
          rw [List.append_nil] at ho8
          subst ho8
          refine ⟨F8, _, acc8, accd ++ out1, rest2, ?_, f2.trans (f3.trans (f4.trans (f5.trans f8))), ra8, e8, by rw [List.append_assoc]; exact ho, ρ6, rfl⟩
          have r9 := r8.wipe vs
          rw [wipe_sub hv1, hw] at r9
          exact r9
    · rintro H2 ⟨F2, ρ2, acc, accd, rest, r2, f2, ra, e3, ho, ρ5, hw⟩
      rw [List.drop_length] at e3
      cases (show some (([] : List D), ρ2) = some (rest, ρe) from e3)
      rw [List.append_nil] at ho
      subst ho
      subst hw
      have r3 := (r2.unwipe).unframe oD (.lst ra hn)
      exact q F2 H2 _ r3 (f1.trans f2)
  · cases e
section
variable {tg1 iter1 : Expr} {ifs ifs1 : List Expr} {it it1 : Env → Option (List D × Env)} {g g1 : Cell → Env → Option Env} {tt tt1 : Env → Option (Bool × Env)} {te : Env → Option (Cell × Env)} {vg vg1 : List Nat}
theorem ce_lc2 (own : List (Str × Nat)) (vs1 : List Nat) (hc : X.calm = true) (hN : X.N.Nodup) (hi : IE X tg iter it) (ok : BlkOk X.N X.env.scope scope own)
    (hg : ∀ (s : Shared) (H : Hp) (C : Addr) (cl : List (Str × Addr)) (fp : List Addr), GE (X.blk s H scope (compEnvC scope cl C X.env) fp) tg vg g) (ht : ∀ (s : Shared) (H : Hp) (C : Addr) (cl : List (Str × Addr)) (fp : List Addr), OT (X.blk s H scope (compEnvC scope cl C X.env) fp) ifs tt)
    (hi1 : ∀ (s : Shared) (H : Hp) (C : Addr) (cl : List (Str × Addr)) (fp : List Addr), IE (X.blk s H scope (compEnvC scope cl C X.env) fp) tg1 iter1 it1)
    (hg1 : ∀ (s : Shared) (H : Hp) (C : Addr) (cl : List (Str × Addr)) (fp : List Addr), GE (X.blk s H scope (compEnvC scope cl C X.env) fp) tg1 vg1 g1) (ht1 : ∀ (s : Shared) (H : Hp) (C : Addr) (cl : List (Str × Addr)) (fp : List Addr), OT (X.blk s H scope (compEnvC scope cl C X.env) fp) ifs1 tt1)
    (he : ∀ (s : Shared) (H : Hp) (C : Addr) (cl : List (Str × Addr)) (fp : List Addr), CE (X.blk s H scope (compEnvC scope cl C X.env) fp) elt te)
    (hsub : ∀ j ∈ vg, j ∈ own.map (·.2) := by decide) (hsub1 : ∀ j ∈ vg1, j ∈ vs1 := by decide) (hv1 : ∀ j ∈ vs1, j ∈ own.map (·.2) := by decide) (hs : ∀ x, foldedSetIterable iter X.env x = pure x := by intro _; rfl) (hs1 : ∀ env x, foldedSetIterable iter1 env x = pure x := by intro _ _; rfl) :
    CE X (.ListComp elt [⟨tg, iter, ifs, 0⟩, ⟨tg1, iter1, ifs1, 0⟩] scope pos) (dLc2 it g tt it1 g1 tt1 te (own.map (·.2)) vs1) := by
  obtain ⟨w, pi, si⟩ := hi
  exact ⟨_, pe_lc2 hc hN pi ok hv1 (fun s H C cl fp => (hg s H C cl fp).can) (fun s H C cl fp => (ht s H C cl fp).can) (fun s H C cl fp => (hi1 s H C cl fp).can) (fun s H C cl fp => (hg1 s H C cl fp).can) (fun s H C cl fp => (ht1 s H C cl fp).can) (fun s H C cl fp => (he s H C cl fp).can) hs hs1,
    snd_lc2 si snd_canG snd_canT snd_canI snd_canG snd_canT snd_canE hsub hsub1 hv1⟩
theorem cs_setLc2 (i : Nat) {y : Str} {py spos : Pos} (own : List (Str × Nat)) (vs1 : List Nat) (hc : X.calm = true) (hN : X.N.Nodup)
    (hsw : swapsWith (.ListComp elt [⟨tg, iter, ifs, 0⟩, ⟨tg1, iter1, ifs1, 0⟩] scope pos) (some (.Name y py)) spos.line X.env = pure true) (hi : IE X tg iter it) (ok : BlkOk X.N X.env.scope scope own)
    (hg : ∀ (s : Shared) (H : Hp) (C : Addr) (cl : List (Str × Addr)) (fp : List Addr), GE (X.blk s H scope (compEnvC scope cl C X.env) fp) tg vg g) (ht : ∀ (s : Shared) (H : Hp) (C : Addr) (cl : List (Str × Addr)) (fp : List Addr), OT (X.blk s H scope (compEnvC scope cl C X.env) fp) ifs tt)
    (hi1 : ∀ (s : Shared) (H : Hp) (C : Addr) (cl : List (Str × Addr)) (fp : List Addr), IE (X.blk s H scope (compEnvC scope cl C X.env) fp) tg1 iter1 it1)
    (hg1 : ∀ (s : Shared) (H : Hp) (C : Addr) (cl : List (Str × Addr)) (fp : List Addr), GE (X.blk s H scope (compEnvC scope cl C X.env) fp) tg1 vg1 g1) (ht1 : ∀ (s : Shared) (H : Hp) (C : Addr) (cl : List (Str × Addr)) (fp : List Addr), OT (X.blk s H scope (compEnvC scope cl C X.env) fp) ifs1 tt1)
    (he : ∀ (s : Shared) (H : Hp) (C : Addr) (cl : List (Str × Addr)) (fp : List Addr), CE (X.blk s H scope (compEnvC scope cl C X.env) fp) elt te) (hy : X.N[i]? = some y := by rfl) (hyl : X.env.scope.names.lookup y = some .local := by rfl)
    (hsub : ∀ j ∈ vg, j ∈ own.map (·.2) := by decide) (hsub1 : ∀ j ∈ vg1, j ∈ vs1 := by decide) (hv1 : ∀ j ∈ vs1, j ∈ own.map (·.2) := by decide) (hs : ∀ x, foldedSetIterable iter X.env x = pure x := by intro _; rfl) (hs1 : ∀ env x, foldedSetIterable iter1 env x = pure x := by intro _ _; rfl) :
    CS X (.Assign [.Name y py] (.ListComp elt [⟨tg, iter, ifs, 0⟩, ⟨tg1, iter1, ifs1, 0⟩] scope pos) spos) (sSet i (dLc2 it g tt it1 g1 tt1 te (own.map (·.2)) vs1)) := by
  obtain ⟨w, pi, si⟩ := hi
  exact ⟨_, ps_setLc2 hc hN hy hyl hsw pi ok hv1 (fun s H C cl fp => (hg s H C cl fp).can) (fun s H C cl fp => (ht s H C cl fp).can) (fun s H C cl fp => (hi1 s H C cl fp).can) (fun s H C cl fp => (hg1 s H C cl fp).can) (fun s H C cl fp => (ht1 s H C cl fp).can) (fun s H C cl fp => (he s H C cl fp).can) hs hs1,
    snd_asg (snd_lc2 si snd_canG snd_canT snd_canI snd_canG snd_canT snd_canE hsub hsub1 hv1) snd_name⟩
end
/-! ### {k: v for ..} -/
def dcL (g : Cell → Env → Option Env) (tt : Env → Option (Bool × Env)) (tk tv : Env → Option (Cell × Env)) (vs : List Nat) : List D → List (D × D) → Env → Option (List (D × D) × Env)
  | [], acc, ρ => some (acc, ρ)
  | d :: ds, acc, ρ => (g (.val d) ρ).bind fun ρ1 => (tt ρ1).bind fun p => if p.1 = true then (tk p.2).bind fun q => (tv q.2).bind fun r => match q.1, r.1 with
      | .val kd, .val x => (key1 kd).bind fun kk => if acc.length < sizeLine then dcL g tt tk tv vs ds (putP key1 acc kk kd x) (wipeE r.2 vs) else none
      | .val kd, .own x => (key1 kd).bind fun kk => if acc.length < sizeLine then dcL g tt tk tv vs ds (putP key1 acc kk kd x) (wipeE r.2 vs) else none
      | _, _ => none
    else dcL g tt tk tv vs ds acc (wipeE p.2 vs)
def dDc (it : Env → Option (List D × Env)) (g : Cell → Env → Option Env) (tt : Env → Option (Bool × Env)) (tk tv : Env → Option (Cell × Env)) (vs : List Nat) : Env → Option (Cell × Env) := fun ρ =>
  (it ρ).bind fun p => (dcL g tt tk tv vs p.1 [] (wipeE p.2 vs)).bind fun r => some (.own (.dct false r.1), r.2)
theorem snd_dc {K : PySem.W.Frag} {w : TI} {t : TG} {u : TT} {uk uv : TE} {it : Env → Option (List D × Env)} {g : Cell → Env → Option Env} {tt : Env → Option (Bool × Env)} {tk tv : Env → Option (Cell × Env)} {vs vg : List Nat}
    (si : SndI K w it) (sg : SndGv K vg t g) (st : SndT K u tt) (sk : SndE K uk tk) (sv : SndE K uv tv) (hsub : ∀ j ∈ vg, j ∈ vs) : SndE K (tDc w t u uk uv vs) (dDc it g tt tk tv vs) := fun G A O F H σ ρ c ρ' Q r e q => by
  obtain ⟨⟨ds, ρ1⟩, e1, e⟩ := bnd e
  obtain ⟨⟨out, ρe⟩, e2, e⟩ := bnd e
  cases e
  refine si G A O F H σ ρ _ _ _ r e1 fun F1 H1 J r1 f1 wk => ?_
  intro Dd hD
  have oD : O Dd = none := r1.oh.back hD
  obtain ⟨Gd, Y, wlk, hG, hY⟩ := wk
  refine lp_it wlk (Bd := fun x H' Nx => t x (wipe σ vs) H' fun σ2 H2 => wipe σ2 vs = wipe σ vs ∧ u σ2 H2 fun b H3 =>
    if b = true then uk σ2 H3 fun y H4 => uv σ2 H4 fun z H5 => ∃ kvs k, y = kV k ∧ H5 Dd = some (.dK kvs) ∧ kvs.length < sizeLine ∧ Nx (upd H5 Dd (.dK (putK kvs k z))) else Nx H3)
    (fun i H2 => ∃ F2 ρ2 acc accd, RE ⟨K, G, A⟩ (upd O Dd (.dK acc)) F2 H2 (wipe σ vs) ρ2 ∧ Le F1 F2 ∧ RpK K F2 acc accd ∧ dcL g tt tk tv vs (ds.drop i) accd ρ2 = some (out, ρe) ∧ ∃ ρ5, ρ2 = wipeE ρ5 vs)
    ⟨F1, _, [], [], (r1.frame (o := .dK []) hD).wipe vs, Le.refl F1, .nil, by simpa using e2, ρ1, rfl⟩ (fun i H2 _ ⟨F2, ρ2, acc, accd, r2, f2, _⟩ => hG F2 H2 f2 r2.fh) ?_ ?_
  · rintro i x H2 H3 hlt ⟨F2, ρ2, acc, accd, r2, f2, ra, e3, _⟩ y
    obtain ⟨d, hd, res⟩ := hY i F2 H2 x H3 hlt f2 r2.fh y
    rw [drop_cons hd] at e3
    obtain ⟨ρ3, e4, e3⟩ := bnd (show (g (.val d) ρ2).bind _ = some (out, ρe) from e3)
    obtain ⟨⟨k, ρ4⟩, e5, e3⟩ := bnd e3
    refine sg.item r2 res e4 fun F3 H4 σ3 r3 f3 z => ?_
    have hw : wipe σ3 vs = wipe σ vs := by
      rw [wipe_ext z.1 fun j hj => z.2 j fun m => hj (hsub j m)]
      exact wipe_wipe
    refine ⟨hw, ?_⟩
    refine st G A _ F3 H4 σ3 ρ3 k ρ4 _ r3 e5 fun F4 H5 r4 f4 => ?_
    cases k with
    | false => exact ⟨F4, _, acc, accd, hw ▸ r4.wipe vs, f2.trans (f3.trans f4), ra.mono (f3.trans f4), e3, ρ4, rfl⟩
    | true =>
      obtain ⟨⟨ck, ρ5⟩, e6, e3⟩ := bnd (show (tk ρ4).bind _ = some (out, ρe) from e3)
      obtain ⟨⟨cv, ρ6⟩, e7, e3⟩ := bnd e3
      have fin : ∀ kd xd, ck = .val kd → (cv = .val xd ∨ cv = .own xd) → ((key1 kd).bind fun kk => if accd.length < sizeLine then dcL g tt tk tv vs (ds.drop (i + 1)) (putP key1 accd kk kd xd) (wipeE ρ6 vs) else none) = some (out, ρe) →
          uk σ3 H5 fun y H4 => uv σ3 H4 fun z H5 => ∃ kvs k, y = kV k ∧ H5 Dd = some (.dK kvs) ∧ kvs.length < sizeLine ∧ ∃ F2 ρ2 acc accd, RE ⟨K, G, A⟩ (upd O Dd (.dK acc)) F2 (upd H5 Dd (.dK (putK kvs k z))) (wipe σ vs) ρ2 ∧ Le F1 F2 ∧ RpK K F2 acc accd ∧ dcL g tt tk tv vs (ds.drop (i + 1)) accd ρ2 = some (out, ρe) ∧ ∃ ρ5, ρ2 = wipeE ρ5 vs := by
        intro kd xd hk hv e8
        subst hk
        obtain ⟨kk, e9, e8⟩ := bnd e8
        split at e8
        · rename_i hl
          refine sk G A _ F4 H5 σ3 ρ4 _ ρ5 _ r4 e6 fun F5 H6 y r5 f5 => ?_
          have ek := key1_inv e9
          subst ek
          obtain ⟨y', ey, hy⟩ := r5.at_ 0 _ rfl
          cases ey
          have ey : y = kV kk := by cases kk <;> (cases hy; rfl)
          refine sv G A _ F5 H6 σ3 ρ5 _ ρ6 _ r5.pop e7 fun F6 H7 z r6 f6 => ?_
          obtain ⟨F7, f7, r7, rz⟩ := r6.fz hv
          have ff : Le F2 F7 := f3.trans (f4.trans (f5.trans (f6.trans f7)))
          refine ⟨acc, kk, ey, r7.oh Dd _ upd_same, by rw [ra.len]; exact hl, F7, _, _, _, ?_, f2.trans ff, put_K rz (ra.mono ff), e8, ρ6, rfl⟩
          exact hw ▸ (r7.reframe (o' := .dK (putK acc kk z))).wipe vs
        · cases e8
      split at e3
      · rename_i kd x h1 h2; exact fin kd x h1 (.inl h2) e3
      · rename_i kd x h1 h2; exact fin kd x h1 (.inr h2) e3
      · cases e3
  · rintro H2 ⟨F2, ρ2, acc, accd, r2, f2, ra, e3, ρ5, hw⟩
    rw [List.drop_length] at e3
    cases (show some (accd, ρ2) = some (out, ρe) from e3)
    subst hw
    exact q F2 H2 _ ((r2.unwipe).unframe oD (.dk ra)) (f1.trans f2)
theorem ce_dc {kx vx : Expr} {ifs : List Expr} {it : Env → Option (List D × Env)} {g : Cell → Env → Option Env} {tt : Env → Option (Bool × Env)} {tk tv : Env → Option (Cell × Env)} {vg : List Nat} (own : List (Str × Nat)) (hc : X.calm = true) (hN : X.N.Nodup) (hi : IE X tg iter it) (ok : BlkOk X.N X.env.scope scope own)
    (hg : ∀ (s : Shared) (H : Hp) (C : Addr) (cl : List (Str × Addr)) (fp : List Addr), GE (X.blk s H scope (compEnvC scope cl C X.env) fp) tg vg g) (ht : ∀ (s : Shared) (H : Hp) (C : Addr) (cl : List (Str × Addr)) (fp : List Addr), OT (X.blk s H scope (compEnvC scope cl C X.env) fp) ifs tt)
    (hk : ∀ (s : Shared) (H : Hp) (C : Addr) (cl : List (Str × Addr)) (fp : List Addr), CE (X.blk s H scope (compEnvC scope cl C X.env) fp) kx tk) (he : ∀ (s : Shared) (H : Hp) (C : Addr) (cl : List (Str × Addr)) (fp : List Addr), CE (X.blk s H scope (compEnvC scope cl C X.env) fp) vx tv)
    (hsub : ∀ j ∈ vg, j ∈ own.map (·.2) := by decide) (hs : ∀ x, foldedSetIterable iter X.env x = pure x := by intro _; rfl) : CE X (.DictComp kx vx [⟨tg, iter, ifs, 0⟩] scope pos) (dDc it g tt tk tv (own.map (·.2))) := by
  obtain ⟨w, pi, si⟩ := hi
  exact ⟨_, pe_dc hc hN pi ok (fun s H C cl fp => (hg s H C cl fp).can) (fun s H C cl fp => (ht s H C cl fp).can) (fun s H C cl fp => (hk s H C cl fp).can) (fun s H C cl fp => (he s H C cl fp).can) hs, snd_dc si snd_canG snd_canT snd_canE snd_canE hsub⟩
end
end Q
end
section
set_option maxHeartbeats 1000000
namespace Q
open PySem PySem.Spec PyProof.Rows L2
/-! ### a value that is frozen at once -/
def dFz (f : Env → Option (Cell × Env)) : Env → Option (Cell × Env) := fun ρ => (f ρ).bind fun p => match p.1 with
  | .val d => some (.val d, p.2)
  | .own d => some (.val d, p.2)
  | _ => none
theorem ce_fz {X : Cx} {e : Expr} {f : Env → Option (Cell × Env)} (h : CE X e f) : CE X e (dFz f) := by
  obtain ⟨t, p, s⟩ := h
  refine ⟨t, p, fun G A O F H σ ρ c ρ' Q r e q => ?_⟩
  obtain ⟨⟨c1, ρ1⟩, e1, e⟩ := bnd e
  have main : ∀ d, (c1 = .val d ∨ c1 = .own d) → some (Cell.val d, ρ1) = some (c, ρ') → t σ H Q := by
    intro d hc e
    cases e
    refine s G A O F H σ ρ _ _ _ r e1 fun F1 H1 v r1 f1 => ?_
    obtain ⟨F2, f2, r2, rp⟩ := r1.fz hc
    exact q F2 H1 v (r2.pushV rp) (f1.trans f2)
  cases c1 with
  | val d => exact main d (.inl rfl) e
  | own d => exact main d (.inr rfl) e
  | _ => cases e
/-! ### statements in two parts -/
theorem execs_app {env : PySem.Env} : ∀ a b : List Stmt, execs (a ++ b) env = (do match ← execs a env with | .next => execs b env | f => pure f)
  | [], b => by rw [execs_nil, pure_bind]; rfl
  | s :: a, b => by
    rw [List.cons_append, execs_cons, execs_cons, bind_assoc]
    congr 1
    funext f
    cases f with
    | next => exact execs_app a b
    | ret v => rw [pure_bind]
    | brk => rw [pure_bind]
    | cont => rw [pure_bind]
theorem pss_app {X : Cx} {a b : List Stmt} {t u : TS} (h1 : PSs X a t) (h2 : PSs X b u) : PSs X (a ++ b) (tSeq t u) := by
  refine ⟨fun pins s σ H D I h => ?_⟩
  rw [execs_app]
  refine wpAny_bind (thn (h1.run pins s σ H { D with nx := u D } I h) fun f s1 q => ?_)
  cases f with
  | next =>
    obtain ⟨σ', H', I', q⟩ := q
    exact h2.run pins s1 σ' H' D I' q
  | ret v => exact wpAny_pure q
  | brk => exact wpAny_pure q
  | cont => exact wpAny_pure q
theorem css_split {X : Cx} {l : List Stmt} {f g : Env → Option Out} (n : Nat) (h1 : CSs X (l.take n) f) (h2 : CSs X (l.drop n) g) : CSs X l (sSeq f g) := by
  obtain ⟨t, p, s1⟩ := h1
  obtain ⟨u, p2, s2⟩ := h2
  have pp := pss_app p p2
  rw [List.take_append_drop] at pp
  refine ⟨_, pp, SndS.of fun G A O F H σ ρ out D r e q => ?_⟩
  obtain ⟨o, e1, e⟩ := bnd e
  refine s1.post r e1 ?_
  cases o with
  | nx ρ1 => exact fun F1 H1 σ1 r1 f1 => s2.post r1 e (q.mono f1)
  | rt c ρ1 => cases e; exact q
  | bk ρ1 => cases e; exact q
  | ct ρ1 => cases e; exact q
/-! ### an own list is read by others for a while -/
def atomD : D → Bool
  | .non => true
  | .bl _ => true
  | .int _ => true
  | .str _ => true
  | _ => false
def flatD : D → Bool
  | .lst l => l.all atomD
  | _ => false
def lendB : Env → Option Env
  | [] => some []
  | none :: r => (lendB r).bind fun s => some (none :: s)
  | some (.val d) :: r => (lendB r).bind fun s => some (some (.old d) :: s)
  | some (.own d) :: r => (lendB r).bind fun s => some (some (.own d) :: s)
  | some (.par j d) :: r => (lendB r).bind fun s => some (some (.par j d) :: s)
  | _ => none
def beginE (i : Nat) (ρ : Env) : Option Env := match ρ[i]? with
  | some (some (.own (.lst l))) => (lendB ρ).bind fun s => some (s.set i (some (.lent (.lst l))))
  | _ => none
def lendE (i : Nat) : Nat → Env → Option Env
  | _, [] => some []
  | k, none :: r => (lendE i (k + 1) r).bind fun s => some (none :: s)
  | k, some (.val d) :: r => (lendE i (k + 1) r).bind fun s => some ((if atomD d = true then some (.val d) else none) :: s)
  | k, some (.old d) :: r => (lendE i (k + 1) r).bind fun s => some (some (.val d) :: s)
  | k, some (.own d) :: r => (lendE i (k + 1) r).bind fun s => some ((if flatD d = true then some (.own d) else none) :: s)
  | k, some (.par j d) :: r => if flatD d = true then (lendE i (k + 1) r).bind fun s => some (some (.par j d) :: s) else none
  | k, some (.lent d) :: r => (lendE i (k + 1) r).bind fun s => some ((if k = i then some (.own d) else none) :: s)
def bCell : Cell → Option Cell
  | .val d => some (.old d)
  | .own d => some (.own d)
  | .par j d => some (.par j d)
  | _ => none
theorem lendB_at : ∀ {ρ ρ' : Env}, lendB ρ = some ρ' → ρ'.length = ρ.length ∧ ∀ (i : Nat) (c' : Cell), ρ'[i]? = some (some c') → ∃ c, ρ[i]? = some (some c) ∧ bCell c = some c'
  | [], ρ', h => by cases (show some ([] : Env) = some ρ' from h); exact ⟨rfl, fun i c' h => by simp at h⟩
  | x :: r, ρ', h => by
    have main : ∀ (y : Option Cell), ((lendB r).bind fun s => some (y :: s)) = some ρ' → (∀ c', y = some c' → ∃ c, x = some c ∧ bCell c = some c') → ρ'.length = (x :: r).length ∧ ∀ (i : Nat) (c' : Cell), ρ'[i]? = some (some c') → ∃ c, (x :: r)[i]? = some (some c) ∧ bCell c = some c' := by
      intro y e hy
      obtain ⟨s, e1, e2⟩ := bnd e
      cases e2
      obtain ⟨hl, ih⟩ := lendB_at e1
      refine ⟨by simp [hl], fun i c' h => ?_⟩
      cases i with
      | zero =>
        have h : y = some c' := by simpa using h
        obtain ⟨c, h1, h2⟩ := hy c' h
        exact ⟨c, by simp [h1], h2⟩
      | succ i => obtain ⟨c, h1, h2⟩ := ih i c' (by simpa using h); exact ⟨c, by simpa using h1, h2⟩
    cases x with
    | none => exact main none h fun c' z => nomatch z
    | some c => cases c with
      | val d => exact main _ h fun c' z => ⟨_, rfl, z⟩
      | own d => exact main _ h fun c' z => ⟨_, rfl, z⟩
      | par j d => exact main _ h fun c' z => ⟨_, rfl, z⟩
      | old d => cases h
      | lent d => cases h
def eCell (i k : Nat) : Cell → Option Cell
  | .val d => if atomD d = true then some (.val d) else none
  | .old d => some (.val d)
  | .own d => if flatD d = true then some (.own d) else none
  | .par j d => if flatD d = true then some (.par j d) else none
  | .lent d => if k = i then some (.own d) else none
theorem lendE_at {n : Nat} : ∀ {k : Nat} {ρ ρ' : Env}, lendE n k ρ = some ρ' → ρ'.length = ρ.length ∧ ∀ (i : Nat) (c' : Cell), ρ'[i]? = some (some c') → ∃ c, ρ[i]? = some (some c) ∧ eCell n (k + i) c = some c'
  | k, [], ρ', h => by cases (show some ([] : Env) = some ρ' from h); exact ⟨rfl, fun i c' h => by simp at h⟩
  | k, x :: r, ρ', h => by
    have main : ∀ (y : Option Cell), ((lendE n (k + 1) r).bind fun s => some (y :: s)) = some ρ' → (∀ c', y = some c' → ∃ c, x = some c ∧ eCell n k c = some c') → ρ'.length = (x :: r).length ∧ ∀ (i : Nat) (c' : Cell), ρ'[i]? = some (some c') → ∃ c, (x :: r)[i]? = some (some c) ∧ eCell n (k + i) c = some c' := by
      intro y e hy
      obtain ⟨s, e1, e2⟩ := bnd e
      cases e2
      obtain ⟨hl, ih⟩ := lendE_at e1
      refine ⟨by simp [hl], fun i c' h => ?_⟩
      cases i with
      | zero =>
        have h : y = some c' := by simpa using h
        obtain ⟨c, h1, h2⟩ := hy c' h
        exact ⟨c, by simp [h1], h2⟩
      | succ i =>
        obtain ⟨c, h1, h2⟩ := ih i c' (by simpa using h)
        refine ⟨c, by simpa using h1, ?_⟩
        rw [show k + (i + 1) = k + 1 + i by omega]
        exact h2
    cases x with
    | none => exact main none h fun c' z => nomatch z
    | some c => cases c with
      | val d => exact main _ h fun c' z => ⟨_, rfl, z⟩
      | own d => exact main _ h fun c' z => ⟨_, rfl, z⟩
      | par j d =>
        have h : (if flatD d = true then (lendE n (k + 1) r).bind fun s => some (some (.par j d) :: s) else none) = some ρ' := h
        split at h
        · rename_i hf
          exact main _ h fun c' z => ⟨_, rfl, by show (if flatD d = true then some (Cell.par j d) else none) = some c'; rw [if_pos hf]; exact z⟩
        · cases h
      | old d => exact main _ h fun c' z => ⟨_, rfl, z⟩
      | lent d => exact main _ h fun c' z => ⟨_, rfl, z⟩
section
variable {K : PySem.W.Frag} {G : Hp} {A : Nat → Option Addr} {O F F2 H : Hp} {σ : L2.St} {ρ ρ' : Env}
theorem RE.begin {i : Nat} (r : RE ⟨K, G, A⟩ O F H σ ρ) (h : beginE i ρ = some ρ') : ∃ F', RE ⟨K, F, A⟩ O F' H σ ρ' ∧ Le F F' := by
  unfold beginE at h
  split at h
  · rename_i l hi
    obtain ⟨s, e1, e2⟩ := bnd h
    cases e2
    obtain ⟨hl, hb⟩ := lendB_at e1
    obtain ⟨v, ev, a, u, rfl, ha, ro, fa⟩ := r.at_ i _ hi
    have oi : Own σ ρ i a := ⟨ev, _, hi, rfl⟩
    have oa : O a = none := r.no i a oi
    have il : i < ρ.length := (List.getElem?_eq_some_iff.mp hi).1
    have ff : Le F (upd F a u) := (Ex.new fa).le
    have at' : ∀ (j : Nat) (c' : Cell), (s.set i (some (.lent (.lst l))))[j]? = some (some c') → (j = i ∧ c' = .lent (.lst l)) ∨ (j ≠ i ∧ ∃ c, ρ[j]? = some (some c) ∧ bCell c = some c') := fun j c' h => by
      rw [getElem?_setS] at h
      by_cases hj : i = j
      · subst hj
        rw [if_pos rfl, if_pos (by omega)] at h
        cases h
        exact .inl ⟨rfl, rfl⟩
      · rw [if_neg hj] at h
        exact .inr ⟨fun z => hj z.symm, hb j c' h⟩
    have ow : ∀ {j b}, Own σ (s.set i (some (.lent (.lst l)))) j b → j ≠ i ∧ Own σ ρ j b := fun {j b} ⟨h1, c', h2, h3⟩ => by
      rcases at' j c' h2 with ⟨_, rfl⟩ | ⟨nj, c, h4, h5⟩
      · cases h3
      · refine ⟨nj, h1, c, h4, ?_⟩
        cases c <;> cases h5 <;> first | rfl | cases h3
    refine ⟨upd F a u, ⟨fun b o e => ?_, r.oh, ff, fun b o e => ?_, by simp [hl, r.len], fun j c' h => ?_, fun j k b o1 o2 => r.inj j k b (ow o1).2 (ow o2).2, fun j b o => r.no j b (ow o).2⟩, ff⟩
    · by_cases hb : b = a
      · subst hb; rw [upd_same] at e; cases e; exact ha
      · rw [upd_ne hb] at e; exact r.fh b o e
    · have hb : b ≠ a := fun z => by subst z; rw [oa] at e; cases e
      rw [upd_ne hb]; exact r.of_ b o e
    · rcases at' j c' h with ⟨rfl, rfl⟩ | ⟨nj, c, h4, h5⟩
      · refine ⟨_, ev, ?_⟩
        cases ro with
        | lst rx hn => exact ⟨a, _, rfl, upd_same, .lst rx hn, fa⟩
      · obtain ⟨v', ev', hc⟩ := r.at_ j c h4
        refine ⟨v', ev', ?_⟩
        have nea : ∀ b, c.isOwn = true → v' = .ref b → b ≠ a := fun b co eb z => by
          subst eb; subst z
          exact nj (r.inj j i b ⟨ev', c, h4, co⟩ oi)
        cases c with
        | val d => cases h5; exact hc
        | own d =>
          cases h5
          obtain ⟨b, w, eb, hb, rb, fb⟩ := hc
          exact ⟨b, w, eb, hb, rb.mono ff, by rw [upd_ne (nea b rfl eb)]; exact fb⟩
        | par m d =>
          cases h5
          obtain ⟨b, w, eb, hA, hb, rb, fb⟩ := hc
          exact ⟨b, w, eb, hA, hb, rb.mono ff, by rw [upd_ne (nea b rfl eb)]; exact fb⟩
        | old d => cases h5
        | lent d => cases h5
  · cases h
theorem flat_rps {K : PySem.W.Frag} {F F' : Hp} : ∀ {xs : List V} {ds : List D}, Rps K F xs ds → ds.all atomD = true → Rps K F' xs ds
  | _, _, .nil, _ => .nil
  | _, _, .cons h t, hf => by
    rw [List.all_cons, Bool.and_eq_true] at hf
    refine .cons ?_ (flat_rps t hf.2)
    cases h <;> first | exact .non | exact .bl _ | exact .int _ | exact .str _ | cases hf.1
theorem flat_ro {K : PySem.W.Frag} {F F' : Hp} {u : HO} {d : D} (h : RO K F u d) (hf : flatD d = true) : RO K F' u d := by
  cases h with
  | lst rx hn => exact .lst (flat_rps rx hf) hn
  | _ => cases hf
open Classical in
theorem RE.endL {i k : Nat} (r : RE ⟨K, F, A⟩ O F2 H σ ρ) (g : Le G F) (h : lendE i k ρ = some ρ') : ∃ F3, RE ⟨K, G, A⟩ O F3 H σ ρ' ∧ Le F F3 := by
  obtain ⟨hl, he⟩ := lendE_at h
  let F3 : Hp := fun a => if F a = none then none else F2 a
  have f3n : ∀ a, F a = none → F3 a = none := fun a e => if_pos e
  have f3s : ∀ a o, F3 a = some o → F2 a = some o := fun a o e => by
    by_cases z : F a = none
    · rw [f3n a z] at e; cases e
    · have : F3 a = F2 a := if_neg z
      rw [this] at e; exact e
  have f2n : ∀ a, F2 a = none → F3 a = none := fun a e => by
    cases z : F3 a with
    | none => rfl
    | some o => rw [f3s a o z] at e; cases e
  have ff : Le F F3 := fun a o e => by
    have : F3 a = F2 a := if_neg (by rw [e]; exact fun z => nomatch z)
    rw [this]
    exact r.gf a o e
  have ow : ∀ {j b}, Own σ ρ' j b → (Own σ ρ j b ∧ F2 b = none) ∨ (k + j = i ∧ ∃ o, F2 b = some o ∧ O b = none) := fun {j b} ⟨h1, c', h2, h3⟩ => by
    obtain ⟨c, h4, h5⟩ := he j c' h2
    obtain ⟨v, ev, hc⟩ := r.at_ j c h4
    rw [h1] at ev; cases ev
    cases c with
    | val d => simp only [eCell] at h5; split at h5 <;> cases h5; cases h3
    | old d => simp only [eCell] at h5; cases h5; cases h3
    | own d =>
      obtain ⟨_, _, e1, _, _, fa⟩ := hc
      cases e1
      exact .inl ⟨⟨h1, _, h4, rfl⟩, fa⟩
    | par m d =>
      obtain ⟨_, _, e1, _, _, _, fa⟩ := hc
      cases e1
      exact .inl ⟨⟨h1, _, h4, rfl⟩, fa⟩
    | lent d =>
      obtain ⟨a, xs, e1, fa, _, _⟩ := hc
      cases e1
      simp only [eCell] at h5
      split at h5
      · rename_i hk
        refine .inr ⟨hk, _, fa, ?_⟩
        cases z : O b with
        | none => rfl
        | some o => rw [r.of_ b o z] at fa; cases fa
      · cases h5
  refine ⟨F3, ⟨fun a o e => r.fh a o (f3s a o e), r.oh, g.trans ff, fun a o e => f2n a (r.of_ a o e), by rw [hl]; exact r.len, fun j c' h => ?_, fun j m b o1 o2 => ?_, fun j b o => ?_⟩, ff⟩
  · obtain ⟨c, h4, h5⟩ := he j c' h
    obtain ⟨v, ev, hc⟩ := r.at_ j c h4
    refine ⟨v, ev, ?_⟩
    cases c with
    | val d =>
      simp only [eCell] at h5
      split at h5
      · rename_i ha
        cases h5
        show Rp K F3 v d
        have hc : Rp K F2 v d := hc
        cases hc <;> first | exact .non | exact .bl _ | exact .int _ | exact .str _ | cases ha
      · cases h5
    | old d =>
      simp only [eCell] at h5
      cases h5
      exact Rp.mono ff hc
    | own d =>
      simp only [eCell] at h5
      split at h5
      · rename_i hf
        cases h5
        obtain ⟨a, u, e1, e2, ro, fa⟩ := hc
        exact ⟨a, u, e1, e2, flat_ro ro hf, f2n a fa⟩
      · cases h5
    | par m d =>
      simp only [eCell] at h5
      split at h5
      · rename_i hf
        cases h5
        obtain ⟨a, u, e1, e3, e2, ro, fa⟩ := hc
        exact ⟨a, u, e1, e3, e2, flat_ro ro hf, f2n a fa⟩
      · cases h5
    | lent d =>
      simp only [eCell] at h5
      split at h5
      · cases h5
        obtain ⟨a, xs, e1, fa, ro, ga⟩ := hc
        exact ⟨a, _, e1, r.fh a _ fa, ro.mono ff, f3n a ga⟩
      · cases h5
  · rcases ow o1 with ⟨w1, n1⟩ | ⟨k1, u1, s1, _⟩
    · rcases ow o2 with ⟨w2, n2⟩ | ⟨k2, u2, s2, _⟩
      · exact r.inj j m b w1 w2
      · rw [n1] at s2; cases s2
    · rcases ow o2 with ⟨w2, n2⟩ | ⟨k2, u2, s2, _⟩
      · rw [n2] at s1; cases s1
      · omega
  · rcases ow o with ⟨w1, _⟩ | ⟨_, _, _, z⟩
    · exact r.no j b w1
    · exact z
end
/-- the statements f while slot i's list is lent -/
def sLend (i : Nat) (f : Env → Option Out) : Env → Option Out := fun ρ => (beginE i ρ).bind fun ρ1 => (f ρ1).bind fun o => match o with
  | .nx ρ2 => (lendE i 0 ρ2).bind fun ρ3 => some (.nx ρ3)
  | .bk ρ2 => (lendE i 0 ρ2).bind fun ρ3 => some (.bk ρ3)
  | .ct ρ2 => (lendE i 0 ρ2).bind fun ρ3 => some (.ct ρ3)
  | .rt c ρ2 => (lendE (i + 1) 0 (some c :: ρ2)).bind fun ρ3 => match ρ3 with
    | some c' :: ρ4 => some (.rt c' ρ4)
    | _ => none
theorem css_lend {X : Cx} {l : List Stmt} {f : Env → Option Out} (i : Nat) (h : CSs X l f) : CSs X l (sLend i f) := by
  obtain ⟨t, p, s⟩ := h
  refine ⟨t, p, SndS.of fun G A O F H σ ρ out D r e q => ?_⟩
  obtain ⟨ρ1, e1, e⟩ := bnd e
  obtain ⟨o, e2, e⟩ := bnd e
  obtain ⟨F1, r1, f1⟩ := r.begin e1
  have g : Le G F := r.gf
  refine s.post r1 e2 ?_
  cases o with
  | nx ρ2 =>
    obtain ⟨ρ3, e3, e⟩ := bnd (show (lendE i 0 ρ2).bind _ = some out from e)
    cases e
    exact fun F2 H2 σ2 r2 f2 => let ⟨F3, r3, f3⟩ := r2.endL g e3; q F3 H2 σ2 r3 f3
  | bk ρ2 =>
    obtain ⟨ρ3, e3, e⟩ := bnd (show (lendE i 0 ρ2).bind _ = some out from e)
    cases e
    exact fun F2 H2 σ2 r2 f2 => let ⟨F3, r3, f3⟩ := r2.endL g e3; q F3 H2 σ2 r3 f3
  | ct ρ2 =>
    obtain ⟨ρ3, e3, e⟩ := bnd (show (lendE i 0 ρ2).bind _ = some out from e)
    cases e
    exact fun F2 H2 σ2 r2 f2 => let ⟨F3, r3, f3⟩ := r2.endL g e3; q F3 H2 σ2 r3 f3
  | rt c ρ2 =>
    obtain ⟨ρ3, e3, e⟩ := bnd (show (lendE (i + 1) 0 (some c :: ρ2)).bind _ = some out from e)
    cases ρ3 with
    | nil => cases e
    | cons x ρ4 => cases x with
      | none => cases e
      | some c' =>
        cases e
        exact fun F2 H2 v σ2 r2 f2 => let ⟨F3, r3, f3⟩ := r2.endL g e3; q F3 H2 v σ2 r3 f3
end Q
end
section
set_option maxHeartbeats 1000000
namespace Q
open PySem PySem.Spec PyProof.Rows L2
section
variable {X : Cx} {e : Expr} {pos : Pos}
/-- -e -/
def dNeg (f : Env → Option (Hd × Env)) : Env → Option (Cell × Env) := fun ρ => (f ρ).bind fun p => (look p.2 p.1).bind fun d => match d with
  | .int i => some (.val (.int (-i)), p.2)
  | _ => none
theorem ce_neg {f : Env → Option (Hd × Env)} (h : OE X e f) : CE X (.UnaryOp .USub e pos) (dNeg f) := by
  obtain ⟨t, p, s⟩ := h
  refine ⟨_, pe_un un_neg p, fun G A O F H σ ρ c ρ' Q r e q => ?_⟩
  obtain ⟨⟨h, ρ1⟩, e1, e⟩ := bnd e
  obtain ⟨d, e2, e⟩ := bnd e
  cases d with
  | int i =>
    cases (show some (Cell.val (.int (-i)), ρ1) = some (c, ρ') from e)
    refine s G A O F H σ ρ _ _ _ r e1 fun F1 H1 v r1 f1 hv => ?_
    exact ⟨i, (r1.look hv e2).int, q F1 H1 _ (r1.pushV (.int _)) f1⟩
  | _ => cases e
end
theorem fnScope_by {N P : List Str} {sc : Scope} (h : C8.scC N P sc = true) : L2.FnScope N P sc := C8.fnScope_by h
theorem _root_.L2.FunD.bindsK {K : PySem.W.Frag} {x qual : Str} {params : Arguments} {body : List Stmt} {scope : Scope} {kws : List (Str × V)} {f : Addr} {fd : FuncData} {ps : List Str} (F : FunD K x qual params body scope [] kws f fd) (ks : List Str) (perm : List Nat)
    (h : ∀ (kV doc pm : Value) (an : Option Addr) (cdv ct : Value) (ws : List Value), ws.length = ks.length → bindArgs (PySem.W.fnOf x qual params body scope .none kV doc pm an cdv ct) ⟨[], ks.zip ws⟩ = pure (ps.zip (perm.map fun i => ws.getD i .none))) (s : Shared) (ws : List Value) (hl : ws.length = ks.length) : BindsTo s fd ⟨[], ks.zip ws⟩ (ps.zip (perm.map fun i => ws.getD i .none)) := by
  obtain ⟨oc, od, dV, kV, doc, pm, an, cdv, ct, osl, rfl, lk, hcd, hD, hK⟩ := F.ex
  rcases hD with ⟨_, rfl⟩ | ⟨e, _⟩
  · exact .of_eq (h kV doc pm an cdv ct ws hl)
  · exact absurd rfl e
end Q
/-! ### the Hook, with isinstance of own classes -/
namespace QH
open PySem PySem.Spec PyProof.Rows L2 He
def insB (K : PySem.W.Frag) (x : Str) : Bool := eqO (PySem.W.findIn K (.ref (ga K x)) "__class__") (some (some (.builtin "object.__class__"))) && (eqO (PySem.W.specialIn K (.builtin "object.__class__") "__get__") (some (some (.builtin "getset_descriptor.__get__"))) &&
  (decide (PySem.W.takesIn K (.builtin "object.__class__") = some true) && (decide (PySem.W.mroIn K (ga K x) (.type "object") = some true) && decide (PySem.W.kitOne K (.ref (ga K x)) (.ref (ga K x)) = some true))))
theorem ins_ok {K : PySem.W.Frag} {x : Str} (h : insB K x = true) (c : Cls K (ga K x)) : C8.InsC K (ga K x) := by
  obtain ⟨h1, h⟩ := ba h
  obtain ⟨h2, h⟩ := ba h
  obtain ⟨h3, h⟩ := ba h
  obtain ⟨h4, h5⟩ := ba h
  exact ⟨c, eqO_ok h1, eqO_ok h2, of_decide_eq_true h3, of_decide_eq_true h4, of_decide_eq_true h5⟩
abbrev AlI : Type := Bool × AlD
def obsI (cs : List Str) (fa : List Fa) (fn : List DefD) (K : PySem.W.Frag) : AlI := (cs.all fun x => insB K x, obsD fa fn K)
def valI (fn : List DefD) : AlI := (true, valD fn)
def SaysI (cs : List Str) (fa : List Fa) (fn : List DefD) (K : PySem.W.Frag) : Prop := obsI cs fa fn K = valI fn
def obsIG (n : Nat) (cs : List Str) (fa : List Fa) (fn : List DefD) (g : Addr → Option Obj) : AlI := obsI cs fa fn (frG g (asD g n))
def hookI (n : Nat) (cs : List Str) (fa : List Fa) (fn : List DefD) : PySem.W.Hook where
  α := AlI
  obs := fun s => obsIG n cs fa fn s.heap.get?
  val := fun _ => valI fn
  says := fun _ h => ∃ K : PySem.W.Frag, K.In h ∧ SaysI cs fa fn K
  of := fun _ _ e => ⟨_, frG_in, e⟩
  keeps := fun _ _ _ ⟨K, hK, c⟩ k => ⟨K, PySem.W.Frag.In.keeps hK k, c⟩
theorem obsIG_eq {n : Nat} {cs : List Str} {fa : List Fa} {fn : List DefD} {g : Addr → Option Obj} {s : Shared} (h : ∀ a, g a = s.heap.get? a) : obsIG n cs fa fn g = (hookI n cs fa fn).obs s := by
  have e : g = s.heap.get? := funext h
  rw [e] <;> rfl
theorem SaysI.d {cs : List Str} {fa : List Fa} {fn : List DefD} {K : PySem.W.Frag} (c : SaysI cs fa fn K) : SaysD fa fn K := congrArg (fun z : AlI => z.2) c
theorem SaysI.ins {cs : List Str} {fa : List Fa} {fn : List DefD} {K : PySem.W.Frag} (c : SaysI cs fa fn K) (i : Nat) {x : Str} (h : cs[i]? = some x := by rfl) : insB K x = true :=
  List.all_eq_true.mp (show (cs.all fun x => insB K x) = true from congrArg (fun z : AlI => z.1) c) x (List.mem_of_getElem? h)
end QH
end
section
set_option maxHeartbeats 0
namespace K81
open PySem PySem.Spec PyProof.Rows L2
def top (i : Nat) : Stmt := PySem.Challenge.pw_madetables_k81_strikes_clause_by_clause.main.body.getD i (.Pass ⟨0, 0, 0, 0⟩)
abbrev sis_integer : Stmt := top 11
def dis_integer : He.DefD := ⟨("is_integer", none), "is_integer", "is_integer", defArgs sis_integer, defBody sis_integer, defScope sis_integer, [], []⟩
abbrev sis_between : Stmt := top 12
def dis_between : He.DefD := ⟨("is_between", none), "is_between", "is_between", defArgs sis_between, defBody sis_between, defScope sis_between, [], []⟩
abbrev sis_list : Stmt := top 13
def dis_list : He.DefD := ⟨("is_list", none), "is_list", "is_list", defArgs sis_list, defBody sis_list, defScope sis_list, [], []⟩
abbrev sis_tuple_of : Stmt := top 14
def dis_tuple_of : He.DefD := ⟨("is_tuple_of", none), "is_tuple_of", "is_tuple_of", defArgs sis_tuple_of, defBody sis_tuple_of, defScope sis_tuple_of, [], []⟩
abbrev sis_word : Stmt := top 15
def dis_word : He.DefD := ⟨("is_word", none), "is_word", "is_word", defArgs sis_word, defBody sis_word, defScope sis_word, [], []⟩
abbrev scheck_size : Stmt := top 18
def dcheck_size : He.DefD := ⟨("check_size", none), "check_size", "check_size", defArgs scheck_size, defBody scheck_size, defScope scheck_size, [], []⟩
abbrev sare_things : Stmt := top 19
def dare_things : He.DefD := ⟨("are_things", none), "are_things", "are_things", defArgs sare_things, defBody sare_things, defScope sare_things, [], []⟩
abbrev sis_row_of : Stmt := top 20
def dis_row_of : He.DefD := ⟨("is_row_of", none), "is_row_of", "is_row_of", defArgs sis_row_of, defBody sis_row_of, defScope sis_row_of, [], []⟩
abbrev severy_row : Stmt := top 21
def devery_row : He.DefD := ⟨("every_row", none), "every_row", "every_row", defArgs severy_row, defBody severy_row, defScope severy_row, [], []⟩
abbrev starget_where : Stmt := top 22
def dtarget_where : He.DefD := ⟨("target_where", none), "target_where", "target_where", defArgs starget_where, defBody starget_where, defScope starget_where, [], []⟩
abbrev sis_table : Stmt := top 26
def dis_table : He.DefD := ⟨("is_table", none), "is_table", "is_table", defArgs sis_table, defBody sis_table, defScope sis_table, [], []⟩
abbrev sare_tables : Stmt := top 27
def dare_tables : He.DefD := ⟨("are_tables", none), "are_tables", "are_tables", defArgs sare_tables, defBody sare_tables, defScope sare_tables, [], []⟩
abbrev sBookD_initD : Stmt := inClass (top 28) 0
def dBookD_initD : He.DefD := ⟨("Book", some "__init__"), "__init__", "Book.__init__", defArgs sBookD_initD, defBody sBookD_initD, defScope sBookD_initD, [], []⟩
abbrev sBookD_eqD : Stmt := inClass (top 28) 1
def dBookD_eqD : He.DefD := ⟨("Book", some "__eq__"), "__eq__", "Book.__eq__", defArgs sBookD_eqD, defBody sBookD_eqD, defScope sBookD_eqD, [], []⟩
abbrev sBook_target : Stmt := inClass (top 28) 2
def dBook_target : He.DefD := ⟨("Book", some "target"), "target", "Book.target", defArgs sBook_target, defBody sBook_target, defScope sBook_target, [], []⟩
abbrev sBook_columns : Stmt := inClass (top 28) 3
def dBook_columns : He.DefD := ⟨("Book", some "columns"), "columns", "Book.columns", defArgs sBook_columns, defBody sBook_columns, defScope sBook_columns, [], []⟩
abbrev sBook_rows : Stmt := inClass (top 28) 4
def dBook_rows : He.DefD := ⟨("Book", some "rows"), "rows", "Book.rows", defArgs sBook_rows, defBody sBook_rows, defScope sBook_rows, [], []⟩
abbrev sBook_holds : Stmt := inClass (top 28) 5
def dBook_holds : He.DefD := ⟨("Book", some "holds"), "holds", "Book.holds", defArgs sBook_holds, defBody sBook_holds, defScope sBook_holds, [], []⟩
abbrev scheck_book : Stmt := top 29
def dcheck_book : He.DefD := ⟨("check_book", none), "check_book", "check_book", defArgs scheck_book, defBody scheck_book, defScope scheck_book, [], []⟩
abbrev sis_atom_of : Stmt := top 33
def dis_atom_of : He.DefD := ⟨("is_atom_of", none), "is_atom_of", "is_atom_of", defArgs sis_atom_of, defBody sis_atom_of, defScope sis_atom_of, [], []⟩
abbrev sis_conjunction : Stmt := top 34
def dis_conjunction : He.DefD := ⟨("is_conjunction", none), "is_conjunction", "is_conjunction", defArgs sis_conjunction, defBody sis_conjunction, defScope sis_conjunction, [], []⟩
abbrev sis_wish_list : Stmt := top 38
def dis_wish_list : He.DefD := ⟨("is_wish_list", none), "is_wish_list", "is_wish_list", defArgs sis_wish_list, defBody sis_wish_list, defScope sis_wish_list, [], []⟩
abbrev scheck_wishes : Stmt := top 39
def dcheck_wishes : He.DefD := ⟨("check_wishes", none), "check_wishes", "check_wishes", defArgs scheck_wishes, defBody scheck_wishes, defScope scheck_wishes, [], []⟩
abbrev scan_have : Stmt := top 40
def dcan_have : He.DefD := ⟨("can_have", none), "can_have", "can_have", defArgs scan_have, defBody scan_have, defScope scan_have, [], []⟩
abbrev snext_strike : Stmt := top 41
def dnext_strike : He.DefD := ⟨("next_strike", none), "next_strike", "next_strike", defArgs snext_strike, defBody snext_strike, defScope snext_strike, [], []⟩
abbrev sstruck_list : Stmt := top 42
def dstruck_list : He.DefD := ⟨("struck_list", none), "struck_list", "struck_list", defArgs sstruck_list, defBody sstruck_list, defScope sstruck_list, [], []⟩
abbrev sstrikes : Stmt := top 43
def dstrikes : He.DefD := ⟨("strikes", none), "strikes", "strikes", defArgs sstrikes, defBody sstrikes, defScope sstrikes, [], []⟩
abbrev sis_strike : Stmt := top 44
def dis_strike : He.DefD := ⟨("is_strike", none), "is_strike", "is_strike", defArgs sis_strike, defBody sis_strike, defScope sis_strike, [], []⟩
abbrev sis_strikes : Stmt := top 45
def dis_strikes : He.DefD := ⟨("is_strikes", none), "is_strikes", "is_strikes", defArgs sis_strikes, defBody sis_strikes, defScope sis_strikes, [], []⟩
abbrev s_law_cell : Stmt := top 47
def d_law_cell : He.DefD := ⟨("_law_cell", none), "_law_cell", "_law_cell", defArgs s_law_cell, defBody s_law_cell, defScope s_law_cell, [], []⟩
abbrev s_law_box : Stmt := top 48
def d_law_box : He.DefD := ⟨("_law_box", none), "_law_box", "_law_box", defArgs s_law_box, defBody s_law_box, defScope s_law_box, [], []⟩
abbrev s_law_take : Stmt := top 49
def d_law_take : He.DefD := ⟨("_law_take", none), "_law_take", "_law_take", defArgs s_law_take, defBody s_law_take, defScope s_law_take, [], []⟩
abbrev s_law_mixed : Stmt := top 50
def d_law_mixed : He.DefD := ⟨("_law_mixed", none), "_law_mixed", "_law_mixed", defArgs s_law_mixed, defBody s_law_mixed, defScope s_law_mixed, [], []⟩
abbrev s_law_same : Stmt := top 51
def d_law_same : He.DefD := ⟨("_law_same", none), "_law_same", "_law_same", defArgs s_law_same, defBody s_law_same, defScope s_law_same, [], []⟩
abbrev s_law_every : Stmt := top 52
def d_law_every : He.DefD := ⟨("_law_every", none), "_law_every", "_law_every", defArgs s_law_every, defBody s_law_every, defScope s_law_every, [], []⟩
abbrev s_law_built : Stmt := top 53
def d_law_built : He.DefD := ⟨("_law_built", none), "_law_built", "_law_built", defArgs s_law_built, defBody s_law_built, defScope s_law_built, [], []⟩
abbrev s_law_field : Stmt := top 54
def d_law_field : He.DefD := ⟨("_law_field", none), "_law_field", "_law_field", defArgs s_law_field, defBody s_law_field, defScope s_law_field, [], []⟩
abbrev s_law_wishes : Stmt := top 55
def d_law_wishes : He.DefD := ⟨("_law_wishes", none), "_law_wishes", "_law_wishes", defArgs s_law_wishes, defBody s_law_wishes, defScope s_law_wishes, [], []⟩
abbrev s_law_ways : Stmt := top 56
def d_law_ways : He.DefD := ⟨("_law_ways", none), "_law_ways", "_law_ways", defArgs s_law_ways, defBody s_law_ways, defScope s_law_ways, [], []⟩
abbrev s_law_behind : Stmt := top 57
def d_law_behind : He.DefD := ⟨("_law_behind", none), "_law_behind", "_law_behind", defArgs s_law_behind, defBody s_law_behind, defScope s_law_behind, [], []⟩
abbrev s_law_all_struck : Stmt := top 58
def d_law_all_struck : He.DefD := ⟨("_law_all_struck", none), "_law_all_struck", "_law_all_struck", defArgs s_law_all_struck, defBody s_law_all_struck, defScope s_law_all_struck, [], []⟩
abbrev slaw : Stmt := top 59
def dlaw : He.DefD := ⟨("law", none), "law", "law", defArgs slaw, defBody slaw, defScope slaw, [], []⟩
def fn : List He.DefD := [dis_integer, dis_between, dis_list, dis_tuple_of, dis_word, dcheck_size, dare_things, dis_row_of, devery_row, dtarget_where, dis_table, dare_tables, dBookD_initD, dBookD_eqD, dBook_target, dBook_columns, dBook_rows, dBook_holds, dcheck_book, dis_atom_of, dis_conjunction, dis_wish_list, dcheck_wishes, dcan_have, dnext_strike, dstruck_list, dstrikes, dis_strike, dis_strikes, d_law_cell, d_law_box, d_law_take, d_law_mixed, d_law_same, d_law_every, d_law_built, d_law_field, d_law_wishes, d_law_ways, d_law_behind, d_law_all_struck, dlaw]
def fa : List He.Fa := [.glo "is_integer", .glo "is_between", .glo "is_list", .glo "is_tuple_of", .glo "is_word", .glo "check_size", .glo "are_things", .glo "is_row_of", .glo "every_row", .glo "target_where", .glo "is_table", .glo "are_tables", .glo "check_book", .glo "is_atom_of", .glo "is_conjunction", .glo "is_wish_list", .glo "check_wishes", .glo "can_have", .glo "next_strike", .glo "struck_list", .glo "strikes", .glo "is_strike", .glo "is_strikes", .glo "_law_cell", .glo "_law_box", .glo "_law_take", .glo "_law_mixed", .glo "_law_same", .glo "_law_every", .glo "_law_built", .glo "_law_field", .glo "_law_wishes", .glo "_law_ways", .glo "_law_behind", .glo "_law_all_struck", .glo "law", .free "isinstance", .free "int", .free "bool", .free "list", .free "tuple", .free "len", .free "all", .free "str", .free "range", .free "dict", .free "sorted", .free "zip", .free "enumerate", .free "any", .free "sum", .free "abs", .free "max", .free "min", .str "LETTERS" "abcdefghijklmnopqrstuvwxyz", .int "MOST_LETTERS" 12, .int "MOST_SIZE" 4, .int "MOST_TABLES" 5, .int "MOST_COLUMNS" 3, .int "MOST_VARIABLES_queries" 100, .int "MOST_ATOMS_queries" 20000, .int "MOST_VARIABLES_wishes" 40, .int "MOST_ATOMS_wishes" 60, .glo "Book", .cls "Book", .mkr "Book", .noat "Book" "size", .noat "Book" "names", .noat "Book" "_targets", .meth "Book" "__init__", .meth "Book" "__eq__", .meth "Book" "target", .meth "Book" "columns", .meth "Book" "rows", .meth "Book" "holds"]
-- facts by index: 
abbrev R : PySem.W.OpenRow := PySem.W.OpenLaw.row PySem.Challenge.rw_madetables_k81_strikes_clause_by_clause
def cs : List PySem.Str := ["Book"]
abbrev hk : PySem.W.Hook := QH.hookI 5 cs fa fn
def ob (s : PySem.W.SharedT) : QH.AlI := QH.obsIG 5 cs fa fn (HandSHeadRun.getT s)
theorem ob_eq (s : PySem.W.SharedT) : ob s = hk.obs s.abs := QH.obsIG_eq (HandSHeadRun.getT_eq s)
def steps : Nat := 3000
def loose0 : List PySem.Str := ["_wall", "TableError", "InvalidSize", "InvalidTables", "InvalidBook", "InvalidWishes", "UnknownName", "LETTERS", "MOST_LETTERS", "is_integer", "is_between", "is_list", "is_tuple_of", "is_word", "MOST_SIZE", "check_size", "are_things", "is_row_of", "every_row", "target_where", "MOST_TABLES", "MOST_COLUMNS", "is_table", "are_tables", "Book", "check_book", "MOST_VARIABLES_queries", "MOST_ATOMS_queries", "is_atom_of", "is_conjunction"]
def loose1 : List PySem.Str := ["MOST_VARIABLES_wishes", "MOST_ATOMS_wishes", "is_wish_list", "check_wishes", "can_have", "next_strike", "struck_list", "strikes", "is_strike", "is_strikes", "_law_cell", "_law_box", "_law_take", "_law_mixed", "_law_same", "_law_every", "_law_built", "_law_field", "_law_wishes", "_law_ways", "_law_behind", "_law_all_struck"]
def loose : List PySem.Str := loose0 ++ loose1
theorem run (w : World) : HandSHeadRun.RunEq R (PySem.W.view R.prog [59]) hk ob 3000 loose w := by
  intro os
  kernel_rfl
end K81
end
section
set_option maxHeartbeats 1000000
namespace Q
open PySem PySem.Spec PyProof.Rows L2
/-! ### a def that ends by return (x, y), of which the caller takes the second alone: y is handed over -/
def spP (K : PySem.W.Frag) (n : Nat) (φ : Fn) : Sp := fun vs H Q E => spF K n φ vs H (fun v1 H' => ∀ v0 p, H' p = none → Q (.ref p) (upd H' p (.tup [v0, v1]))) E
/-- the statements fall through, slot i stands -/
def sNx (i : Nat) (g : Env → Option Out) : Env → Option Out := fun ρ => (g ρ).bind fun o => match o with
  | .nx ρ1 => (oVar i ρ1).bind fun _ => some (.nx ρ1)
  | _ => none
section
variable {P : Program} {w : World} {K : PySem.W.Frag} {mg : Str → Option Value} {base : Heap} {x qual : Str} {params : Arguments} {body : List Stmt} {scope : Scope} {dvs : List V} {kws : List (Str × V)} {f : Addr} {fd : FuncData} {N ps : List Str} {k : Nat}
theorem fn_okP {g : Env → Option Out} {a b : Str} {pa pb pt pr : Pos} {kk} (m i j : Nat) (F : FunD K x qual params body scope dvs kws f fd) (S : FnScope N ps scope) (hd : body.drop m = [.Return (some (.Tuple [.Name a pa, .Name b pb] kk pt)) pr])
    (hi : N[i]? = some a) (hj : N[j]? = some b) (va : Vis scope a) (vb : Vis scope b)
    (hb : ∀ (cdv : Value) (A : Around) (outer : List PySem.Env) (s : Shared) (H : Hp) (E : XK), Room k (A.deeper (envOfC qual scope s.heap.objs.size f cdv)) → CSs (cxOf CX0 P w K mg base N qual scope f cdv A outer s H E).nox (body.take m) g)
    (da : (a == ("__debug__" : Str)) = false := by decide) (ca : (a == ("__classdict__" : Str)) = false := by decide) (db : (b == ("__debug__" : Str)) = false := by decide) (cb : (b == ("__classdict__" : Str)) = false := by decide) :
    FnOk P w K mg base CX0 (k + 1) f fd ps (spP K ps.length (fnD N.length (sSeq (sNx i g) (sRet (dMove j))))) := by
  refine FunD.ok F S (fun vs H Q E h => h.1) fun cdv A outer s H vs Q E hr hsp => ?_
  obtain ⟨t, p, z⟩ := hb cdv A outer s H E hr
  obtain ⟨hn, O, F0, cs, c, cs', r, e, hc, q⟩ := hsp
  let X := (cxOf CX0 P w K mg base N qual scope f cdv A outer s H E).nox
  have pr' : PSs X (body.drop m) (tRet (tTup (tCons (tVar i) (tCons (tVar j) tNil)))) := by
    rw [hd]
    exact pss_one (ps_ret (pe_tup (pa_cons (pe_var (X := X) hi va da ca) (pa_cons (pe_var (X := X) hj vb db cb) pa_nil))))
  have pp := pss_app p pr'
  rw [List.take_append_drop] at pp
  refine ⟨_, pp.nox, ?_⟩
  obtain ⟨o, e1, e2⟩ := bnd (show ((sSeq (sNx i g) (sRet (dMove j))) (parm 0 cs ++ List.replicate (N.length - cs.length) none)).bind _ = some (c, cs') from e)
  obtain ⟨o1, e3, e4⟩ := bnd (show ((sNx i g) (parm 0 cs ++ List.replicate (N.length - cs.length) none)).bind _ = some o from e1)
  obtain ⟨o2, e5, e6⟩ := bnd (show (g (parm 0 cs ++ List.replicate (N.length - cs.length) none)).bind _ = some o1 from e3)
  cases o2 with
  | nx ρ1 =>
    obtain ⟨hi', e7, e8⟩ := bnd (show (oVar i ρ1).bind _ = some o1 from e6)
    cases e8
    obtain ⟨⟨c1, ρ2⟩, e9, e10⟩ := bnd (show (dMove j ρ1).bind _ = some o from e4)
    cases e10
    refine SndS.post z (re_start r) e5 ?_
    intro F' H' σ' r' f'
    -- slot i
    have h0 : ∃ v0, σ'[i]? = some (some v0) := by
      unfold oVar at e7
      split at e7
      · rename_i c0 hc0
        obtain ⟨v0, ev, _⟩ := r'.at_ i c0 hc0
        exact ⟨v0, ev⟩
      · cases e7
    obtain ⟨v0, ev0⟩ := h0
    have fin : ∀ v1 F2, σ'[j]? = some (some v1) → RE ⟨K, F0, adr vs⟩ O F2 H' (some v1 :: σ') (some c1 :: ρ2) → Le F' F2 → ((∃ d, c1 = .val d) ∨ ∃ d, c1 = .own d) → (outs 0 cs ρ2).bind (fun r => some (c1, r)) = some (c, cs') → (tRet (tTup (tCons (tVar i) (tCons (tVar j) tNil)))) { nx := fun _ H' => Q .non H', rt := Q } σ' H' := by
      intro v1 F2 ev1 r2 f2 hc1 e11
      obtain ⟨rr, e12, e13⟩ := bnd e11
      cases e13
      refine ⟨v0, ev0, v1, ev1, by show 2 ≤ sizeLine; decide, fun p hp => ?_⟩
      exact q F2 H' v1 (re_end r r2 (f'.trans f2) e12 hc1) (f'.trans f2) v0 p hp
    -- what dMove gives
    have mv : ∃ v1 F2, σ'[j]? = some (some v1) ∧ RE ⟨K, F0, adr vs⟩ O F2 H' (some v1 :: σ') (some c1 :: ρ2) ∧ Le F' F2 := by
      unfold dMove at e9
      split at e9
      · rename_i d hj'
        cases e9
        obtain ⟨v, ev, _⟩ := r'.at_ j _ hj'
        exact ⟨v, F', ev, r'.move hj' ev, Le.refl F'⟩
      · obtain ⟨v1, ev1, F2, r2, f2⟩ := snd_var (K := K) F0 (adr vs) O F' H' σ' ρ1 c1 ρ2 (fun v H2 => ∃ F2, RE ⟨K, F0, adr vs⟩ O F2 H2 (some v :: σ') (some c1 :: ρ2) ∧ Le F' F2) r' e9 fun F2 H2 v r2 f2 => ⟨F2, r2, f2⟩
        exact ⟨v1, F2, ev1, r2, f2⟩
    obtain ⟨v1, F2, ev1, r2, f2⟩ := mv
    cases c1 with
    | val d => exact fin v1 F2 ev1 r2 f2 (.inl ⟨d, rfl⟩) e2
    | own d => exact fin v1 F2 ev1 r2 f2 (.inr ⟨d, rfl⟩) e2
    | _ => cases e2
  | rt c ρ' => cases e6
  | bk ρ' => cases e6
  | ct ρ' => cases e6
end
/-- a def that may be called so -/
structure FdP (P : Program) (w : World) (K : PySem.W.Frag) (mg : Str → Option Value) (base : Heap) (k : Nat) (x : Str) (n : Nat) (φ : Fn) : Prop where
  ex : ∃ (f : Addr) (fd : FuncData) (ps : List Str), FnOk P w K mg base CX0 k f fd ps (spP K n φ) ∧ mg x = some (.ref f) ∧ PySem.W.keepIn K (.ref f) = true ∧ Binds K fd ps []
section
variable {X : Cx} {k j n : Nat} {x : Str} {φ : Fn} {e : Expr} {es : List Expr} {fa : Env → Option (List Hd × Env)} {p pos p2 pos2 : Pos} {kk : Nat}
theorem ce_callP (c : FdP X.prog X.w X.K X.mg X.base k x n φ) (hr : Room j X.A) (hk : k ≤ j) (hg : Gl X x) (ha : OA X (e :: es) fa)
    (hdb : (x == ("__debug__" : Str)) = false := by decide) (he : starEach (e :: es) X.env = (false, eval e X.env) :: starEach es X.env := by rfl) (hpl : (backTo pos (starEach es X.env)).any (·.1) = false := by rfl) :
    CE X (.Subscript (.Call (.Name x p) (e :: es) [] pos) (.Constant (.int 1) kk p2) pos2) (dCal n φ fa) := by
  obtain ⟨f, fd, ps, F, hm, kp, b⟩ := c.ex
  obtain ⟨t, pa, s⟩ := ha
  refine ⟨_, pe_ix ix_tup (pe_call F (hr.mono hk) hg hm kp b .nil pass0 pa hdb he hpl) pe_int (fun _ _ => rfl), fun G A O F H σ ρ c ρ' Q r e q => ?_⟩
  obtain ⟨⟨hs, ρ1⟩, e1, e⟩ := bnd e
  split at e
  · rename_i hn
    refine s G A O F H σ ρ _ _ _ r e1 fun F1 H1 vs r1 f1 hv => ?_
    rw [List.append_nil]
    refine app_ok r1 hv e (by rw [hv.len]; exact hn) fun F2 H2 v1 r2 f2 v0 a ha => ?_
    have r3 : RE ⟨X.K, G, A⟩ O F2 (upd H2 a (.tup [v0, v1])) (some v1 :: σ) (some c :: ρ') := r2.grow (Ex.new ha) (Le.refl F2) (r2.fh.trans (Ex.new ha)) fun _ _ => rfl
    exact ⟨a, [v0, v1], 1, v1, rfl, rfl, .inl (.inl upd_same), rfl, q F2 _ v1 r3 (f1.trans f2)⟩
  · cases e
end
end Q
end
section
set_option maxHeartbeats 1000000
namespace K81
open PySem PySem.Spec PyProof.Rows L2 Q
noncomputable def g__law_box (C : Addr) : Q.Env → Option Out := sRet (dLst (aCons (oFz (dCall hAbs (aCons (oVar 0) (aNil)))) (aCons (oFz (dOp hGeI (oFz (dCall hAbs (aCons (oVar 0) (aNil)))) (oFz (dOp hPow (oFz (dC (.int 10))) (oFz (dC (.int 18))))))) (aCons (oFz (dOp hMod (oFz (dCall hInt (aCons (oFz (dCall hAbs (aCons (oVar 0) (aNil)))) (aNil)))) (oFz (dC (.int 2147483629))))) (aCons (oFz (dC (.int 0))) (aNil))))))
noncomputable def phi__law_box (C : Addr) : Fn := fnD 1 (g__law_box C)
noncomputable def g__law_cell (C : Addr) : Q.Env → Option Out := sRet (dIf (dTst (dOp hLtI (oVar 1) (oFz (dCall hLen (aCons (oVar 0) (aNil)))))) (dOp hIx (oVar 0) (oVar 1)) (dOp hAdd (oFz (dOp (hOr hMulI hRep) (oFz (dC (.int 10063))) (oVar 1))) (oFz (dOp hMod (oFz (dCall hInt (aCons (oFz (dCall hSum (aCons (oFz (dSl (oVar 0) (nPart) (sPart (oFz (dC (.int 1)))))) (aNil)))) (aNil)))) (oFz (dC (.int 1000003)))))))
noncomputable def phi__law_cell (C : Addr) : Fn := fnD 2 (g__law_cell C)
noncomputable def g__law_take (C : Addr) : Q.Env → Option Out := sSeq (sIf (dAnd (dTst (dOp hIx (oVar 0) (oFz (dC (.int 1))))) (dTst (dOp hGtI (oFz (dOp hIx (oVar 0) (oFz (dC (.int 0))))) (oFz (dC (.int 0)))))) (sSeq (sSet 2 (dOp hMod (oFz (dCall hInt (aCons (oFz (dOp hIx (oVar 0) (oFz (dC (.int 0))))) (aNil)))) (oVar 1))) (sSeq (sAsg (dSetI 0 (oFz (dC (.int 0)))) (dOp hDiv (oFz (dOp hIx (oVar 0) (oFz (dC (.int 0))))) (oVar 1))) (sRet (dMove 2)))) (sPass)) (sSeq (sAsg (dSetI 0 (oFz (dC (.int 3)))) (dOp hAdd (oFz (dOp hIx (oVar 0) (oFz (dC (.int 3))))) (oFz (dC (.int 1))))) (sSeq (sSet 3 (dOp hMod (oFz (dCall hInt (aCons (oFz (dOp hPow (oFz (dOp hAdd (oFz (dOp hAdd (oFz (dOp hIx (oVar 0) (oFz (dC (.int 2))))) (oFz (dOp (hOr hMulI hRep) (oFz (dC (.int 15487181))) (oFz (dOp hIx (oVar 0) (oFz (dC (.int 3))))))))) (oFz (dC (.int 179426165))))) (oFz (dC (.int 5))))) (aNil)))) (oFz (dC (.int 2147483647))))) (sRet (dOp hMod (oFz (dCall hInt (aCons (oFz (dOp hDiv (oFz (dOp hMod (oFz (dCall hInt (aCons (oFz (dOp hPow (oFz (dOp hAdd (oFz (dOp (hOr hMulI hRep) (oVar 3) (oFz (dC (.int 48271))))) (oFz (dOp (hOr hMulI hRep) (oFz (dC (.int 10069))) (oFz (dOp hIx (oVar 0) (oFz (dC (.int 3))))))))) (oFz (dC (.int 3))))) (aNil)))) (oFz (dC (.int 2147483587))))) (oFz (dC (.int 64))))) (aNil)))) (oVar 1)))))
noncomputable def phi__law_take (C : Addr) : Fn := fnD 4 (g__law_take C)
noncomputable def g__law_mixed (C : Addr) : Q.Env → Option Out := sSeq (sPar 2 3 (dCall hList (aCons (oVar 1) (aNil))) (dLst (aNil))) (sSeq (sFor (iRange1 (aCons (oFz (dCall hLen (aCons (oVar 1) (aNil)))) (aNil))) (dName 4) (sDrop (dMth hAppend 3 (aCons (oFz (dMth hPopAt 2 (aCons (oFz (dCal 2 (phi__law_take C) (aCons (oVar 0) (aCons (oFz (dCall hLen (aCons (oVar 2) (aNil)))) (aNil))))) (aNil)))) (aNil))))) (sRet (dMove 3)))
noncomputable def phi__law_mixed (C : Addr) : Fn := fnD 5 (g__law_mixed C)
noncomputable def g__law_every (C : Addr) : Q.Env → Option Out := sSeq (sSet 2 (dLst (aCons (oFz (dTup (aNil))) (aNil)))) (sSeq (sFor (iRange1 (aCons (oVar 1) (aNil))) (dName 3) (sSeq (sSet 4 (dLst (aNil))) (sSeq (sFor (iSeq (oFz (dVar 2))) (dName 5) (sDrop (dMth hExtend 4 (aCons (oFz (dLc (iRange1 (aCons (oVar 0) (aNil))) (dName 6) (tTrue) (dOp hAdd (oVar 5) (oFz (dTup (aCons (oFz (dVar 6)) (aNil))))) [6])) (aNil))))) (sSet 2 (dMove 4))))) (sRet (dMove 2)))
noncomputable def phi__law_every (C : Addr) : Fn := fnD 7 (g__law_every C)
noncomputable def g__law_field (C : Addr) : Q.Env → Option Out := sSeq (sPar 3 4 (dDict false) (dSl (oFz (dCal 2 (phi__law_mixed C) (aCons (oVar 0) (aCons (oFz (dLst (aCons (oFz (dC (.str "a"))) (aCons (oFz (dC (.str "b"))) (aCons (oFz (dC (.str "edge"))) (aCons (oFz (dC (.str "m"))) (aCons (oFz (dC (.str "way"))) (aNil)))))))) (aNil))))) (nPart) (sPart (oVar 2)))) (sSeq (sFor (iSeq (oFz (dVar 4))) (dName 5) (sSeq (sSet 6 (dOp hIx (oFz (dLst (aCons (oFz (dC (.int 1))) (aCons (oFz (dC (.int 2))) (aCons (oFz (dC (.int 2))) (aCons (oFz (dC (.int 3))) (aNil))))))) (oFz (dCal 2 (phi__law_take C) (aCons (oVar 0) (aCons (oFz (dC (.int 4))) (aNil))))))) (sAsg (dSetI 3 (oVar 5)) (dLst (aCons (oFz (dVar 6)) (aCons (oFz (dCall (hOrC hSorted hSortedD) (aCons (oFz (dSl (oFz (dCal 2 (phi__law_mixed C) (aCons (oVar 0) (aCons (oFz (dCal 2 (phi__law_every C) (aCons (oVar 1) (aCons (oVar 6) (aNil))))) (aNil))))) (nPart) (sPart (oFz (dCal 2 (phi__law_take C) (aCons (oVar 0) (aCons (oFz (dC (.int 6))) (aNil)))))))) (aNil)))) (aNil))))))) (sSeq (sIf (dAnd (dTst (dOp hGtI (oVar 2) (oFz (dC (.int 1))))) (dTst (dOp hEq (oFz (dCal 2 (phi__law_take C) (aCons (oVar 0) (aCons (oFz (dC (.int 3))) (aNil))))) (oFz (dC (.int 0)))))) (sAsg (dSetI 3 (oFz (dOp hIx (oVar 4) (oFz (dC (.int 1)))))) (dLst (aCons (oFz (dOp hIx (oFz (dOp hIx (oVar 3) (oFz (dOp hIx (oVar 4) (oFz (dC (.int 0))))))) (oFz (dC (.int 0))))) (aCons (oFz (dCall hList (aCons (oFz (dOp hIx (oFz (dOp hIx (oVar 3) (oFz (dOp hIx (oVar 4) (oFz (dC (.int 0))))))) (oFz (dC (.int 1))))) (aNil)))) (aNil))))) (sPass)) (sRet (dLst (aCons (oFz (dVar 1)) (aCons (oFz (dVar 3)) (aNil)))))))
noncomputable def phi__law_field (C : Addr) : Fn := fnD 7 (g__law_field C)
noncomputable def g_is_integer (C : Addr) : Q.Env → Option Out := sRet (dAndV (dIsi "int" (oVar 0)) (dNotV (dIsi "bool" (oVar 0))))
noncomputable def phi_is_integer (C : Addr) : Fn := fnD 1 (g_is_integer C)
noncomputable def g_is_between (C : Addr) : Q.Env → Option Out := sRet (dAndV (dCal 1 (phi_is_integer C) (aCons (oVar 0) (aNil))) (dChain hLeI hLeI (oVar 1) (oVar 0) (oVar 2)))
noncomputable def phi_is_between (C : Addr) : Fn := fnD 3 (g_is_between C)
noncomputable def g_check_size (C : Addr) : Q.Env → Option Out := sIf (dNot (dTst (dCal 3 (phi_is_between C) (aCons (oVar 0) (aCons (oFz (dC (.int 1))) (aCons (oFz (dC (.int 4))) (aNil))))))) (dNo) (sPass)
noncomputable def phi_check_size (C : Addr) : Fn := fnD 1 (g_check_size C)
noncomputable def g_is_list (C : Addr) : Q.Env → Option Out := sRet (dIsi2 "list" "tuple" (oVar 0))
noncomputable def phi_is_list (C : Addr) : Fn := fnD 1 (g_is_list C)
noncomputable def g_is_tuple_of (C : Addr) : Q.Env → Option Out := sRet (dAndV (dIsi "tuple" (oVar 0)) (dOp hEq (oFz (dCall hLen (aCons (oVar 0) (aNil)))) (oVar 1)))
noncomputable def phi_is_tuple_of (C : Addr) : Fn := fnD 2 (g_is_tuple_of C)
noncomputable def g_are_things (C : Addr) : Q.Env → Option Out := sRet (dAndV (dIsi "tuple" (oVar 1)) (dCall hAll (aCons (oFz (dLc (iSeq (oFz (dVar 1))) (dName 2) (tTrue) (dCal 3 (phi_is_between C) (aCons (oVar 2) (aCons (oFz (dC (.int 0))) (aCons (oFz (dOp hSub (oVar 0) (oFz (dC (.int 1))))) (aNil))))) [2])) (aNil))))
noncomputable def phi_are_things (C : Addr) : Fn := fnD 3 (g_are_things C)
noncomputable def g_is_row_of (C : Addr) : Q.Env → Option Out := sRet (dAndV (dCal 2 (phi_is_tuple_of C) (aCons (oVar 2) (aCons (oVar 1) (aNil)))) (dCal 2 (phi_are_things C) (aCons (oVar 0) (aCons (oFz (dVar 2)) (aNil)))))
noncomputable def phi_is_row_of (C : Addr) : Fn := fnD 3 (g_is_row_of C)
noncomputable def g_is_table (C : Addr) : Q.Env → Option Out := sSeq (sIf (dOr (dNot (dTst (dCal 2 (phi_is_tuple_of C) (aCons (oVar 1) (aCons (oFz (dC (.int 2))) (aNil)))))) (dOr (dNot (dTst (dCal 3 (phi_is_between C) (aCons (oFz (dOp hIx (oVar 1) (oFz (dC (.int 0))))) (aCons (oFz (dC (.int 1))) (aCons (oFz (dC (.int 3))) (aNil))))))) (dNot (dTst (dCal 1 (phi_is_list C) (aCons (oFz (dOp hIx (oVar 1) (oFz (dC (.int 1))))) (aNil))))))) (sRet (dC (.bl false))) (sPass)) (sRet (dCall hAll (aCons (oFz (dLc (iSeq (oFz (dOp hIx (oVar 1) (oFz (dC (.int 1)))))) (dName 2) (tTrue) (dCal 3 (phi_is_row_of C) (aCons (oVar 0) (aCons (oFz (dOp hIx (oVar 1) (oFz (dC (.int 0))))) (aCons (oFz (dVar 2)) (aNil))))) [2])) (aNil))))
noncomputable def phi_is_table (C : Addr) : Fn := fnD 3 (g_is_table C)
noncomputable def g_is_word (C : Addr) : Q.Env → Option Out := sSeq (sIf (dOr (dNot (dTst (dIsi "str" (oVar 0)))) (dNot (dTst (dChain hLeI hLeI (oFz (dC (.int 1))) (oFz (dCall hLen (aCons (oVar 0) (aNil)))) (oFz (dC (.int 12))))))) (sRet (dC (.bl false))) (sPass)) (sRet (dCall hAll (aCons (oFz (dLc (iTxt (oVar 0)) (dName 1) (tTrue) (dOp hIn (oVar 1) (oFz (dC (.str "abcdefghijklmnopqrstuvwxyz")))) [1])) (aNil))))
noncomputable def phi_is_word (C : Addr) : Fn := fnD 2 (g_is_word C)
noncomputable def g_are_tables (C : Addr) : Q.Env → Option Out := sSeq (sIf (dOr (dNot (dTst (dIsi "dict" (oVar 1)))) (dTst (dOp hGtI (oFz (dCall hLen (aCons (oVar 1) (aNil)))) (oFz (dC (.int 5)))))) (sRet (dC (.bl false))) (sPass)) (sRet (dCall hAll (aCons (oFz (dLc (iKeysD (oFz (dVar 1))) (dName 2) (tTrue) (dAndV (dCal 1 (phi_is_word C) (aCons (oVar 2) (aNil))) (dCal 2 (phi_is_table C) (aCons (oVar 0) (aCons (oFz (dOp hIx (oVar 1) (oVar 2))) (aNil))))) [2])) (aNil))))
noncomputable def phi_are_tables (C : Addr) : Fn := fnD 3 (g_are_tables C)
noncomputable def g_every_row (C : Addr) : Q.Env → Option Out := sSeq (sSet 2 (dLst (aCons (oFz (dTup (aNil))) (aNil)))) (sSeq (sFor (iRange1 (aCons (oVar 1) (aNil))) (dName 3) (sSet 2 (dLc2 (iSeq (oFz (dVar 2))) (dName 4) (tTrue) (iRange1 (aCons (oVar 0) (aNil))) (dName 5) (tTrue) (dTup (aStar (oVar 4) (aCons (oFz (dVar 5)) (aNil)))) [4, 5] [5]))) (sRet (dMove 2)))
noncomputable def phi_every_row (C : Addr) : Fn := fnD 6 (g_every_row C)
noncomputable def g_target_where (C : Addr) : Q.Env → Option Out := sSeq (sSet 3 (dCall hDictT (aCons (oFz (dLc (iSeq (oFz (dVar 2))) (dName 4) (tTrue) (dTup (aCons (oFz (dVar 4)) (aCons (oFz (dC (.bl true))) (aNil)))) [4])) (aNil)))) (sRet (dTup (aCons (oFz (dVar 1)) (aCons (oFz (dCall hTuple (aCons (oFz (dLc (iSeq (oFz (dCal 2 (phi_every_row C) (aCons (oVar 0) (aCons (oVar 1) (aNil)))))) (dName 4) (dTst (dOp hIn (oVar 4) (oVar 3))) (dMove 4) [4])) (aNil)))) (aNil)))))
noncomputable def phi_target_where (C : Addr) : Fn := fnD 5 (g_target_where C)
noncomputable def g_BookD_initD (C : Addr) : Q.Env → Option Out := sSeq (sDrop (dCal 1 (phi_check_size C) (aCons (oVar 1) (aNil)))) (sSeq (sIf (dNot (dTst (dCal 2 (phi_are_tables C) (aCons (oVar 1) (aCons (oFz (dVar 2)) (aNil)))))) (dNo) (sPass)) (sSeq (sFldD 0 C "size" (oFz (dVar 1))) (sSeq (sFldD 0 C "names" (oFz (dCall hTuple (aCons (oFz (dCall (hOrC hSorted hSortedD) (aCons (oFz (dCall hList (aCons (oVar 2) (aNil)))) (aNil)))) (aNil))))) (sFldD 0 C "_targets" (oFz (dDc (iSeq (oFz (dFld C "names" (oVar 0)))) (dName 3) (tTrue) (dVar 3) (dCal 3 (phi_target_where C) (aCons (oVar 1) (aCons (oFz (dOp hIx (oFz (dOp hIx (oVar 2) (oVar 3))) (oFz (dC (.int 0))))) (aCons (oFz (dOp hIx (oFz (dOp hIx (oVar 2) (oVar 3))) (oFz (dC (.int 1))))) (aNil))))) [3]))))))
noncomputable def phi_BookD_initD (C : Addr) : Fn := fnD 4 (g_BookD_initD C)
noncomputable def g__law_built (C : Addr) : Q.Env → Option Out := sRet (dMake C 3 (phi_BookD_initD C) (aCons (oFz (dOp hIx (oVar 1) (oFz (dC (.int 0))))) (aCons (oFz (dCall hDictK (aCons (oFz (dLc (iSeq (oFz (dCal 2 (phi__law_mixed C) (aCons (oVar 0) (aCons (oFz (dCall (hOrC hSorted hSortedD) (aCons (oFz (dOp hIx (oVar 1) (oFz (dC (.int 1))))) (aNil)))) (aNil)))))) (dName 2) (tTrue) (dTup (aCons (oFz (dVar 2)) (aCons (oFz (dTup (aCons (oFz (dOp hIx (oFz (dOp hIx (oFz (dOp hIx (oVar 1) (oFz (dC (.int 1))))) (oVar 2))) (oFz (dC (.int 0))))) (aCons (oFz (dCal 2 (phi__law_mixed C) (aCons (oVar 0) (aCons (oFz (dOp hIx (oFz (dOp hIx (oFz (dOp hIx (oVar 1) (oFz (dC (.int 1))))) (oVar 2))) (oFz (dC (.int 1))))) (aNil))))) (aNil))))) (aNil)))) [2])) (aNil)))) (aNil))))
noncomputable def phi__law_built (C : Addr) : Fn := fnD 3 (g__law_built C)
noncomputable def g__law_wishes (C : Addr) : Q.Env → Option Out := sSeq (sPar 4 5 (dCall (hOrC hSorted hSortedD) (aCons (oFz (dOp hIx (oVar 1) (oFz (dC (.int 1))))) (aNil))) (dLst (aNil))) (sSeq (sFor (iRange1 (aCons (oFz (dIf (dTst (dOp hNe (oVar 4) (oFz (dLst (aNil))))) (dMove 3) (dC (.int 0)))) (aNil))) (dName 6) (sSeq (sSet 7 (dOp hIx (oVar 4) (oFz (dCal 2 (phi__law_take C) (aCons (oVar 0) (aCons (oFz (dCall hLen (aCons (oVar 4) (aNil)))) (aNil))))))) (sSeq (sSet 8 (dLc (iRange1 (aCons (oFz (dOp hIx (oFz (dOp hIx (oFz (dOp hIx (oVar 1) (oFz (dC (.int 1))))) (oVar 7))) (oFz (dC (.int 0))))) (aNil))) (dName 9) (tTrue) (dCal 2 (phi__law_take C) (aCons (oVar 0) (aCons (oVar 2) (aNil)))) [9])) (sSeq (sIf (dTst (dOp hEq (oFz (dCal 2 (phi__law_take C) (aCons (oVar 0) (aCons (oFz (dC (.int 4))) (aNil))))) (oFz (dC (.int 0))))) (sSet 8 (dOp (hOr hMulI hRep) (oFz (dSl (oVar 8) (nPart) (sPart (oFz (dC (.int 1)))))) (oFz (dCall hLen (aCons (oVar 8) (aNil)))))) (sPass)) (sDrop (dMth hAppend 5 (aCons (oFz (dTup (aCons (oFz (dC (.str "in"))) (aCons (oFz (dVar 7)) (aCons (oFz (dCall hTuple (aCons (oVar 8) (aNil)))) (aNil)))))) (aNil)))))))) (sRet (dTup (aCons (oFz (dVar 2)) (aCons (oFz (dVar 5)) (aNil))))))
noncomputable def phi__law_wishes (C : Addr) : Fn := fnD 10 (g__law_wishes C)
noncomputable def g_check_book (C : Addr) : Q.Env → Option Out := sIf (dNot (dTst (dIsiC C (oVar 0)))) (dNo) (sPass)
noncomputable def phi_check_book (C : Addr) : Fn := fnD 1 (g_check_book C)
noncomputable def g_Book_target (C : Addr) : Q.Env → Option Out := sSeq (sIf (dOr (dNot (dTst (dIsi "str" (oVar 1)))) (dTst (dOp hNotIn (oVar 1) (oFz (dFld C "_targets" (oVar 0)))))) (dNo) (sPass)) (sRet (dOp hIx (oFz (dFld C "_targets" (oVar 0))) (oVar 1)))
noncomputable def phi_Book_target (C : Addr) : Fn := fnD 2 (g_Book_target C)
noncomputable def g_Book_columns (C : Addr) : Q.Env → Option Out := sRet (dOp hIx (oFz (dMeth C "target" 2 (phi_Book_target C) (oVar 0) (aCons (oVar 1) (aNil)))) (oFz (dC (.int 0))))
noncomputable def phi_Book_columns (C : Addr) : Fn := fnD 2 (g_Book_columns C)
noncomputable def g_is_atom_of (C : Addr) : Q.Env → Option Out := sSeq (sIf (dOr (dNot (dTst (dCal 2 (phi_is_tuple_of C) (aCons (oVar 2) (aCons (oFz (dC (.int 3))) (aNil)))))) (dNot (dTst (dIsi "str" (oFz (dOp hIx (oVar 2) (oFz (dC (.int 0))))))))) (sRet (dC (.bl false))) (sPass)) (sSeq (sIf (dTst (dOp hIn (oFz (dOp hIx (oVar 2) (oFz (dC (.int 0))))) (oFz (dTup (aCons (oFz (dC (.str "in"))) (aCons (oFz (dC (.str "out"))) (aNil))))))) (sSeq (sIf (dOr (dNot (dTst (dIsi "str" (oFz (dOp hIx (oVar 2) (oFz (dC (.int 1)))))))) (dOr (dTst (dOp hNotIn (oFz (dOp hIx (oVar 2) (oFz (dC (.int 1))))) (oFz (dFld C "names" (oVar 0))))) (dNot (dTst (dIsi "tuple" (oFz (dOp hIx (oVar 2) (oFz (dC (.int 2)))))))))) (sRet (dC (.bl false))) (sPass)) (sRet (dAndV (dOp hEq (oFz (dCall hLen (aCons (oFz (dOp hIx (oVar 2) (oFz (dC (.int 2))))) (aNil)))) (oFz (dMeth C "columns" 2 (phi_Book_columns C) (oVar 0) (aCons (oFz (dOp hIx (oVar 2) (oFz (dC (.int 1))))) (aNil))))) (dCall hAll (aCons (oFz (dLc (iSeq (oFz (dOp hIx (oVar 2) (oFz (dC (.int 2)))))) (dName 3) (tTrue) (dCal 3 (phi_is_between C) (aCons (oVar 3) (aCons (oFz (dC (.int 0))) (aCons (oFz (dOp hSub (oVar 1) (oFz (dC (.int 1))))) (aNil))))) [3])) (aNil)))))) (sPass)) (sSeq (sIf (dOr (dTst (dOp hNotIn (oFz (dOp hIx (oVar 2) (oFz (dC (.int 0))))) (oFz (dTup (aCons (oFz (dC (.str "same"))) (aCons (oFz (dC (.str "other"))) (aCons (oFz (dC (.str "is"))) (aNil)))))))) (dNot (dTst (dCal 3 (phi_is_between C) (aCons (oFz (dOp hIx (oVar 2) (oFz (dC (.int 1))))) (aCons (oFz (dC (.int 0))) (aCons (oFz (dOp hSub (oVar 1) (oFz (dC (.int 1))))) (aNil)))))))) (sRet (dC (.bl false))) (sPass)) (sRet (dCal 3 (phi_is_between C) (aCons (oFz (dOp hIx (oVar 2) (oFz (dC (.int 2))))) (aCons (oFz (dC (.int 0))) (aCons (oFz (dOp hSub (oFz (dIf (dTst (dOp hEq (oFz (dOp hIx (oVar 2) (oFz (dC (.int 0))))) (oFz (dC (.str "is"))))) (dFld C "size" (oVar 0)) (dMove 1))) (oFz (dC (.int 1))))) (aNil))))))))
noncomputable def phi_is_atom_of (C : Addr) : Fn := fnD 4 (g_is_atom_of C)
noncomputable def g_is_conjunction (C : Addr) : Q.Env → Option Out := sSeq (sDrop (dCal 1 (phi_check_book C) (aCons (oVar 0) (aNil)))) (sSeq (sIf (dOr (dNot (dTst (dCal 2 (phi_is_tuple_of C) (aCons (oVar 1) (aCons (oFz (dC (.int 2))) (aNil)))))) (dOr (dNot (dTst (dCal 3 (phi_is_between C) (aCons (oFz (dOp hIx (oVar 1) (oFz (dC (.int 0))))) (aCons (oFz (dC (.int 0))) (aCons (oFz (dC (.int 100))) (aNil))))))) (dNot (dTst (dCal 1 (phi_is_list C) (aCons (oFz (dOp hIx (oVar 1) (oFz (dC (.int 1))))) (aNil))))))) (sRet (dC (.bl false))) (sPass)) (sRet (dAndV (dOp hLeI (oFz (dCall hLen (aCons (oFz (dOp hIx (oVar 1) (oFz (dC (.int 1))))) (aNil)))) (oFz (dC (.int 20000)))) (dCall hAll (aCons (oFz (dLc (iSeq (oFz (dOp hIx (oVar 1) (oFz (dC (.int 1)))))) (dName 2) (tTrue) (dCal 3 (phi_is_atom_of C) (aCons (oVar 0) (aCons (oFz (dOp hIx (oVar 1) (oFz (dC (.int 0))))) (aCons (oVar 2) (aNil))))) [2])) (aNil))))))
noncomputable def phi_is_conjunction (C : Addr) : Fn := fnD 3 (g_is_conjunction C)
noncomputable def g_is_wish_list (C : Addr) : Q.Env → Option Out := sSeq (sIf (dOr (dNot (dTst (dCal 2 (phi_is_conjunction C) (aCons (oVar 0) (aCons (oVar 1) (aNil)))))) (dOr (dTst (dOp hGtI (oFz (dOp hIx (oVar 1) (oFz (dC (.int 0))))) (oFz (dC (.int 40))))) (dTst (dOp hGtI (oFz (dCall hLen (aCons (oFz (dOp hIx (oVar 1) (oFz (dC (.int 1))))) (aNil)))) (oFz (dC (.int 60))))))) (sRet (dC (.bl false))) (sPass)) (sRet (dCall hAll (aCons (oFz (dLc (iSeq (oFz (dOp hIx (oVar 1) (oFz (dC (.int 1)))))) (dName 2) (tTrue) (dOp hEq (oFz (dOp hIx (oVar 2) (oFz (dC (.int 0))))) (oFz (dC (.str "in")))) [2])) (aNil))))
noncomputable def phi_is_wish_list (C : Addr) : Fn := fnD 3 (g_is_wish_list C)
noncomputable def g_check_wishes (C : Addr) : Q.Env → Option Out := sSeq (sDrop (dCal 1 (phi_check_book C) (aCons (oVar 0) (aNil)))) (sIf (dNot (dTst (dCal 2 (phi_is_wish_list C) (aCons (oVar 0) (aCons (oVar 1) (aNil)))))) (dNo) (sPass))
noncomputable def phi_check_wishes (C : Addr) : Fn := fnD 2 (g_check_wishes C)
noncomputable def g_Book_rows (C : Addr) : Q.Env → Option Out := sRet (dOp hIx (oFz (dMeth C "target" 2 (phi_Book_target C) (oVar 0) (aCons (oVar 1) (aNil)))) (oFz (dC (.int 1))))
noncomputable def phi_Book_rows (C : Addr) : Fn := fnD 2 (g_Book_rows C)
noncomputable def g_can_have (C : Addr) : Q.Env → Option Out := sRet (dCall hAll (aCons (oFz (dLc (iZipD (aCons (oFz (dOp hIx (oVar 1) (oFz (dC (.int 2))))) (aCons (oFz (dVar 2)) (aNil)))) (dGtup 2 (dGcons (dName 3) (dGcons (dName 4) (dGnil)))) (tTrue) (dOp hIn (oVar 4) (oFz (dOp hIx (oVar 0) (oVar 3)))) [3, 4])) (aNil)))
noncomputable def phi_can_have (C : Addr) : Fn := fnD 5 (g_can_have C)
noncomputable def g_next_strike (C : Addr) : Q.Env → Option Out := sSeq (sFor (iEnm (aCons (oFz (dOp hIx (oVar 1) (oFz (dC (.int 1))))) (aNil))) (dGtup 2 (dGcons (dName 3) (dGcons (dName 4) (dGnil)))) (sSeq (sSet 5 (dLc (iSeq (oFz (dMeth C "rows" 2 (phi_Book_rows C) (oVar 0) (aCons (oFz (dOp hIx (oVar 4) (oFz (dC (.int 1))))) (aNil))))) (dName 10) (dTst (dCal 3 (phi_can_have C) (aCons (oVar 2) (aCons (oVar 4) (aCons (oFz (dVar 10)) (aNil)))))) (dMove 10) [10])) (sFor (iEnm (aCons (oFz (dOp hIx (oVar 4) (oFz (dC (.int 2))))) (aNil))) (dGtup 2 (dGcons (dName 6) (dGcons (dName 7) (dGnil)))) (sSeq (sSet 8 (dLc (iSeq (oFz (dVar 5))) (dName 10) (tTrue) (dOp hIx (oVar 10) (oVar 6)) [10])) (sSeq (sSet 9 (dLc (iSeq (oFz (dOp hIx (oVar 2) (oVar 7)))) (dName 11) (dTst (dOp hNotIn (oVar 11) (oVar 8))) (dMove 11) [11])) (sIf (dTst (dOp hNe (oVar 9) (oFz (dLst (aNil))))) (sRet (dTup (aCons (oFz (dVar 7)) (aCons (oFz (dOp hIx (oVar 9) (oFz (dC (.int 0))))) (aCons (oFz (dVar 3)) (aNil)))))) (sPass))))))) (sRet (dC .non))
noncomputable def phi_next_strike (C : Addr) : Fn := fnD 12 (g_next_strike C)
noncomputable def g_struck_list (C : Addr) : Q.Env → Option Out := sSeq (sNx 2 (sSeq (sPar 2 3 (dLc (iRange1 (aCons (oFz (dOp hIx (oVar 1) (oFz (dC (.int 0))))) (aNil))) (dName 5) (tTrue) (dLr1 (oFz (dFld C "size" (oVar 0)))) [5]) (dLst (aNil))) (sSeq (sSet 4 (dCal 3 (phi_next_strike C) (aCons (oVar 0) (aCons (oVar 1) (aCons (oVar 2) (aNil)))))) (sWhile (dTst (dOp hIsNN (oVar 4) (oFz (dC .non)))) (sSeq (sDrop (dMth hAppend 3 (aCons (oFz (dVar 4)) (aNil)))) (sSeq (sAsg (dSetI 2 (oFz (dOp hIx (oVar 4) (oFz (dC (.int 0)))))) (dLc (iSeq (oFz (dOp hIx (oVar 2) (oFz (dOp hIx (oVar 4) (oFz (dC (.int 0)))))))) (dName 6) (dTst (dOp hNe (oVar 6) (oFz (dOp hIx (oVar 4) (oFz (dC (.int 1))))))) (dMove 6) [6])) (sSet 4 (dCal 3 (phi_next_strike C) (aCons (oVar 0) (aCons (oVar 1) (aCons (oVar 2) (aNil)))))))))))) (sRet (dMove 3))
noncomputable def phi_struck_list (C : Addr) : Fn := fnD 7 (g_struck_list C)
noncomputable def g_strikes (C : Addr) : Q.Env → Option Out := sSeq (sDrop (dCal 2 (phi_check_wishes C) (aCons (oVar 0) (aCons (oVar 1) (aNil))))) (sRet (dCal 2 (phi_struck_list C) (aCons (oVar 0) (aCons (oVar 1) (aNil)))))
noncomputable def phi_strikes (C : Addr) : Fn := fnD 2 (g_strikes C)
noncomputable def g__law_ways (C : Addr) : Q.Env → Option Out := sSeq (sSet 3 (dLst (aNil))) (sSeq (sFor (iEnm (aCons (oFz (dOp hIx (oVar 1) (oFz (dC (.int 1))))) (aNil))) (dGtup 2 (dGcons (dName 4) (dGcons (dGtup 3 (dGcons (dName 5) (dGcons (dName 6) (dGcons (dName 7) (dGnil))))) (dGnil)))) (sSeq (sSet 8 (dLc (iSeq (oFz (dOp hIx (oFz (dOp hIx (oFz (dOp hIx (oVar 0) (oFz (dC (.int 1))))) (oVar 6))) (oFz (dC (.int 1)))))) (dName 10) (dTst (dOp hEq (oFz (dLc (iRange1 (aCons (oFz (dCall hLen (aCons (oVar 10) (aNil)))) (aNil))) (dName 9) (dTst (dOp hNotIn (oFz (dOp hIx (oVar 10) (oVar 9))) (oFz (dOp hIx (oVar 2) (oFz (dOp hIx (oVar 7) (oVar 9))))))) (dMove 9) [9])) (oFz (dLst (aNil))))) (dMove 10) [10])) (sFor (iRange1 (aCons (oFz (dCall hLen (aCons (oVar 7) (aNil)))) (aNil))) (dName 9) (sDrop (dMth hExtend 3 (aCons (oFz (dLc (iSeq (oFz (dOp hIx (oVar 2) (oFz (dOp hIx (oVar 7) (oVar 9)))))) (dName 11) (dTst (dOp hEq (oFz (dLc (iSeq (oFz (dVar 8))) (dName 10) (dTst (dOp hEq (oFz (dOp hIx (oVar 10) (oVar 9))) (oVar 11))) (dMove 10) [10])) (oFz (dLst (aNil))))) (dTup (aCons (oFz (dOp hIx (oVar 7) (oVar 9))) (aCons (oFz (dVar 11)) (aCons (oFz (dVar 4)) (aNil))))) [11])) (aNil))))))) (sRet (dMove 3)))
noncomputable def phi__law_ways (C : Addr) : Fn := fnD 12 (g__law_ways C)
noncomputable def g__law_behind (C : Addr) : Q.Env → Option Out := sSeq (sSet 3 (dLc (iRange1 (aCons (oFz (dOp hIx (oVar 1) (oFz (dC (.int 0))))) (aNil))) (dName 5) (tTrue) (dLr1 (oFz (dOp hIx (oVar 0) (oFz (dC (.int 0)))))) [5])) (sSeq (sIf (dNot (dTst (dIsi2 "list" "tuple" (oVar 2)))) (sRet (dC .non)) (sPass)) (sSeq (sFor (iSeq (oFz (dVar 2))) (dName 4) (sSeq (sIf (dOr (dNot (dTst (dIsi "tuple" (oVar 4)))) (dOr (dTst (dOp hNe (oFz (dCall hLen (aCons (oVar 4) (aNil)))) (oFz (dC (.int 3))))) (dOr (dTst (dOp hNe (oFz (dLc (iSeq (oFz (dVar 4))) (dName 5) (dOr (dNot (dTst (dIsi "int" (oVar 5)))) (dTst (dIsi "bool" (oVar 5)))) (dMove 5) [5])) (oFz (dLst (aNil))))) (dTst (dOp hNotIn (oVar 4) (oFz (dCal 3 (phi__law_ways C) (aCons (oVar 0) (aCons (oVar 1) (aCons (oVar 3) (aNil))))))))))) (sRet (dC .non)) (sPass)) (sAsg (dSetI 3 (oFz (dOp hIx (oVar 4) (oFz (dC (.int 0)))))) (dLc (iSeq (oFz (dOp hIx (oVar 3) (oFz (dOp hIx (oVar 4) (oFz (dC (.int 0)))))))) (dName 6) (dTst (dOp hNe (oVar 6) (oFz (dOp hIx (oVar 4) (oFz (dC (.int 1))))))) (dMove 6) [6])))) (sRet (dMove 3))))
noncomputable def phi__law_behind (C : Addr) : Fn := fnD 7 (g__law_behind C)
noncomputable def g__law_all_struck (C : Addr) : Q.Env → Option Out := sSeq (sPar 3 4 (dLc (iRange1 (aCons (oFz (dOp hIx (oVar 2) (oFz (dC (.int 0))))) (aNil))) (dName 8) (tTrue) (dLr1 (oFz (dOp hIx (oVar 1) (oFz (dC (.int 0)))))) [8]) (dLst (aNil))) (sSeq (sFor (iRange1 (aCons (oFz (dOp hAdd (oFz (dOp (hOr hMulI hRep) (oFz (dOp hIx (oVar 1) (oFz (dC (.int 0))))) (oFz (dOp hIx (oVar 2) (oFz (dC (.int 0))))))) (oFz (dC (.int 1))))) (aNil))) (dName 5) (sSeq (sSet 6 (dCal 3 (phi__law_ways C) (aCons (oVar 1) (aCons (oVar 2) (aCons (oVar 3) (aNil)))))) (sSeq (sIf (dTst (dOp hEq (oVar 6) (oFz (dLst (aNil))))) (sBreak) (sPass)) (sSeq (sSet 7 (dOp hIx (oVar 6) (oFz (dCal 2 (phi__law_take C) (aCons (oVar 0) (aCons (oFz (dCall hLen (aCons (oVar 6) (aNil)))) (aNil))))))) (sSeq (sDrop (dMth hAppend 4 (aCons (oFz (dVar 7)) (aNil)))) (sAsg (dSetI 3 (oFz (dOp hIx (oVar 7) (oFz (dC (.int 0)))))) (dLc (iSeq (oFz (dOp hIx (oVar 3) (oFz (dOp hIx (oVar 7) (oFz (dC (.int 0)))))))) (dName 9) (dTst (dOp hNe (oVar 9) (oFz (dOp hIx (oVar 7) (oFz (dC (.int 1))))))) (dMove 9) [9]))))))) (sRet (dTup (aCons (oFz (dVar 4)) (aCons (oFz (dVar 3)) (aNil))))))
noncomputable def phi__law_all_struck (C : Addr) : Fn := fnD 10 (g__law_all_struck C)
noncomputable def g_is_strike (C : Addr) : Q.Env → Option Out := sSeq (sIf (dOr (dNot (dTst (dCal 2 (phi_is_tuple_of C) (aCons (oVar 3) (aCons (oFz (dC (.int 3))) (aNil)))))) (dNot (dTst (dCal 3 (phi_is_between C) (aCons (oFz (dOp hIx (oVar 3) (oFz (dC (.int 0))))) (aCons (oFz (dC (.int 0))) (aCons (oFz (dOp hSub (oFz (dOp hIx (oVar 1) (oFz (dC (.int 0))))) (oFz (dC (.int 1))))) (aNil)))))))) (sRet (dC (.bl false))) (sPass)) (sSeq (sIf (dOr (dNot (dTst (dCal 3 (phi_is_between C) (aCons (oFz (dOp hIx (oVar 3) (oFz (dC (.int 1))))) (aCons (oFz (dC (.int 0))) (aCons (oFz (dOp hSub (oFz (dFld C "size" (oVar 0))) (oFz (dC (.int 1))))) (aNil))))))) (dNot (dTst (dCal 3 (phi_is_between C) (aCons (oFz (dOp hIx (oVar 3) (oFz (dC (.int 2))))) (aCons (oFz (dC (.int 0))) (aCons (oFz (dOp hSub (oFz (dCall hLen (aCons (oFz (dOp hIx (oVar 1) (oFz (dC (.int 1))))) (aNil)))) (oFz (dC (.int 1))))) (aNil)))))))) (sRet (dC (.bl false))) (sPass)) (sSeq (sAsg (dGtup 3 (dGcons (dName 4) (dGcons (dName 5) (dGcons (dName 6) (dGnil))))) (dMove 3)) (sSeq (sSet 7 (dOp hIx (oFz (dOp hIx (oVar 1) (oFz (dC (.int 1))))) (oVar 6))) (sSeq (sIf (dOr (dTst (dOp hNotIn (oVar 4) (oFz (dOp hIx (oVar 7) (oFz (dC (.int 2))))))) (dTst (dOp hNotIn (oVar 5) (oFz (dOp hIx (oVar 2) (oVar 4)))))) (sRet (dC (.bl false))) (sPass)) (sSeq (sSet 8 (dLc (iSeq (oFz (dMeth C "rows" 2 (phi_Book_rows C) (oVar 0) (aCons (oFz (dOp hIx (oVar 7) (oFz (dC (.int 1))))) (aNil))))) (dName 10) (dTst (dCal 3 (phi_can_have C) (aCons (oVar 2) (aCons (oVar 7) (aCons (oFz (dVar 10)) (aNil)))))) (dMove 10) [10])) (sSeq (sSet 9 (dLc (iEnm (aCons (oFz (dOp hIx (oVar 7) (oFz (dC (.int 2))))) (aNil))) (dGtup 2 (dGcons (dName 11) (dGcons (dName 12) (dGnil)))) (dTst (dOp hEq (oVar 12) (oVar 4))) (dMove 11) [11, 12])) (sRet (dCall hAny (aCons (oFz (dLc (iSeq (oFz (dVar 9))) (dName 11) (tTrue) (dOp hNotIn (oVar 5) (oFz (dLc (iSeq (oFz (dVar 8))) (dName 10) (tTrue) (dOp hIx (oVar 10) (oVar 11)) [10]))) [11])) (aNil))))))))))
noncomputable def phi_is_strike (C : Addr) : Fn := fnD 13 (g_is_strike C)
noncomputable def g_is_strikes (C : Addr) : Q.Env → Option Out := sSeq (sDrop (dCal 2 (phi_check_wishes C) (aCons (oVar 0) (aCons (oVar 1) (aNil))))) (sSeq (sIf (dNot (dTst (dCal 1 (phi_is_list C) (aCons (oVar 2) (aNil))))) (sRet (dC (.bl false))) (sPass)) (sSeq (sSet 3 (dLc (iRange1 (aCons (oFz (dOp hIx (oVar 1) (oFz (dC (.int 0))))) (aNil))) (dName 5) (tTrue) (dLr1 (oFz (dFld C "size" (oVar 0)))) [5])) (sSeq (sFor (iSeq (oFz (dVar 2))) (dName 4) (sSeq (sIf (dNot (dTst (dCal 4 (phi_is_strike C) (aCons (oVar 0) (aCons (oVar 1) (aCons (oVar 3) (aCons (oVar 4) (aNil)))))))) (sRet (dC (.bl false))) (sPass)) (sAsg (dSetI 3 (oFz (dOp hIx (oVar 4) (oFz (dC (.int 0)))))) (dLc (iSeq (oFz (dOp hIx (oVar 3) (oFz (dOp hIx (oVar 4) (oFz (dC (.int 0)))))))) (dName 6) (dTst (dOp hNe (oVar 6) (oFz (dOp hIx (oVar 4) (oFz (dC (.int 1))))))) (dMove 6) [6])))) (sRet (dC (.bl true))))))
noncomputable def phi_is_strikes (C : Addr) : Fn := fnD 7 (g_is_strikes C)
noncomputable def g__law_same (C : Addr) (r : Fn) : Q.Env → Option Out := sSeq (sIf (dOr (dTst (dOp hIsN (oVar 1) (oFz (dC .non)))) (dTst (dIsi "bool" (oVar 1)))) (sRet (dIf (dTst (dOp hIsN (oVar 1) (oFz (dC .non)))) (dOp hIsN (oVar 0) (oFz (dC .non))) (dAndV (dIsi "bool" (oVar 0)) (dOp hEq (oFz (dOp hIsB (oVar 0) (oFz (dC (.bl true))))) (oFz (dOp hIsB (oVar 1) (oFz (dC (.bl true))))))))) (sPass)) (sSeq (sIf (dTst (dIsi "int" (oVar 1))) (sRet (dAndV (dIsi "int" (oVar 0)) (dAndV (dNotV (dIsi "bool" (oVar 0))) (dOp hEq (oFz (dOp hSub (oFz (dCall hInt (aCons (oVar 0) (aNil)))) (oVar 1))) (oFz (dC (.int 0))))))) (sPass)) (sSeq (sIf (dTst (dIsi "str" (oVar 1))) (dNo) (sPass)) (sSeq (sIf (dTst (dIsi "dict" (oVar 1))) (dNo) (sPass)) (sSeq (sIf (dOr (dNot (dTst (dIsi2 "list" "tuple" (oVar 1)))) (dOr (dTst (dOp hNe (oFz (dIsi "list" (oVar 0))) (oFz (dIsi "list" (oVar 1))))) (dTst (dOp hNe (oFz (dIsi "tuple" (oVar 0))) (oFz (dIsi "tuple" (oVar 1))))))) (sRet (dC (.bl false))) (sPass)) (sRet (dAndV (dOp hEq (oFz (dCall hLen (aCons (oVar 0) (aNil)))) (oFz (dCall hLen (aCons (oVar 1) (aNil))))) (dOp hEq (oFz (dLc (iRange1 (aCons (oFz (dCall hLen (aCons (oVar 1) (aNil)))) (aNil))) (dName 2) (dNot (dTst (dCal 2 r (aCons (oFz (dOp hIx (oVar 0) (oVar 2))) (aCons (oFz (dOp hIx (oVar 1) (oVar 2))) (aNil)))))) (dMove 2) [2])) (oFz (dLst (aNil))))))))))
noncomputable def phi__law_same (C : Addr) : Nat → Fn
  | 0 => fun _ => none
  | n + 1 => fnD 3 (g__law_same C (phi__law_same C n))
noncomputable def g_law (C : Addr) : Q.Env → Option Out := sSeq (sFor (iRange1 (aCons (oFz (dCall hMax2 (aCons (oFz (dC (.int 2))) (aCons (oFz (dCall hMin2 (aCons (oFz (dC (.int 3))) (aCons (oFz (dCall hLen (aCons (oVar 0) (aNil)))) (aNil))))) (aNil))))) (aNil))) (dName 1) (sSeq (sSet 2 (dCal 1 (phi__law_box C) (aCons (oFz (dCal 2 (phi__law_cell C) (aCons (oVar 0) (aCons (oVar 1) (aNil))))) (aNil)))) (sSeq (sSet 3 (dOp hEq (oFz (dCal 2 (phi__law_take C) (aCons (oVar 2) (aCons (oFz (dC (.int 2))) (aNil))))) (oFz (dC (.int 0))))) (sFor (iRange1 (aCons (oFz (dC (.int 3))) (aNil))) (dName 4) (sSeq (sSeq (sSet 5 (dCal 3 (phi__law_field C) (aCons (oVar 2) (aCons (oFz (dOp hAdd (oFz (dC (.int 1))) (oFz (dCal 2 (phi__law_take C) (aCons (oVar 2) (aCons (oFz (dC (.int 4))) (aNil))))))) (aCons (oFz (dOp hAdd (oFz (dC (.int 1))) (oFz (dCal 2 (phi__law_take C) (aCons (oVar 2) (aCons (oFz (dC (.int 5))) (aNil))))))) (aNil)))))) (sSeq (sSet 6 (dOp hAdd (oFz (dC (.int 1))) (oFz (dCal 2 (phi__law_take C) (aCons (oVar 2) (aCons (oFz (dC (.int 6))) (aNil))))))) (sSeq (sPar 7 8 (dFz (dCal 2 (phi__law_built C) (aCons (oVar 2) (aCons (oVar 5) (aNil))))) (dFz (dCal 4 (phi__law_wishes C) (aCons (oVar 2) (aCons (oVar 5) (aCons (oFz (dVar 6)) (aCons (oFz (dOp hAdd (oFz (dC (.int 1))) (oFz (dCal 2 (phi__law_take C) (aCons (oVar 2) (aCons (oFz (dC (.int 10))) (aNil))))))) (aNil)))))))) (sSet 9 (dIf (dTst (dVar 3)) (dCal 2 (phi_strikes C) (aCons (oVar 7) (aCons (oVar 8) (aNil)))) (dCallK 2 (phi_strikes C) 2 [1, 0] (aCons (oFz (dTup (aCons (oFz (dVar 6)) (aCons (oFz (dCall hTuple (aCons (oFz (dOp hIx (oVar 8) (oFz (dC (.int 1))))) (aNil)))) (aNil))))) (aCons (oVar 7) (aNil))))))))) (sSeq (sLend 9 (sSeq (sSet 10 (dCal 3 (phi__law_behind C) (aCons (oVar 5) (aCons (oVar 8) (aCons (oFz (dVar 9)) (aNil)))))) (sSeq (sIf (dOr (dNot (dTst (dIsi "list" (oVar 9)))) (dOr (dTst (dOp hIsN (oVar 10) (oFz (dC .non)))) (dTst (dOp hNe (oFz (dCal 3 (phi__law_ways C) (aCons (oVar 5) (aCons (oVar 8) (aCons (oVar 10) (aNil)))))) (oFz (dLst (aNil))))))) (sRet (dC (.bl false))) (sPass)) (sSeq (sSet 11 (dLst (aCons (oFz (dVar 9)) (aCons (oFz (dCall hTuple (aCons (oVar 9) (aNil)))) (aCons (oFz (dRev (oVar 9))) (aCons (oFz (dSl (oVar 9) (sPart (oFz (dC (.int 1)))) (nPart))) (aCons (oFz (dOp hAdd (oVar 9) (oFz (dSl (oVar 9) (nPart) (sPart (oFz (dC (.int 1)))))))) (aCons (oFz (dLc (iSeq (oFz (dVar 9))) (dName 21) (tTrue) (dCall hList (aCons (oVar 21) (aNil))) [21])) (aCons (oFz (dC .non)) (aCons (oFz (dC (.int 5))) (aCons (oFz (dTup (aNil))) (aCons (oFz (dLst (aCons (oFz (dTup (aNil))) (aNil)))) (aCons (oFz (dLst (aCons (oFz (dTup (aCons (oFz (dC (.int 0))) (aCons (oFz (dC (.int 0))) (aNil))))) (aNil)))) (aNil)))))))))))))) (sSeq (sSet 11 (dOp hAdd (oVar 11) (oFz (dLst (aCons (oFz (dLst (aCons (oFz (dTup (aCons (oFz (dC (.bl true))) (aCons (oFz (dC (.int 0))) (aCons (oFz (dC (.int 0))) (aNil)))))) (aNil)))) (aCons (oFz (dLst (aCons (oFz (dTup (aCons (oFz (dVar 6)) (aCons (oFz (dC (.int 0))) (aCons (oFz (dC (.int 0))) (aNil)))))) (aNil)))) (aCons (oFz (dLst (aCons (oFz (dTup (aCons (oFz (dC (.int 0))) (aCons (oFz (dOp hIx (oVar 5) (oFz (dC (.int 0))))) (aCons (oFz (dC (.int 0))) (aNil)))))) (aNil)))) (aCons (oFz (dLst (aCons (oFz (dTup (aCons (oFz (dC (.int 0))) (aCons (oFz (dC (.int 0))) (aCons (oFz (dCall hLen (aCons (oFz (dOp hIx (oVar 8) (oFz (dC (.int 1))))) (aNil)))) (aNil)))))) (aNil)))) (aNil))))))))) (sSeq (sFor (iRange1 (aCons (oFz (dC (.int 4))) (aNil))) (dName 12) (sSeq (sSet 13 (dOp hIx (oFz (dCal 3 (phi__law_all_struck C) (aCons (oVar 2) (aCons (oVar 5) (aCons (oVar 8) (aNil)))))) (oFz (dC (.int 0))))) (sSeq (sSet 14 (dSl (oVar 13) (nPart) (sPart (oFz (dCal 2 (phi__law_take C) (aCons (oVar 2) (aCons (oFz (dOp hAdd (oFz (dCall hLen (aCons (oVar 13) (aNil)))) (oFz (dC (.int 1))))) (aNil)))))))) (sSeq (sSet 15 (dTup (aCons (oFz (dCal 2 (phi__law_take C) (aCons (oVar 2) (aCons (oVar 6) (aNil))))) (aCons (oFz (dCal 2 (phi__law_take C) (aCons (oVar 2) (aCons (oFz (dOp hIx (oVar 5) (oFz (dC (.int 0))))) (aNil))))) (aCons (oFz (dCal 2 (phi__law_take C) (aCons (oVar 2) (aCons (oFz (dCall hLen (aCons (oFz (dOp hIx (oVar 8) (oFz (dC (.int 1))))) (aNil)))) (aNil))))) (aNil)))))) (sSeq (sDrop (dMth hExtend 11 (aCons (oFz (dLst (aCons (oFz (dVar 13)) (aCons (oFz (dVar 14)) (aCons (oFz (dOp hAdd (oVar 14) (oFz (dLst (aCons (oFz (dVar 15)) (aNil)))))) (aCons (oFz (dOp hAdd (oFz (dLst (aCons (oFz (dVar 15)) (aNil)))) (oVar 13))) (aCons (oFz (dOp hAdd (oFz (dSl (oVar 13) (sPart (oFz (dC (.int 1)))) (nPart))) (oFz (dSl (oVar 13) (nPart) (sPart (oFz (dC (.int 1)))))))) (aNil)))))))) (aNil)))) (sIf (dTst (dOp hNe (oVar 13) (oFz (dLst (aNil))))) (sSeq (sSet 16 (dCal 2 (phi__law_take C) (aCons (oVar 2) (aCons (oFz (dCall hLen (aCons (oVar 13) (aNil)))) (aNil))))) (sSeq (sDrop (dMth hAppend 11 (aCons (oFz (dOp hAdd (oFz (dOp hAdd (oFz (dSl (oVar 13) (nPart) (sPart (oVar 16)))) (oFz (dLst (aCons (oFz (dOp hAdd (oFz (dSl (oFz (dOp hIx (oVar 13) (oVar 16))) (nPart) (sPart (oFz (dC (.int 2)))))) (oFz (dTup (aCons (oFz (dOp hMod (oFz (dCall hInt (aCons (oFz (dOp hAdd (oFz (dOp hIx (oFz (dOp hIx (oVar 13) (oVar 16))) (oFz (dC (.int 2))))) (oFz (dC (.int 1))))) (aNil)))) (oFz (dCall hLen (aCons (oFz (dOp hIx (oVar 8) (oFz (dC (.int 1))))) (aNil)))))) (aNil)))))) (aNil)))))) (oFz (dSl (oVar 13) (sPart (oFz (dOp hAdd (oVar 16) (oFz (dC (.int 1)))))) (nPart))))) (aNil)))) (sDrop (dMth hAppend 11 (aCons (oFz (dOp hAdd (oFz (dOp hAdd (oFz (dSl (oVar 13) (nPart) (sPart (oVar 16)))) (oFz (dLst (aCons (oFz (dOp hAdd (oFz (dTup (aCons (oFz (dOp hMod (oFz (dCall hInt (aCons (oFz (dOp hAdd (oFz (dOp hIx (oFz (dOp hIx (oVar 13) (oVar 16))) (oFz (dC (.int 0))))) (oFz (dC (.int 1))))) (aNil)))) (oVar 6))) (aNil)))) (oFz (dSl (oFz (dOp hIx (oVar 13) (oVar 16))) (sPart (oFz (dC (.int 1)))) (nPart))))) (aNil)))))) (oFz (dSl (oVar 13) (sPart (oFz (dOp hAdd (oVar 16) (oFz (dC (.int 1)))))) (nPart))))) (aNil)))))) (sPass))))))) (sFor (iSeq (oFz (dVar 11))) (dName 17) (sSeq (sSet 18 (dOp hIsNN (oFz (dCal 3 (phi__law_behind C) (aCons (oVar 5) (aCons (oVar 8) (aCons (oFz (dVar 17)) (aNil)))))) (oFz (dC .non)))) (sSeq (sSet 19 (dIf (dTst (dIsi "list" (oVar 17))) (dCall hList (aCons (oVar 17) (aNil))) (dMove 17))) (sSeq (sSet 20 (dIf (dTst (dVar 3)) (dCal 3 (phi_is_strikes C) (aCons (oVar 7) (aCons (oVar 8) (aCons (oFz (dVar 19)) (aNil))))) (dCallK 3 (phi_is_strikes C) 3 [2, 1, 0] (aCons (oFz (dVar 19)) (aCons (oVar 8) (aCons (oVar 7) (aNil))))))) (sSeq (sIf (dNot (dTst (dCal 2 (phi__law_same C 3) (aCons (oVar 20) (aCons (oVar 18) (aNil)))))) (sRet (dC (.bl false))) (sPass)) (sSet 3 (dNotV (dVar 3)))))))))))))) (sSeq (sDrop (dMth hAppend 9 (aCons (oFz (dC (.str "more"))) (aNil)))) (sIf (dNot (dTst (dCal 2 (phi__law_same C 3) (aCons (oFz (dCal 2 (phi_strikes C) (aCons (oVar 7) (aCons (oVar 8) (aNil))))) (aCons (oFz (dSl (oVar 9) (nPart) (sPart (oFz (dNeg (oFz (dC (.int 1)))))))) (aNil)))))) (sRet (dC (.bl false))) (sPass))))))))) (sRet (dC (.bl true)))
noncomputable def phi_law (C : Addr) : Fn := fnD 22 (g_law C)
end K81
end
section
set_option maxHeartbeats 4000000
namespace K81
open PySem PySem.Spec PyProof.Rows L2 Q
structure Fc (P : Program) (w : World) (K : PySem.W.Frag) (mg : Str → Option Value) (base : Heap) (C : Addr) : Prop where
  b_isinstance : mg "isinstance" = none
  b_int : mg "int" = none
  b_bool : mg "bool" = none
  b_list : mg "list" = none
  b_tuple : mg "tuple" = none
  b_len : mg "len" = none
  b_all : mg "all" = none
  b_str : mg "str" = none
  b_range : mg "range" = none
  b_dict : mg "dict" = none
  b_sorted : mg "sorted" = none
  b_zip : mg "zip" = none
  b_enumerate : mg "enumerate" = none
  b_any : mg "any" = none
  b_sum : mg "sum" = none
  b_abs : mg "abs" = none
  b_max : mg "max" = none
  b_min : mg "min" = none
  k_LETTERS : ∃ t, mg "LETTERS" = some (.str "abcdefghijklmnopqrstuvwxyz" t)
  k_MOST_LETTERS : ∃ t, mg "MOST_LETTERS" = some (.int 12 t)
  k_MOST_SIZE : ∃ t, mg "MOST_SIZE" = some (.int 4 t)
  k_MOST_TABLES : ∃ t, mg "MOST_TABLES" = some (.int 5 t)
  k_MOST_COLUMNS : ∃ t, mg "MOST_COLUMNS" = some (.int 3 t)
  k_MOST_VARIABLES_queries : ∃ t, mg "MOST_VARIABLES_queries" = some (.int 100 t)
  k_MOST_ATOMS_queries : ∃ t, mg "MOST_ATOMS_queries" = some (.int 20000 t)
  k_MOST_VARIABLES_wishes : ∃ t, mg "MOST_VARIABLES_wishes" = some (.int 40 t)
  k_MOST_ATOMS_wishes : ∃ t, mg "MOST_ATOMS_wishes" = some (.int 60 t)
  cls : Cls K C
  insC : C8.InsC K C
  g_Book : mg "Book" = some (.ref C)
  noat_size : NoAttr K C "size"
  noat_names : NoAttr K C "names"
  noat__targets : NoAttr K C "_targets"
  f__law_box : ∃ f fd, FunD K "_law_box" "_law_box" (defArgs s_law_box) (defBody s_law_box) (defScope s_law_box) [] [] f fd ∧ mg "_law_box" = some (.ref f)
  f__law_cell : ∃ f fd, FunD K "_law_cell" "_law_cell" (defArgs s_law_cell) (defBody s_law_cell) (defScope s_law_cell) [] [] f fd ∧ mg "_law_cell" = some (.ref f)
  f__law_take : ∃ f fd, FunD K "_law_take" "_law_take" (defArgs s_law_take) (defBody s_law_take) (defScope s_law_take) [] [] f fd ∧ mg "_law_take" = some (.ref f)
  f__law_mixed : ∃ f fd, FunD K "_law_mixed" "_law_mixed" (defArgs s_law_mixed) (defBody s_law_mixed) (defScope s_law_mixed) [] [] f fd ∧ mg "_law_mixed" = some (.ref f)
  f__law_every : ∃ f fd, FunD K "_law_every" "_law_every" (defArgs s_law_every) (defBody s_law_every) (defScope s_law_every) [] [] f fd ∧ mg "_law_every" = some (.ref f)
  f__law_field : ∃ f fd, FunD K "_law_field" "_law_field" (defArgs s_law_field) (defBody s_law_field) (defScope s_law_field) [] [] f fd ∧ mg "_law_field" = some (.ref f)
  f_is_integer : ∃ f fd, FunD K "is_integer" "is_integer" (defArgs sis_integer) (defBody sis_integer) (defScope sis_integer) [] [] f fd ∧ mg "is_integer" = some (.ref f)
  f_is_between : ∃ f fd, FunD K "is_between" "is_between" (defArgs sis_between) (defBody sis_between) (defScope sis_between) [] [] f fd ∧ mg "is_between" = some (.ref f)
  f_check_size : ∃ f fd, FunD K "check_size" "check_size" (defArgs scheck_size) (defBody scheck_size) (defScope scheck_size) [] [] f fd ∧ mg "check_size" = some (.ref f)
  f_is_list : ∃ f fd, FunD K "is_list" "is_list" (defArgs sis_list) (defBody sis_list) (defScope sis_list) [] [] f fd ∧ mg "is_list" = some (.ref f)
  f_is_tuple_of : ∃ f fd, FunD K "is_tuple_of" "is_tuple_of" (defArgs sis_tuple_of) (defBody sis_tuple_of) (defScope sis_tuple_of) [] [] f fd ∧ mg "is_tuple_of" = some (.ref f)
  f_are_things : ∃ f fd, FunD K "are_things" "are_things" (defArgs sare_things) (defBody sare_things) (defScope sare_things) [] [] f fd ∧ mg "are_things" = some (.ref f)
  f_is_row_of : ∃ f fd, FunD K "is_row_of" "is_row_of" (defArgs sis_row_of) (defBody sis_row_of) (defScope sis_row_of) [] [] f fd ∧ mg "is_row_of" = some (.ref f)
  f_is_table : ∃ f fd, FunD K "is_table" "is_table" (defArgs sis_table) (defBody sis_table) (defScope sis_table) [] [] f fd ∧ mg "is_table" = some (.ref f)
  f_is_word : ∃ f fd, FunD K "is_word" "is_word" (defArgs sis_word) (defBody sis_word) (defScope sis_word) [] [] f fd ∧ mg "is_word" = some (.ref f)
  f_are_tables : ∃ f fd, FunD K "are_tables" "are_tables" (defArgs sare_tables) (defBody sare_tables) (defScope sare_tables) [] [] f fd ∧ mg "are_tables" = some (.ref f)
  f_every_row : ∃ f fd, FunD K "every_row" "every_row" (defArgs severy_row) (defBody severy_row) (defScope severy_row) [] [] f fd ∧ mg "every_row" = some (.ref f)
  f_target_where : ∃ f fd, FunD K "target_where" "target_where" (defArgs starget_where) (defBody starget_where) (defScope starget_where) [] [] f fd ∧ mg "target_where" = some (.ref f)
  f_BookD_initD : ∃ f fd, FunD K "__init__" "Book.__init__" (defArgs sBookD_initD) (defBody sBookD_initD) (defScope sBookD_initD) [] [] f fd ∧ Mk K C f
  f__law_built : ∃ f fd, FunD K "_law_built" "_law_built" (defArgs s_law_built) (defBody s_law_built) (defScope s_law_built) [] [] f fd ∧ mg "_law_built" = some (.ref f)
  f__law_wishes : ∃ f fd, FunD K "_law_wishes" "_law_wishes" (defArgs s_law_wishes) (defBody s_law_wishes) (defScope s_law_wishes) [] [] f fd ∧ mg "_law_wishes" = some (.ref f)
  f_check_book : ∃ f fd, FunD K "check_book" "check_book" (defArgs scheck_book) (defBody scheck_book) (defScope scheck_book) [] [] f fd ∧ mg "check_book" = some (.ref f)
  f_Book_target : ∃ f fd, FunD K "target" "Book.target" (defArgs sBook_target) (defBody sBook_target) (defScope sBook_target) [] [] f fd ∧ Meth K C "target" f
  f_Book_columns : ∃ f fd, FunD K "columns" "Book.columns" (defArgs sBook_columns) (defBody sBook_columns) (defScope sBook_columns) [] [] f fd ∧ Meth K C "columns" f
  f_is_atom_of : ∃ f fd, FunD K "is_atom_of" "is_atom_of" (defArgs sis_atom_of) (defBody sis_atom_of) (defScope sis_atom_of) [] [] f fd ∧ mg "is_atom_of" = some (.ref f)
  f_is_conjunction : ∃ f fd, FunD K "is_conjunction" "is_conjunction" (defArgs sis_conjunction) (defBody sis_conjunction) (defScope sis_conjunction) [] [] f fd ∧ mg "is_conjunction" = some (.ref f)
  f_is_wish_list : ∃ f fd, FunD K "is_wish_list" "is_wish_list" (defArgs sis_wish_list) (defBody sis_wish_list) (defScope sis_wish_list) [] [] f fd ∧ mg "is_wish_list" = some (.ref f)
  f_check_wishes : ∃ f fd, FunD K "check_wishes" "check_wishes" (defArgs scheck_wishes) (defBody scheck_wishes) (defScope scheck_wishes) [] [] f fd ∧ mg "check_wishes" = some (.ref f)
  f_Book_rows : ∃ f fd, FunD K "rows" "Book.rows" (defArgs sBook_rows) (defBody sBook_rows) (defScope sBook_rows) [] [] f fd ∧ Meth K C "rows" f
  f_can_have : ∃ f fd, FunD K "can_have" "can_have" (defArgs scan_have) (defBody scan_have) (defScope scan_have) [] [] f fd ∧ mg "can_have" = some (.ref f)
  f_next_strike : ∃ f fd, FunD K "next_strike" "next_strike" (defArgs snext_strike) (defBody snext_strike) (defScope snext_strike) [] [] f fd ∧ mg "next_strike" = some (.ref f)
  f_struck_list : ∃ f fd, FunD K "struck_list" "struck_list" (defArgs sstruck_list) (defBody sstruck_list) (defScope sstruck_list) [] [] f fd ∧ mg "struck_list" = some (.ref f)
  f_strikes : ∃ f fd, FunD K "strikes" "strikes" (defArgs sstrikes) (defBody sstrikes) (defScope sstrikes) [] [] f fd ∧ mg "strikes" = some (.ref f)
  f__law_ways : ∃ f fd, FunD K "_law_ways" "_law_ways" (defArgs s_law_ways) (defBody s_law_ways) (defScope s_law_ways) [] [] f fd ∧ mg "_law_ways" = some (.ref f)
  f__law_behind : ∃ f fd, FunD K "_law_behind" "_law_behind" (defArgs s_law_behind) (defBody s_law_behind) (defScope s_law_behind) [] [] f fd ∧ mg "_law_behind" = some (.ref f)
  f__law_all_struck : ∃ f fd, FunD K "_law_all_struck" "_law_all_struck" (defArgs s_law_all_struck) (defBody s_law_all_struck) (defScope s_law_all_struck) [] [] f fd ∧ mg "_law_all_struck" = some (.ref f)
  f_is_strike : ∃ f fd, FunD K "is_strike" "is_strike" (defArgs sis_strike) (defBody sis_strike) (defScope sis_strike) [] [] f fd ∧ mg "is_strike" = some (.ref f)
  f_is_strikes : ∃ f fd, FunD K "is_strikes" "is_strikes" (defArgs sis_strikes) (defBody sis_strikes) (defScope sis_strikes) [] [] f fd ∧ mg "is_strikes" = some (.ref f)
  f__law_same : ∃ f fd, FunD K "_law_same" "_law_same" (defArgs s_law_same) (defBody s_law_same) (defScope s_law_same) [] [] f fd ∧ mg "_law_same" = some (.ref f)
  f_law : ∃ f fd, FunD K "law" "law" (defArgs slaw) (defBody slaw) (defScope slaw) [] [] f fd ∧ mg "law" = some (.ref f)
section
variable {P : Program} {w : World} {K : PySem.W.Frag} {mg : Str → Option Value} {base : Heap} {C : Addr}
theorem fo__law_box (fc : Fc P w K mg base C) : ∃ f fd, FnOk P w K mg base CX0 1 f fd ["great"] (spF K 1 (phi__law_box C)) ∧ PySem.W.keepIn K (.ref f) = true ∧ FunD K "_law_box" "_law_box" (defArgs s_law_box) (defBody s_law_box) (defScope s_law_box) [] [] f fd ∧ mg "_law_box" = some (.ref f) := by
  obtain ⟨f, fd, F, hm⟩ := fc.f__law_box
  have hN : (["great"] : List Str).Nodup := by decide
  refine ⟨f, fd, fn_ok (k := 0) F (Q.fnScope_by (N := ["great"]) (P := ["great"]) (by decide +kernel)) (fun cdv A outer s H E hr => ?_), F.kp, F, hm⟩
  exact css_one (cs_ret (ce_lst (oa_cons (oe (ce_callB c_abs rfl fc.b_abs (by decide +kernel) (oa_cons (oe_var 0) (oa_nil)))) (oa_cons (oe (ce_cmp o_ge (oe (ce_callB c_abs rfl fc.b_abs (by decide +kernel) (oa_cons (oe_var 0) (oa_nil)))) (oe (ce_op o_pow (oe (ce_int)) (oe (ce_int)))))) (oa_cons (oe (ce_op o_mod (oe (ce_callTy c_int rfl fc.b_int (by decide +kernel) (oa_cons (oe (ce_callB c_abs rfl fc.b_abs (by decide +kernel) (oa_cons (oe_var 0) (oa_nil)))) (oa_nil)))) (oe (ce_int)))) (oa_cons (oe (ce_int)) (oa_nil)))))))
theorem ok__law_box (fc : Fc P w K mg base C) : Fd P w K mg base 1 "_law_box" 1 (phi__law_box C) := ⟨let ⟨f, fd, ok, kp, F, hm⟩ := fo__law_box fc; ⟨f, fd, ["great"], ok, hm, kp, F.bindsN (fun kV doc pm an cdv ct us hl => match us, hl with | [_], _ => rfl)⟩⟩
theorem fo__law_cell (fc : Fc P w K mg base C) : ∃ f fd, FnOk P w K mg base CX0 1 f fd ["script", "k"] (spF K 2 (phi__law_cell C)) ∧ PySem.W.keepIn K (.ref f) = true ∧ FunD K "_law_cell" "_law_cell" (defArgs s_law_cell) (defBody s_law_cell) (defScope s_law_cell) [] [] f fd ∧ mg "_law_cell" = some (.ref f) := by
  obtain ⟨f, fd, F, hm⟩ := fc.f__law_cell
  have hN : (["script", "k"] : List Str).Nodup := by decide
  refine ⟨f, fd, fn_ok (k := 0) F (Q.fnScope_by (N := ["script", "k"]) (P := ["script", "k"]) (by decide +kernel)) (fun cdv A outer s H E hr => ?_), F.kp, F, hm⟩
  exact css_one (cs_ret (ce_ifExp (ct_cmp o_lt (oe_var 1) (oe (ce_callB c_len rfl fc.b_len (by decide +kernel) (oa_cons (oe_var 0) (oa_nil))))) (ce_ix (ix_any hr) (oe_var 0) (oe_var 1)) (ce_op o_add (oe (ce_op o_mul (oe (ce_int)) (oe_var 1))) (oe (ce_op o_mod (oe (ce_callTy c_int rfl fc.b_int (by decide +kernel) (oa_cons (oe (ce_callB (c_sum rfl) rfl fc.b_sum (by decide +kernel) (oa_cons (oe (ce_slice (oe_var 0) (oo_none) (oo_some (oe (ce_int))))) (oa_nil)))) (oa_nil)))) (oe (ce_int)))))))
theorem ok__law_cell (fc : Fc P w K mg base C) : Fd P w K mg base 1 "_law_cell" 2 (phi__law_cell C) := ⟨let ⟨f, fd, ok, kp, F, hm⟩ := fo__law_cell fc; ⟨f, fd, ["script", "k"], ok, hm, kp, F.bindsN (fun kV doc pm an cdv ct us hl => match us, hl with | [_, _], _ => rfl)⟩⟩
theorem fo__law_take (fc : Fc P w K mg base C) : ∃ f fd, FnOk P w K mg base CX0 1 f fd ["box", "many"] (spF K 2 (phi__law_take C)) ∧ PySem.W.keepIn K (.ref f) = true ∧ FunD K "_law_take" "_law_take" (defArgs s_law_take) (defBody s_law_take) (defScope s_law_take) [] [] f fd ∧ mg "_law_take" = some (.ref f) := by
  obtain ⟨f, fd, F, hm⟩ := fc.f__law_take
  have hN : (["box", "many", "digit", "mixed"] : List Str).Nodup := by decide
  refine ⟨f, fd, fn_ok (k := 0) F (Q.fnScope_by (N := ["box", "many", "digit", "mixed"]) (P := ["box", "many"]) (by decide +kernel)) (fun cdv A outer s H E hr => ?_), F.kp, F, hm⟩
  exact css_cons (cs_if (CW.ct (cw_and (ct_val (ce_ix (ix_any hr) (oe_var 0) (oe (ce_int)))) (cw_and1 (ct_cmp o_gt (oe (ce_ix (ix_any hr) (oe_var 0) (oe (ce_int)))) (oe (ce_int)))))) (css_cons (cs_set 2 hN (ce_op o_mod (oe (ce_callTy c_int rfl fc.b_int (by decide +kernel) (oa_cons (oe (ce_ix (ix_any hr) (oe_var 0) (oe (ce_int)))) (oa_nil)))) (oe_var 1))) (css_cons (cs_asg (g_sub 0 hr (oe (ce_int))) (ce_op o_div (oe (ce_ix (ix_any hr) (oe_var 0) (oe (ce_int)))) (oe_var 1))) (css_one (cs_ret (ce_move 2))))) (css_nil)) (css_cons (cs_asg (g_sub 0 hr (oe (ce_int))) (ce_op o_add (oe (ce_ix (ix_any hr) (oe_var 0) (oe (ce_int)))) (oe (ce_int)))) (css_cons (cs_set 3 hN (ce_op o_mod (oe (ce_callTy c_int rfl fc.b_int (by decide +kernel) (oa_cons (oe (ce_op o_pow (oe (ce_op o_add (oe (ce_op o_add (oe (ce_ix (ix_any hr) (oe_var 0) (oe (ce_int)))) (oe (ce_op o_mul (oe (ce_int)) (oe (ce_ix (ix_any hr) (oe_var 0) (oe (ce_int)))))))) (oe (ce_int)))) (oe (ce_int)))) (oa_nil)))) (oe (ce_int)))) (css_one (cs_ret (ce_op o_mod (oe (ce_callTy c_int rfl fc.b_int (by decide +kernel) (oa_cons (oe (ce_op o_div (oe (ce_op o_mod (oe (ce_callTy c_int rfl fc.b_int (by decide +kernel) (oa_cons (oe (ce_op o_pow (oe (ce_op o_add (oe (ce_op o_mul (oe_var 3) (oe (ce_int)))) (oe (ce_op o_mul (oe (ce_int)) (oe (ce_ix (ix_any hr) (oe_var 0) (oe (ce_int)))))))) (oe (ce_int)))) (oa_nil)))) (oe (ce_int)))) (oe (ce_int)))) (oa_nil)))) (oe_var 1))))))
theorem ok__law_take (fc : Fc P w K mg base C) : Fd P w K mg base 1 "_law_take" 2 (phi__law_take C) := ⟨let ⟨f, fd, ok, kp, F, hm⟩ := fo__law_take fc; ⟨f, fd, ["box", "many"], ok, hm, kp, F.bindsN (fun kV doc pm an cdv ct us hl => match us, hl with | [_, _], _ => rfl)⟩⟩
theorem fo__law_mixed (fc : Fc P w K mg base C) : ∃ f fd, FnOk P w K mg base CX0 2 f fd ["box", "items"] (spF K 2 (phi__law_mixed C)) ∧ PySem.W.keepIn K (.ref f) = true ∧ FunD K "_law_mixed" "_law_mixed" (defArgs s_law_mixed) (defBody s_law_mixed) (defScope s_law_mixed) [] [] f fd ∧ mg "_law_mixed" = some (.ref f) := by
  obtain ⟨f, fd, F, hm⟩ := fc.f__law_mixed
  have hN : (["box", "items", "left", "found", "k"] : List Str).Nodup := by decide
  refine ⟨f, fd, fn_ok (k := 1) F (Q.fnScope_by (N := ["box", "items", "left", "found", "k"]) (P := ["box", "items"]) (by decide +kernel)) (fun cdv A outer s H E hr => ?_), F.kp, F, hm⟩
  exact css_cons (cs_par 2 3 rfl hN (ce_callTy (c_list rfl) rfl fc.b_list (by decide +kernel) (oa_cons (oe_var 1) (oa_nil))) (ce_lst (oa_nil))) (css_cons (cs_for PassesOwn.never rfl (ie_range1 rfl fc.b_range (oa_cons (oe (ce_callB c_len rfl fc.b_len (by decide +kernel) (oa_cons (oe_var 1) (oa_nil)))) (oa_nil))) (g_name 4 hN) (css_one (cs_expr (ce_append 3 (oa_cons (oe (ce_popAt 2 (oa_cons (oe (ce_call (ok__law_take fc) hr (by decide) rfl (oa_cons (oe_var 0) (oa_cons (oe (ce_callB c_len rfl fc.b_len (by decide +kernel) (oa_cons (oe_var 2) (oa_nil)))) (oa_nil))))) (oa_nil)))) (oa_nil)))))) (css_one (cs_ret (ce_move 3))))
theorem ok__law_mixed (fc : Fc P w K mg base C) : Fd P w K mg base 2 "_law_mixed" 2 (phi__law_mixed C) := ⟨let ⟨f, fd, ok, kp, F, hm⟩ := fo__law_mixed fc; ⟨f, fd, ["box", "items"], ok, hm, kp, F.bindsN (fun kV doc pm an cdv ct us hl => match us, hl with | [_, _], _ => rfl)⟩⟩
theorem fo__law_every (fc : Fc P w K mg base C) : ∃ f fd, FnOk P w K mg base CX0 1 f fd ["size", "columns"] (spF K 2 (phi__law_every C)) ∧ PySem.W.keepIn K (.ref f) = true ∧ FunD K "_law_every" "_law_every" (defArgs s_law_every) (defBody s_law_every) (defScope s_law_every) [] [] f fd ∧ mg "_law_every" = some (.ref f) := by
  obtain ⟨f, fd, F, hm⟩ := fc.f__law_every
  have hN : (["size", "columns", "found", "turn", "longer", "row", "thing"] : List Str).Nodup := by decide
  refine ⟨f, fd, fn_ok (k := 0) F (Q.fnScope_by (N := ["size", "columns", "found", "turn", "longer", "row", "thing"]) (P := ["size", "columns"]) (by decide +kernel)) (fun cdv A outer s H E hr => ?_), F.kp, F, hm⟩
  exact css_cons (cs_set 2 hN (ce_lst (oa_cons (oe (ce_tup (oa_nil))) (oa_nil)))) (css_cons (cs_for PassesOwn.never rfl (ie_range1 rfl fc.b_range (oa_cons (oe_var 1) (oa_nil))) (g_name 3 hN) (css_cons (cs_set 4 hN (ce_lst (oa_nil))) (css_cons (cs_for PassesOwn.never rfl (ie_seq (oe (ce_var 2))) (g_name 5 hN) (css_one (cs_expr (ce_extend 4 (oa_cons (oe (ce_lc [("thing", 6)] rfl hN (ie_range1 rfl fc.b_range (oa_cons (oe_var 0) (oa_nil))) (blkOk_by (by kernel_rfl)) (fun _ _ _ _ _ => g_name 6 hN) (fun _ _ _ _ _ => ot_nil) (fun _ _ _ _ _ => ce_op o_add (oe_var 5) (oe (ce_tup (oa_cons (oe (ce_var 6)) (oa_nil))))))) (oa_nil)))))) (css_one (cs_set 2 hN (ce_move 4)))))) (css_one (cs_ret (ce_move 2))))
theorem ok__law_every (fc : Fc P w K mg base C) : Fd P w K mg base 1 "_law_every" 2 (phi__law_every C) := ⟨let ⟨f, fd, ok, kp, F, hm⟩ := fo__law_every fc; ⟨f, fd, ["size", "columns"], ok, hm, kp, F.bindsN (fun kV doc pm an cdv ct us hl => match us, hl with | [_, _], _ => rfl)⟩⟩
theorem fo__law_field (fc : Fc P w K mg base C) : ∃ f fd, FnOk P w K mg base CX0 3 f fd ["box", "size", "many"] (spF K 3 (phi__law_field C)) ∧ PySem.W.keepIn K (.ref f) = true ∧ FunD K "_law_field" "_law_field" (defArgs s_law_field) (defBody s_law_field) (defScope s_law_field) [] [] f fd ∧ mg "_law_field" = some (.ref f) := by
  obtain ⟨f, fd, F, hm⟩ := fc.f__law_field
  have hN : (["box", "size", "many", "tables", "names", "name", "columns"] : List Str).Nodup := by decide
  refine ⟨f, fd, fn_ok (k := 2) F (Q.fnScope_by (N := ["box", "size", "many", "tables", "names", "name", "columns"]) (P := ["box", "size", "many"]) (by decide +kernel)) (fun cdv A outer s H E hr => ?_), F.kp, F, hm⟩
  exact css_cons (cs_par 3 4 rfl hN (ce_dictK) (ce_slice (oe (ce_call (ok__law_mixed fc) hr (by decide) rfl (oa_cons (oe_var 0) (oa_cons (oe (ce_lst (oa_cons (oe (ce_str)) (oa_cons (oe (ce_str)) (oa_cons (oe (ce_str)) (oa_cons (oe (ce_str)) (oa_cons (oe (ce_str)) (oa_nil)))))))) (oa_nil))))) (oo_none) (oo_some (oe_var 2)))) (css_cons (cs_for PassesOwn.never rfl (ie_seq (oe (ce_var 4))) (g_name 5 hN) (css_cons (cs_set 6 hN (ce_ix (ix_any hr) (oe (ce_lst (oa_cons (oe (ce_int)) (oa_cons (oe (ce_int)) (oa_cons (oe (ce_int)) (oa_cons (oe (ce_int)) (oa_nil))))))) (oe (ce_call (ok__law_take fc) hr (by decide) rfl (oa_cons (oe_var 0) (oa_cons (oe (ce_int)) (oa_nil))))))) (css_one (cs_asg (g_sub 3 hr (oe_var 5)) (ce_lst (oa_cons (oe (ce_var 6)) (oa_cons (oe (ce_callB (c_sortedA hr rfl) rfl fc.b_sorted (by decide +kernel) (oa_cons (oe (ce_slice (oe (ce_call (ok__law_mixed fc) hr (by decide) rfl (oa_cons (oe_var 0) (oa_cons (oe (ce_call (ok__law_every fc) hr (by decide) rfl (oa_cons (oe_var 1) (oa_cons (oe_var 6) (oa_nil))))) (oa_nil))))) (oo_none) (oo_some (oe (ce_call (ok__law_take fc) hr (by decide) rfl (oa_cons (oe_var 0) (oa_cons (oe (ce_int)) (oa_nil)))))))) (oa_nil)))) (oa_nil)))))))) (css_cons (cs_if (CW.ct (cw_and (ct_cmp o_gt (oe_var 2) (oe (ce_int))) (cw_and1 (ct_cmp (o_eq hr) (oe (ce_call (ok__law_take fc) hr (by decide) rfl (oa_cons (oe_var 0) (oa_cons (oe (ce_int)) (oa_nil))))) (oe (ce_int)))))) (css_one (cs_asg (g_sub 3 hr (oe (ce_ix (ix_any hr) (oe_var 4) (oe (ce_int))))) (ce_lst (oa_cons (oe (ce_ix (ix_any hr) (oe (ce_ix (ix_any hr) (oe_var 3) (oe (ce_ix (ix_any hr) (oe_var 4) (oe (ce_int)))))) (oe (ce_int)))) (oa_cons (oe (ce_callTy (c_list rfl) rfl fc.b_list (by decide +kernel) (oa_cons (oe (ce_ix (ix_any hr) (oe (ce_ix (ix_any hr) (oe_var 3) (oe (ce_ix (ix_any hr) (oe_var 4) (oe (ce_int)))))) (oe (ce_int)))) (oa_nil)))) (oa_nil)))))) (css_nil)) (css_one (cs_ret (ce_lst (oa_cons (oe (ce_var 1)) (oa_cons (oe (ce_var 3)) (oa_nil))))))))
theorem ok__law_field (fc : Fc P w K mg base C) : Fd P w K mg base 3 "_law_field" 3 (phi__law_field C) := ⟨let ⟨f, fd, ok, kp, F, hm⟩ := fo__law_field fc; ⟨f, fd, ["box", "size", "many"], ok, hm, kp, F.bindsN (fun kV doc pm an cdv ct us hl => match us, hl with | [_, _, _], _ => rfl)⟩⟩
theorem fo_is_integer (fc : Fc P w K mg base C) : ∃ f fd, FnOk P w K mg base CX0 1 f fd ["value"] (spF K 1 (phi_is_integer C)) ∧ PySem.W.keepIn K (.ref f) = true ∧ FunD K "is_integer" "is_integer" (defArgs sis_integer) (defBody sis_integer) (defScope sis_integer) [] [] f fd ∧ mg "is_integer" = some (.ref f) := by
  obtain ⟨f, fd, F, hm⟩ := fc.f_is_integer
  have hN : (["value"] : List Str).Nodup := by decide
  refine ⟨f, fd, fn_ok (k := 0) F (Q.fnScope_by (N := ["value"]) (P := ["value"]) (by decide +kernel)) (fun cdv A outer s H E hr => ?_), F.kp, F, hm⟩
  exact css_one (cs_ret (ce_and (ce_isi (oe_var 0) rfl fc.b_isinstance rfl fc.b_int (by decide +kernel)) (ce_one (ce_not (ce_isi (oe_var 0) rfl fc.b_isinstance rfl fc.b_bool (by decide +kernel))))))
theorem ok_is_integer (fc : Fc P w K mg base C) : Fd P w K mg base 1 "is_integer" 1 (phi_is_integer C) := ⟨let ⟨f, fd, ok, kp, F, hm⟩ := fo_is_integer fc; ⟨f, fd, ["value"], ok, hm, kp, F.bindsN (fun kV doc pm an cdv ct us hl => match us, hl with | [_], _ => rfl)⟩⟩
theorem fo_is_between (fc : Fc P w K mg base C) : ∃ f fd, FnOk P w K mg base CX0 2 f fd ["value", "least", "most"] (spF K 3 (phi_is_between C)) ∧ PySem.W.keepIn K (.ref f) = true ∧ FunD K "is_between" "is_between" (defArgs sis_between) (defBody sis_between) (defScope sis_between) [] [] f fd ∧ mg "is_between" = some (.ref f) := by
  obtain ⟨f, fd, F, hm⟩ := fc.f_is_between
  have hN : (["value", "least", "most"] : List Str).Nodup := by decide
  refine ⟨f, fd, fn_ok (k := 1) F (Q.fnScope_by (N := ["value", "least", "most"]) (P := ["value", "least", "most"]) (by decide +kernel)) (fun cdv A outer s H E hr => ?_), F.kp, F, hm⟩
  exact css_one (cs_ret (ce_and (ce_call (ok_is_integer fc) hr (by decide) rfl (oa_cons (oe_var 0) (oa_nil))) (ce_one (ce_chain o_le o_le (oe_var 1) (oe_var 0) (oe_var 2)))))
theorem ok_is_between (fc : Fc P w K mg base C) : Fd P w K mg base 2 "is_between" 3 (phi_is_between C) := ⟨let ⟨f, fd, ok, kp, F, hm⟩ := fo_is_between fc; ⟨f, fd, ["value", "least", "most"], ok, hm, kp, F.bindsN (fun kV doc pm an cdv ct us hl => match us, hl with | [_, _, _], _ => rfl)⟩⟩
theorem fo_check_size (fc : Fc P w K mg base C) : ∃ f fd, FnOk P w K mg base CX0 3 f fd ["size"] (spF K 1 (phi_check_size C)) ∧ PySem.W.keepIn K (.ref f) = true ∧ FunD K "check_size" "check_size" (defArgs scheck_size) (defBody scheck_size) (defScope scheck_size) [] [] f fd ∧ mg "check_size" = some (.ref f) := by
  obtain ⟨f, fd, F, hm⟩ := fc.f_check_size
  have hN : (["size"] : List Str).Nodup := by decide
  refine ⟨f, fd, fn_ok (k := 2) F (Q.fnScope_by (N := ["size"]) (P := ["size"]) (by decide +kernel)) (fun cdv A outer s H E hr => ?_), F.kp, F, hm⟩
  exact css_one (cs_if (ct_not (ct_val (ce_call (ok_is_between fc) hr (by decide) rfl (oa_cons (oe_var 0) (oa_cons (oe (ce_int)) (oa_cons (oe (ce_gint fc.k_MOST_SIZE rfl)) (oa_nil))))))) (css_one (cs_no)) (css_nil))
theorem ok_check_size (fc : Fc P w K mg base C) : Fd P w K mg base 3 "check_size" 1 (phi_check_size C) := ⟨let ⟨f, fd, ok, kp, F, hm⟩ := fo_check_size fc; ⟨f, fd, ["size"], ok, hm, kp, F.bindsN (fun kV doc pm an cdv ct us hl => match us, hl with | [_], _ => rfl)⟩⟩
theorem fo_is_list (fc : Fc P w K mg base C) : ∃ f fd, FnOk P w K mg base CX0 1 f fd ["value"] (spF K 1 (phi_is_list C)) ∧ PySem.W.keepIn K (.ref f) = true ∧ FunD K "is_list" "is_list" (defArgs sis_list) (defBody sis_list) (defScope sis_list) [] [] f fd ∧ mg "is_list" = some (.ref f) := by
  obtain ⟨f, fd, F, hm⟩ := fc.f_is_list
  have hN : (["value"] : List Str).Nodup := by decide
  refine ⟨f, fd, fn_ok (k := 0) F (Q.fnScope_by (N := ["value"]) (P := ["value"]) (by decide +kernel)) (fun cdv A outer s H E hr => ?_), F.kp, F, hm⟩
  exact css_one (cs_ret (ce_isi2 (oe_var 0) rfl fc.b_isinstance rfl fc.b_list (by decide +kernel) rfl fc.b_tuple (by decide +kernel)))
theorem ok_is_list (fc : Fc P w K mg base C) : Fd P w K mg base 1 "is_list" 1 (phi_is_list C) := ⟨let ⟨f, fd, ok, kp, F, hm⟩ := fo_is_list fc; ⟨f, fd, ["value"], ok, hm, kp, F.bindsN (fun kV doc pm an cdv ct us hl => match us, hl with | [_], _ => rfl)⟩⟩
theorem fo_is_tuple_of (fc : Fc P w K mg base C) : ∃ f fd, FnOk P w K mg base CX0 1 f fd ["value", "many"] (spF K 2 (phi_is_tuple_of C)) ∧ PySem.W.keepIn K (.ref f) = true ∧ FunD K "is_tuple_of" "is_tuple_of" (defArgs sis_tuple_of) (defBody sis_tuple_of) (defScope sis_tuple_of) [] [] f fd ∧ mg "is_tuple_of" = some (.ref f) := by
  obtain ⟨f, fd, F, hm⟩ := fc.f_is_tuple_of
  have hN : (["value", "many"] : List Str).Nodup := by decide
  refine ⟨f, fd, fn_ok (k := 0) F (Q.fnScope_by (N := ["value", "many"]) (P := ["value", "many"]) (by decide +kernel)) (fun cdv A outer s H E hr => ?_), F.kp, F, hm⟩
  exact css_one (cs_ret (ce_and (ce_isi (oe_var 0) rfl fc.b_isinstance rfl fc.b_tuple (by decide +kernel)) (ce_one (ce_cmp (o_eq hr) (oe (ce_callB c_len rfl fc.b_len (by decide +kernel) (oa_cons (oe_var 0) (oa_nil)))) (oe_var 1)))))
theorem ok_is_tuple_of (fc : Fc P w K mg base C) : Fd P w K mg base 1 "is_tuple_of" 2 (phi_is_tuple_of C) := ⟨let ⟨f, fd, ok, kp, F, hm⟩ := fo_is_tuple_of fc; ⟨f, fd, ["value", "many"], ok, hm, kp, F.bindsN (fun kV doc pm an cdv ct us hl => match us, hl with | [_, _], _ => rfl)⟩⟩
theorem fo_are_things (fc : Fc P w K mg base C) : ∃ f fd, FnOk P w K mg base CX0 3 f fd ["size", "value"] (spF K 2 (phi_are_things C)) ∧ PySem.W.keepIn K (.ref f) = true ∧ FunD K "are_things" "are_things" (defArgs sare_things) (defBody sare_things) (defScope sare_things) [] [] f fd ∧ mg "are_things" = some (.ref f) := by
  obtain ⟨f, fd, F, hm⟩ := fc.f_are_things
  have hN : (["size", "value", "thing"] : List Str).Nodup := by decide
  refine ⟨f, fd, fn_ok (k := 2) F (Q.fnScope_by (N := ["size", "value", "thing"]) (P := ["size", "value"]) (by decide +kernel)) (fun cdv A outer s H E hr => ?_), F.kp, F, hm⟩
  exact css_one (cs_ret (ce_and (ce_isi (oe_var 1) rfl fc.b_isinstance rfl fc.b_tuple (by decide +kernel)) (ce_one (ce_callB (c_all rfl) rfl fc.b_all (by decide +kernel) (oa_cons (oe (ce_lc [("thing", 2)] rfl hN (ie_seq (oe (ce_var 1))) (blkOk_by (by kernel_rfl)) (fun _ _ _ _ _ => g_name 2 hN) (fun _ _ _ _ _ => ot_nil) (fun _ _ _ _ _ => ce_call (ok_is_between fc) hr (by decide) rfl (oa_cons (oe_var 2) (oa_cons (oe (ce_int)) (oa_cons (oe (ce_op o_sub (oe_var 0) (oe (ce_int)))) (oa_nil))))))) (oa_nil))))))
theorem ok_are_things (fc : Fc P w K mg base C) : Fd P w K mg base 3 "are_things" 2 (phi_are_things C) := ⟨let ⟨f, fd, ok, kp, F, hm⟩ := fo_are_things fc; ⟨f, fd, ["size", "value"], ok, hm, kp, F.bindsN (fun kV doc pm an cdv ct us hl => match us, hl with | [_, _], _ => rfl)⟩⟩
theorem fo_is_row_of (fc : Fc P w K mg base C) : ∃ f fd, FnOk P w K mg base CX0 4 f fd ["size", "columns", "value"] (spF K 3 (phi_is_row_of C)) ∧ PySem.W.keepIn K (.ref f) = true ∧ FunD K "is_row_of" "is_row_of" (defArgs sis_row_of) (defBody sis_row_of) (defScope sis_row_of) [] [] f fd ∧ mg "is_row_of" = some (.ref f) := by
  obtain ⟨f, fd, F, hm⟩ := fc.f_is_row_of
  have hN : (["size", "columns", "value"] : List Str).Nodup := by decide
  refine ⟨f, fd, fn_ok (k := 3) F (Q.fnScope_by (N := ["size", "columns", "value"]) (P := ["size", "columns", "value"]) (by decide +kernel)) (fun cdv A outer s H E hr => ?_), F.kp, F, hm⟩
  exact css_one (cs_ret (ce_and (ce_call (ok_is_tuple_of fc) hr (by decide) rfl (oa_cons (oe_var 2) (oa_cons (oe_var 1) (oa_nil)))) (ce_one (ce_call (ok_are_things fc) hr (by decide) rfl (oa_cons (oe_var 0) (oa_cons (oe (ce_var 2)) (oa_nil)))))))
theorem ok_is_row_of (fc : Fc P w K mg base C) : Fd P w K mg base 4 "is_row_of" 3 (phi_is_row_of C) := ⟨let ⟨f, fd, ok, kp, F, hm⟩ := fo_is_row_of fc; ⟨f, fd, ["size", "columns", "value"], ok, hm, kp, F.bindsN (fun kV doc pm an cdv ct us hl => match us, hl with | [_, _, _], _ => rfl)⟩⟩
theorem fo_is_table (fc : Fc P w K mg base C) : ∃ f fd, FnOk P w K mg base CX0 5 f fd ["size", "value"] (spF K 2 (phi_is_table C)) ∧ PySem.W.keepIn K (.ref f) = true ∧ FunD K "is_table" "is_table" (defArgs sis_table) (defBody sis_table) (defScope sis_table) [] [] f fd ∧ mg "is_table" = some (.ref f) := by
  obtain ⟨f, fd, F, hm⟩ := fc.f_is_table
  have hN : (["size", "value", "row"] : List Str).Nodup := by decide
  refine ⟨f, fd, fn_ok (k := 4) F (Q.fnScope_by (N := ["size", "value", "row"]) (P := ["size", "value"]) (by decide +kernel)) (fun cdv A outer s H E hr => ?_), F.kp, F, hm⟩
  exact css_cons (cs_if (CW.ct (cw_or (ct_not (ct_val (ce_call (ok_is_tuple_of fc) hr (by decide) rfl (oa_cons (oe_var 1) (oa_cons (oe (ce_int)) (oa_nil)))))) (cw_or (ct_not (ct_val (ce_call (ok_is_between fc) hr (by decide) rfl (oa_cons (oe (ce_ix (ix_any hr) (oe_var 1) (oe (ce_int)))) (oa_cons (oe (ce_int)) (oa_cons (oe (ce_gint fc.k_MOST_COLUMNS rfl)) (oa_nil))))))) (cw_or1 (ct_not (ct_val (ce_call (ok_is_list fc) hr (by decide) rfl (oa_cons (oe (ce_ix (ix_any hr) (oe_var 1) (oe (ce_int)))) (oa_nil))))))))) (css_one (cs_ret (ce_bl))) (css_nil)) (css_one (cs_ret (ce_callB (c_all rfl) rfl fc.b_all (by decide +kernel) (oa_cons (oe (ce_lc [("row", 2)] rfl hN (ie_seq (oe (ce_ix (ix_any hr) (oe_var 1) (oe (ce_int))))) (blkOk_by (by kernel_rfl)) (fun _ _ _ _ _ => g_name 2 hN) (fun _ _ _ _ _ => ot_nil) (fun _ _ _ _ _ => ce_call (ok_is_row_of fc) hr (by decide) rfl (oa_cons (oe_var 0) (oa_cons (oe (ce_ix (ix_any hr) (oe_var 1) (oe (ce_int)))) (oa_cons (oe (ce_var 2)) (oa_nil))))))) (oa_nil)))))
theorem ok_is_table (fc : Fc P w K mg base C) : Fd P w K mg base 5 "is_table" 2 (phi_is_table C) := ⟨let ⟨f, fd, ok, kp, F, hm⟩ := fo_is_table fc; ⟨f, fd, ["size", "value"], ok, hm, kp, F.bindsN (fun kV doc pm an cdv ct us hl => match us, hl with | [_, _], _ => rfl)⟩⟩
theorem fo_is_word (fc : Fc P w K mg base C) : ∃ f fd, FnOk P w K mg base CX0 1 f fd ["value"] (spF K 1 (phi_is_word C)) ∧ PySem.W.keepIn K (.ref f) = true ∧ FunD K "is_word" "is_word" (defArgs sis_word) (defBody sis_word) (defScope sis_word) [] [] f fd ∧ mg "is_word" = some (.ref f) := by
  obtain ⟨f, fd, F, hm⟩ := fc.f_is_word
  have hN : (["value", "sign"] : List Str).Nodup := by decide
  refine ⟨f, fd, fn_ok (k := 0) F (Q.fnScope_by (N := ["value", "sign"]) (P := ["value"]) (by decide +kernel)) (fun cdv A outer s H E hr => ?_), F.kp, F, hm⟩
  exact css_cons (cs_if (CW.ct (cw_or (ct_not (ct_val (ce_isi (oe_var 0) rfl fc.b_isinstance rfl fc.b_str (by decide +kernel)))) (cw_or1 (ct_not (ct_chain o_le o_le (oe (ce_int)) (oe (ce_callB c_len rfl fc.b_len (by decide +kernel) (oa_cons (oe_var 0) (oa_nil)))) (oe (ce_gint fc.k_MOST_LETTERS rfl))))))) (css_one (cs_ret (ce_bl))) (css_nil)) (css_one (cs_ret (ce_callB (c_all rfl) rfl fc.b_all (by decide +kernel) (oa_cons (oe (ce_lc [("sign", 1)] rfl hN (ie_str (oe_var 0)) (blkOk_by (by kernel_rfl)) (fun _ _ _ _ _ => g_name 1 hN) (fun _ _ _ _ _ => ot_nil) (fun _ _ _ _ _ => ce_cmp (o_in hr) (oe_var 1) (oe (ce_gstr fc.k_LETTERS rfl))))) (oa_nil)))))
theorem ok_is_word (fc : Fc P w K mg base C) : Fd P w K mg base 1 "is_word" 1 (phi_is_word C) := ⟨let ⟨f, fd, ok, kp, F, hm⟩ := fo_is_word fc; ⟨f, fd, ["value"], ok, hm, kp, F.bindsN (fun kV doc pm an cdv ct us hl => match us, hl with | [_], _ => rfl)⟩⟩
theorem fo_are_tables (fc : Fc P w K mg base C) : ∃ f fd, FnOk P w K mg base CX0 6 f fd ["size", "value"] (spF K 2 (phi_are_tables C)) ∧ PySem.W.keepIn K (.ref f) = true ∧ FunD K "are_tables" "are_tables" (defArgs sare_tables) (defBody sare_tables) (defScope sare_tables) [] [] f fd ∧ mg "are_tables" = some (.ref f) := by
  obtain ⟨f, fd, F, hm⟩ := fc.f_are_tables
  have hN : (["size", "value", "name"] : List Str).Nodup := by decide
  refine ⟨f, fd, fn_ok (k := 5) F (Q.fnScope_by (N := ["size", "value", "name"]) (P := ["size", "value"]) (by decide +kernel)) (fun cdv A outer s H E hr => ?_), F.kp, F, hm⟩
  exact css_cons (cs_if (CW.ct (cw_or (ct_not (ct_val (ce_isi (oe_var 1) rfl fc.b_isinstance rfl fc.b_dict (by decide +kernel)))) (cw_or1 (ct_cmp o_gt (oe (ce_callB c_len rfl fc.b_len (by decide +kernel) (oa_cons (oe_var 1) (oa_nil)))) (oe (ce_gint fc.k_MOST_TABLES rfl)))))) (css_one (cs_ret (ce_bl))) (css_nil)) (css_one (cs_ret (ce_callB (c_all rfl) rfl fc.b_all (by decide +kernel) (oa_cons (oe (ce_lc [("name", 2)] rfl hN (ie_keys (oe (ce_var 1))) (blkOk_by (by kernel_rfl)) (fun _ _ _ _ _ => g_name 2 hN) (fun _ _ _ _ _ => ot_nil) (fun _ _ _ _ _ => ce_and (ce_call (ok_is_word fc) hr (by decide) rfl (oa_cons (oe_var 2) (oa_nil))) (ce_one (ce_call (ok_is_table fc) hr (by decide) rfl (oa_cons (oe_var 0) (oa_cons (oe (ce_ix (ix_any hr) (oe_var 1) (oe_var 2))) (oa_nil)))))))) (oa_nil)))))
theorem ok_are_tables (fc : Fc P w K mg base C) : Fd P w K mg base 6 "are_tables" 2 (phi_are_tables C) := ⟨let ⟨f, fd, ok, kp, F, hm⟩ := fo_are_tables fc; ⟨f, fd, ["size", "value"], ok, hm, kp, F.bindsN (fun kV doc pm an cdv ct us hl => match us, hl with | [_, _], _ => rfl)⟩⟩
theorem fo_every_row (fc : Fc P w K mg base C) : ∃ f fd, FnOk P w K mg base CX0 1 f fd ["size", "columns"] (spF K 2 (phi_every_row C)) ∧ PySem.W.keepIn K (.ref f) = true ∧ FunD K "every_row" "every_row" (defArgs severy_row) (defBody severy_row) (defScope severy_row) [] [] f fd ∧ mg "every_row" = some (.ref f) := by
  obtain ⟨f, fd, F, hm⟩ := fc.f_every_row
  have hN : (["size", "columns", "found", "turn", "row", "thing"] : List Str).Nodup := by decide
  refine ⟨f, fd, fn_ok (k := 0) F (Q.fnScope_by (N := ["size", "columns", "found", "turn", "row", "thing"]) (P := ["size", "columns"]) (by decide +kernel)) (fun cdv A outer s H E hr => ?_), F.kp, F, hm⟩
  exact css_cons (cs_set 2 hN (ce_lst (oa_cons (oe (ce_tup (oa_nil))) (oa_nil)))) (css_cons (cs_for PassesOwn.never rfl (ie_range1 rfl fc.b_range (oa_cons (oe_var 1) (oa_nil))) (g_name 3 hN) (css_one (cs_setLc2 2 [("row", 4), ("thing", 5)] [5] rfl hN (sw_true rfl rfl rfl rfl) (ie_seq (oe (ce_var 2))) (blkOk_by (by kernel_rfl)) (fun _ _ _ _ _ => g_name 4 hN) (fun _ _ _ _ _ => ot_nil) (fun _ _ _ _ _ => ie_range1 rfl fc.b_range (oa_cons (oe_var 0) (oa_nil))) (fun _ _ _ _ _ => g_name 5 hN) (fun _ _ _ _ _ => ot_nil) (fun _ _ _ _ _ => ce_tup (oa_star (oe_var 4) (oa_cons (oe (ce_var 5)) (oa_nil))))))) (css_one (cs_ret (ce_move 2))))
theorem ok_every_row (fc : Fc P w K mg base C) : Fd P w K mg base 1 "every_row" 2 (phi_every_row C) := ⟨let ⟨f, fd, ok, kp, F, hm⟩ := fo_every_row fc; ⟨f, fd, ["size", "columns"], ok, hm, kp, F.bindsN (fun kV doc pm an cdv ct us hl => match us, hl with | [_, _], _ => rfl)⟩⟩
theorem fo_target_where (fc : Fc P w K mg base C) : ∃ f fd, FnOk P w K mg base CX0 2 f fd ["size", "columns", "rows"] (spF K 3 (phi_target_where C)) ∧ PySem.W.keepIn K (.ref f) = true ∧ FunD K "target_where" "target_where" (defArgs starget_where) (defBody starget_where) (defScope starget_where) [] [] f fd ∧ mg "target_where" = some (.ref f) := by
  obtain ⟨f, fd, F, hm⟩ := fc.f_target_where
  have hN : (["size", "columns", "rows", "known", "row"] : List Str).Nodup := by decide
  refine ⟨f, fd, fn_ok (k := 1) F (Q.fnScope_by (N := ["size", "columns", "rows", "known", "row"]) (P := ["size", "columns", "rows"]) (by decide +kernel)) (fun cdv A outer s H E hr => ?_), F.kp, F, hm⟩
  exact css_cons (cs_set 3 hN (ce_callTy (c_dictT hr) rfl fc.b_dict (by decide +kernel) (oa_cons (oe (ce_lc [("row", 4)] rfl hN (ie_seq (oe (ce_var 2))) (blkOk_by (by kernel_rfl)) (fun _ _ _ _ _ => g_name 4 hN) (fun _ _ _ _ _ => ot_nil) (fun _ _ _ _ _ => ce_tup (oa_cons (oe (ce_var 4)) (oa_cons (oe (ce_bl)) (oa_nil)))))) (oa_nil)))) (css_one (cs_ret (ce_tup (oa_cons (oe (ce_var 1)) (oa_cons (oe (ce_callTy c_tuple rfl fc.b_tuple (by decide +kernel) (oa_cons (oe (ce_lc [("row", 4)] rfl hN (ie_seq (oe (ce_call (ok_every_row fc) hr (by decide) rfl (oa_cons (oe_var 0) (oa_cons (oe_var 1) (oa_nil)))))) (blkOk_by (by kernel_rfl)) (fun _ _ _ _ _ => g_name 4 hN) (fun _ _ _ _ _ => ot_one (ct_cmp (o_in hr) (oe_var 4) (oe_var 3))) (fun _ _ _ _ _ => ce_move 4))) (oa_nil)))) (oa_nil))))))
theorem ok_target_where (fc : Fc P w K mg base C) : Fd P w K mg base 2 "target_where" 3 (phi_target_where C) := ⟨let ⟨f, fd, ok, kp, F, hm⟩ := fo_target_where fc; ⟨f, fd, ["size", "columns", "rows"], ok, hm, kp, F.bindsN (fun kV doc pm an cdv ct us hl => match us, hl with | [_, _, _], _ => rfl)⟩⟩
theorem fo_BookD_initD (fc : Fc P w K mg base C) : ∃ f fd, FnOk P w K mg base CX0 7 f fd ["self", "size", "tables"] (spF K 3 (phi_BookD_initD C)) ∧ PySem.W.keepIn K (.ref f) = true ∧ FunD K "__init__" "Book.__init__" (defArgs sBookD_initD) (defBody sBookD_initD) (defScope sBookD_initD) [] [] f fd ∧ Mk K C f := by
  obtain ⟨f, fd, F, hm⟩ := fc.f_BookD_initD
  have hN : (["self", "size", "tables", "name"] : List Str).Nodup := by decide
  refine ⟨f, fd, fn_ok (k := 6) F (Q.fnScope_by (N := ["self", "size", "tables", "name"]) (P := ["self", "size", "tables"]) (by decide +kernel)) (fun cdv A outer s H E hr => ?_), F.kp, F, hm⟩
  exact css_cons (cs_expr (ce_call (ok_check_size fc) hr (by decide) rfl (oa_cons (oe_var 1) (oa_nil)))) (css_cons (cs_if (ct_not (ct_val (ce_call (ok_are_tables fc) hr (by decide) rfl (oa_cons (oe_var 1) (oa_cons (oe (ce_var 2)) (oa_nil)))))) (css_one (cs_no)) (css_nil)) (css_cons (cs_fld 0 fc.cls fc.noat_size (oe (ce_var 1))) (css_cons (cs_fld 0 fc.cls fc.noat_names (oe (ce_callTy c_tuple rfl fc.b_tuple (by decide +kernel) (oa_cons (oe (ce_callB (c_sortedA hr rfl) rfl fc.b_sorted (by decide +kernel) (oa_cons (oe (ce_callTy (c_list rfl) rfl fc.b_list (by decide +kernel) (oa_cons (oe_var 2) (oa_nil)))) (oa_nil)))) (oa_nil))))) (css_one (cs_fld 0 fc.cls fc.noat__targets (oe (ce_dc [("name", 3)] rfl hN (ie_seq (oe (ce_fld fc.cls fc.noat_names (oe_var 0)))) (blkOk_by (by kernel_rfl)) (fun _ _ _ _ _ => g_name 3 hN) (fun _ _ _ _ _ => ot_nil) (fun _ _ _ _ _ => ce_var 3) (fun _ _ _ _ _ => ce_call (ok_target_where fc) hr (by decide) rfl (oa_cons (oe_var 1) (oa_cons (oe (ce_ix (ix_any hr) (oe (ce_ix (ix_any hr) (oe_var 2) (oe_var 3))) (oe (ce_int)))) (oa_cons (oe (ce_ix (ix_any hr) (oe (ce_ix (ix_any hr) (oe_var 2) (oe_var 3))) (oe (ce_int)))) (oa_nil))))))))))))
theorem mk_BookD_initD (fc : Fc P w K mg base C) : Kd P w K mg base 7 "Book" C 3 (phi_BookD_initD C) := ⟨let ⟨f, fd, ok, kp, F, hm⟩ := fo_BookD_initD fc; ⟨f, fd, ["self", "size", "tables"], hm, ok, fc.g_Book, F.bindsN (fun kV doc pm an cdv ct us hl => match us, hl with | [_, _, _], _ => rfl)⟩⟩
theorem fo__law_built (fc : Fc P w K mg base C) : ∃ f fd, FnOk P w K mg base CX0 9 f fd ["box", "book"] (spF K 2 (phi__law_built C)) ∧ PySem.W.keepIn K (.ref f) = true ∧ FunD K "_law_built" "_law_built" (defArgs s_law_built) (defBody s_law_built) (defScope s_law_built) [] [] f fd ∧ mg "_law_built" = some (.ref f) := by
  obtain ⟨f, fd, F, hm⟩ := fc.f__law_built
  have hN : (["box", "book", "name"] : List Str).Nodup := by decide
  refine ⟨f, fd, fn_ok (k := 8) F (Q.fnScope_by (N := ["box", "book", "name"]) (P := ["box", "book"]) (by decide +kernel)) (fun cdv A outer s H E hr => ?_), F.kp, F, hm⟩
  exact css_one (cs_ret (ce_make (mk_BookD_initD fc) hr (by decide) rfl (oa_cons (oe (ce_ix (ix_any hr) (oe_var 1) (oe (ce_int)))) (oa_cons (oe (ce_callTy (c_dictK rfl) rfl fc.b_dict (by decide +kernel) (oa_cons (oe (ce_lc [("name", 2)] rfl hN (ie_seq (oe (ce_call (ok__law_mixed fc) hr (by decide) rfl (oa_cons (oe_var 0) (oa_cons (oe (ce_callB (c_sortedA hr rfl) rfl fc.b_sorted (by decide +kernel) (oa_cons (oe (ce_ix (ix_any hr) (oe_var 1) (oe (ce_int)))) (oa_nil)))) (oa_nil)))))) (blkOk_by (by kernel_rfl)) (fun _ _ _ _ _ => g_name 2 hN) (fun _ _ _ _ _ => ot_nil) (fun _ _ _ _ _ => ce_tup (oa_cons (oe (ce_var 2)) (oa_cons (oe (ce_tup (oa_cons (oe (ce_ix (ix_any hr) (oe (ce_ix (ix_any hr) (oe (ce_ix (ix_any hr) (oe_var 1) (oe (ce_int)))) (oe_var 2))) (oe (ce_int)))) (oa_cons (oe (ce_call (ok__law_mixed fc) hr (by decide) rfl (oa_cons (oe_var 0) (oa_cons (oe (ce_ix (ix_any hr) (oe (ce_ix (ix_any hr) (oe (ce_ix (ix_any hr) (oe_var 1) (oe (ce_int)))) (oe_var 2))) (oe (ce_int)))) (oa_nil))))) (oa_nil))))) (oa_nil)))))) (oa_nil)))) (oa_nil)))))
theorem ok__law_built (fc : Fc P w K mg base C) : Fd P w K mg base 9 "_law_built" 2 (phi__law_built C) := ⟨let ⟨f, fd, ok, kp, F, hm⟩ := fo__law_built fc; ⟨f, fd, ["box", "book"], ok, hm, kp, F.bindsN (fun kV doc pm an cdv ct us hl => match us, hl with | [_, _], _ => rfl)⟩⟩
theorem fo__law_wishes (fc : Fc P w K mg base C) : ∃ f fd, FnOk P w K mg base CX0 2 f fd ["box", "book", "many", "count"] (spF K 4 (phi__law_wishes C)) ∧ PySem.W.keepIn K (.ref f) = true ∧ FunD K "_law_wishes" "_law_wishes" (defArgs s_law_wishes) (defBody s_law_wishes) (defScope s_law_wishes) [] [] f fd ∧ mg "_law_wishes" = some (.ref f) := by
  obtain ⟨f, fd, F, hm⟩ := fc.f__law_wishes
  have hN : (["box", "book", "many", "count", "names", "atoms", "turn", "name", "places", "c"] : List Str).Nodup := by decide
  refine ⟨f, fd, fn_ok (k := 1) F (Q.fnScope_by (N := ["box", "book", "many", "count", "names", "atoms", "turn", "name", "places", "c"]) (P := ["box", "book", "many", "count"]) (by decide +kernel)) (fun cdv A outer s H E hr => ?_), F.kp, F, hm⟩
  exact css_cons (cs_par 4 5 rfl hN (ce_callB (c_sortedA hr rfl) rfl fc.b_sorted (by decide +kernel) (oa_cons (oe (ce_ix (ix_any hr) (oe_var 1) (oe (ce_int)))) (oa_nil))) (ce_lst (oa_nil))) (css_cons (cs_for PassesOwn.never rfl (ie_range1 rfl fc.b_range (oa_cons (oe (ce_ifExp (ct_cmp (o_ne hr) (oe_var 4) (oe (ce_lst (oa_nil)))) (ce_move 3) (ce_int))) (oa_nil))) (g_name 6 hN) (css_cons (cs_set 7 hN (ce_ix (ix_any hr) (oe_var 4) (oe (ce_call (ok__law_take fc) hr (by decide) rfl (oa_cons (oe_var 0) (oa_cons (oe (ce_callB c_len rfl fc.b_len (by decide +kernel) (oa_cons (oe_var 4) (oa_nil)))) (oa_nil))))))) (css_cons (cs_setLc 8 [("c", 9)] rfl hN (sw_true rfl rfl rfl rfl) (ie_range1 rfl fc.b_range (oa_cons (oe (ce_ix (ix_any hr) (oe (ce_ix (ix_any hr) (oe (ce_ix (ix_any hr) (oe_var 1) (oe (ce_int)))) (oe_var 7))) (oe (ce_int)))) (oa_nil))) (blkOk_by (by kernel_rfl)) (fun _ _ _ _ _ => g_name 9 hN) (fun _ _ _ _ _ => ot_nil) (fun _ _ _ _ _ => ce_call (ok__law_take fc) hr (by decide) rfl (oa_cons (oe_var 0) (oa_cons (oe_var 2) (oa_nil))))) (css_cons (cs_if (ct_cmp (o_eq hr) (oe (ce_call (ok__law_take fc) hr (by decide) rfl (oa_cons (oe_var 0) (oa_cons (oe (ce_int)) (oa_nil))))) (oe (ce_int))) (css_one (cs_set 8 hN (ce_op o_mul (oe (ce_slice (oe_var 8) (oo_none) (oo_some (oe (ce_int))))) (oe (ce_callB c_len rfl fc.b_len (by decide +kernel) (oa_cons (oe_var 8) (oa_nil))))))) (css_nil)) (css_one (cs_expr (ce_append 5 (oa_cons (oe (ce_tup (oa_cons (oe (ce_str)) (oa_cons (oe (ce_var 7)) (oa_cons (oe (ce_callTy c_tuple rfl fc.b_tuple (by decide +kernel) (oa_cons (oe_var 8) (oa_nil)))) (oa_nil)))))) (oa_nil))))))))) (css_one (cs_ret (ce_tup (oa_cons (oe (ce_var 2)) (oa_cons (oe (ce_var 5)) (oa_nil)))))))
theorem ok__law_wishes (fc : Fc P w K mg base C) : Fd P w K mg base 2 "_law_wishes" 4 (phi__law_wishes C) := ⟨let ⟨f, fd, ok, kp, F, hm⟩ := fo__law_wishes fc; ⟨f, fd, ["box", "book", "many", "count"], ok, hm, kp, F.bindsN (fun kV doc pm an cdv ct us hl => match us, hl with | [_, _, _, _], _ => rfl)⟩⟩
theorem fo_check_book (fc : Fc P w K mg base C) : ∃ f fd, FnOk P w K mg base CX0 1 f fd ["book"] (spF K 1 (phi_check_book C)) ∧ PySem.W.keepIn K (.ref f) = true ∧ FunD K "check_book" "check_book" (defArgs scheck_book) (defBody scheck_book) (defScope scheck_book) [] [] f fd ∧ mg "check_book" = some (.ref f) := by
  obtain ⟨f, fd, F, hm⟩ := fc.f_check_book
  have hN : (["book"] : List Str).Nodup := by decide
  refine ⟨f, fd, fn_ok (k := 0) F (Q.fnScope_by (N := ["book"]) (P := ["book"]) (by decide +kernel)) (fun cdv A outer s H E hr => ?_), F.kp, F, hm⟩
  exact css_one (cs_if (ct_not (ct_val (ce_isiC fc.insC (oe_var 0) rfl fc.b_isinstance rfl fc.g_Book))) (css_one (cs_no)) (css_nil))
theorem ok_check_book (fc : Fc P w K mg base C) : Fd P w K mg base 1 "check_book" 1 (phi_check_book C) := ⟨let ⟨f, fd, ok, kp, F, hm⟩ := fo_check_book fc; ⟨f, fd, ["book"], ok, hm, kp, F.bindsN (fun kV doc pm an cdv ct us hl => match us, hl with | [_], _ => rfl)⟩⟩
theorem fo_Book_target (fc : Fc P w K mg base C) : ∃ f fd, FnOk P w K mg base CX0 1 f fd ["self", "name"] (spF K 2 (phi_Book_target C)) ∧ PySem.W.keepIn K (.ref f) = true ∧ FunD K "target" "Book.target" (defArgs sBook_target) (defBody sBook_target) (defScope sBook_target) [] [] f fd ∧ Meth K C "target" f := by
  obtain ⟨f, fd, F, hm⟩ := fc.f_Book_target
  have hN : (["self", "name"] : List Str).Nodup := by decide
  refine ⟨f, fd, fn_ok (k := 0) F (Q.fnScope_by (N := ["self", "name"]) (P := ["self", "name"]) (by decide +kernel)) (fun cdv A outer s H E hr => ?_), F.kp, F, hm⟩
  exact css_cons (cs_if (CW.ct (cw_or (ct_not (ct_val (ce_isi (oe_var 1) rfl fc.b_isinstance rfl fc.b_str (by decide +kernel)))) (cw_or1 (ct_cmp (o_notIn hr) (oe_var 1) (oe (ce_fld fc.cls fc.noat__targets (oe_var 0))))))) (css_one (cs_no)) (css_nil)) (css_one (cs_ret (ce_ix (ix_any hr) (oe (ce_fld fc.cls fc.noat__targets (oe_var 0))) (oe_var 1))))
theorem ok_Book_target (fc : Fc P w K mg base C) : Md P w K mg base 1 C "target" 2 (phi_Book_target C) := ⟨let ⟨f, fd, ok, kp, F, hm⟩ := fo_Book_target fc; ⟨f, fd, ["self", "name"], fc.cls, hm, ok, F.bindsN (fun kV doc pm an cdv ct us hl => match us, hl with | [_, _], _ => rfl)⟩⟩
theorem fo_Book_columns (fc : Fc P w K mg base C) : ∃ f fd, FnOk P w K mg base CX0 2 f fd ["self", "name"] (spF K 2 (phi_Book_columns C)) ∧ PySem.W.keepIn K (.ref f) = true ∧ FunD K "columns" "Book.columns" (defArgs sBook_columns) (defBody sBook_columns) (defScope sBook_columns) [] [] f fd ∧ Meth K C "columns" f := by
  obtain ⟨f, fd, F, hm⟩ := fc.f_Book_columns
  have hN : (["self", "name"] : List Str).Nodup := by decide
  refine ⟨f, fd, fn_ok (k := 1) F (Q.fnScope_by (N := ["self", "name"]) (P := ["self", "name"]) (by decide +kernel)) (fun cdv A outer s H E hr => ?_), F.kp, F, hm⟩
  exact css_one (cs_ret (ce_ix (ix_any hr) (oe (ce_meth (ok_Book_target fc) hr (by decide) (oe_var 0) (oa_cons (oe_var 1) (oa_nil)))) (oe (ce_int))))
theorem ok_Book_columns (fc : Fc P w K mg base C) : Md P w K mg base 2 C "columns" 2 (phi_Book_columns C) := ⟨let ⟨f, fd, ok, kp, F, hm⟩ := fo_Book_columns fc; ⟨f, fd, ["self", "name"], fc.cls, hm, ok, F.bindsN (fun kV doc pm an cdv ct us hl => match us, hl with | [_, _], _ => rfl)⟩⟩
theorem fo_is_atom_of (fc : Fc P w K mg base C) : ∃ f fd, FnOk P w K mg base CX0 3 f fd ["book", "many", "value"] (spF K 3 (phi_is_atom_of C)) ∧ PySem.W.keepIn K (.ref f) = true ∧ FunD K "is_atom_of" "is_atom_of" (defArgs sis_atom_of) (defBody sis_atom_of) (defScope sis_atom_of) [] [] f fd ∧ mg "is_atom_of" = some (.ref f) := by
  obtain ⟨f, fd, F, hm⟩ := fc.f_is_atom_of
  have hN : (["book", "many", "value", "x"] : List Str).Nodup := by decide
  refine ⟨f, fd, fn_ok (k := 2) F (Q.fnScope_by (N := ["book", "many", "value", "x"]) (P := ["book", "many", "value"]) (by decide +kernel)) (fun cdv A outer s H E hr => ?_), F.kp, F, hm⟩
  exact css_cons (cs_if (CW.ct (cw_or (ct_not (ct_val (ce_call (ok_is_tuple_of fc) hr (by decide) rfl (oa_cons (oe_var 2) (oa_cons (oe (ce_int)) (oa_nil)))))) (cw_or1 (ct_not (ct_val (ce_isi (oe (ce_ix (ix_any hr) (oe_var 2) (oe (ce_int)))) rfl fc.b_isinstance rfl fc.b_str (by decide +kernel))))))) (css_one (cs_ret (ce_bl))) (css_nil)) (css_cons (cs_if (ct_cmp (o_in hr) (oe (ce_ix (ix_any hr) (oe_var 2) (oe (ce_int)))) (oe (ce_tup (oa_cons (oe (ce_str)) (oa_cons (oe (ce_str)) (oa_nil)))))) (css_cons (cs_if (CW.ct (cw_or (ct_not (ct_val (ce_isi (oe (ce_ix (ix_any hr) (oe_var 2) (oe (ce_int)))) rfl fc.b_isinstance rfl fc.b_str (by decide +kernel)))) (cw_or (ct_cmp (o_notIn hr) (oe (ce_ix (ix_any hr) (oe_var 2) (oe (ce_int)))) (oe (ce_fld fc.cls fc.noat_names (oe_var 0)))) (cw_or1 (ct_not (ct_val (ce_isi (oe (ce_ix (ix_any hr) (oe_var 2) (oe (ce_int)))) rfl fc.b_isinstance rfl fc.b_tuple (by decide +kernel)))))))) (css_one (cs_ret (ce_bl))) (css_nil)) (css_one (cs_ret (ce_and (ce_cmp (o_eq hr) (oe (ce_callB c_len rfl fc.b_len (by decide +kernel) (oa_cons (oe (ce_ix (ix_any hr) (oe_var 2) (oe (ce_int)))) (oa_nil)))) (oe (ce_meth (ok_Book_columns fc) hr (by decide) (oe_var 0) (oa_cons (oe (ce_ix (ix_any hr) (oe_var 2) (oe (ce_int)))) (oa_nil))))) (ce_one (ce_callB (c_all rfl) rfl fc.b_all (by decide +kernel) (oa_cons (oe (ce_lc [("x", 3)] rfl hN (ie_seq (oe (ce_ix (ix_any hr) (oe_var 2) (oe (ce_int))))) (blkOk_by (by kernel_rfl)) (fun _ _ _ _ _ => g_name 3 hN) (fun _ _ _ _ _ => ot_nil) (fun _ _ _ _ _ => ce_call (ok_is_between fc) hr (by decide) rfl (oa_cons (oe_var 3) (oa_cons (oe (ce_int)) (oa_cons (oe (ce_op o_sub (oe_var 1) (oe (ce_int)))) (oa_nil))))))) (oa_nil)))))))) (css_nil)) (css_cons (cs_if (CW.ct (cw_or (ct_cmp (o_notIn hr) (oe (ce_ix (ix_any hr) (oe_var 2) (oe (ce_int)))) (oe (ce_tup (oa_cons (oe (ce_str)) (oa_cons (oe (ce_str)) (oa_cons (oe (ce_str)) (oa_nil))))))) (cw_or1 (ct_not (ct_val (ce_call (ok_is_between fc) hr (by decide) rfl (oa_cons (oe (ce_ix (ix_any hr) (oe_var 2) (oe (ce_int)))) (oa_cons (oe (ce_int)) (oa_cons (oe (ce_op o_sub (oe_var 1) (oe (ce_int)))) (oa_nil)))))))))) (css_one (cs_ret (ce_bl))) (css_nil)) (css_one (cs_ret (ce_call (ok_is_between fc) hr (by decide) rfl (oa_cons (oe (ce_ix (ix_any hr) (oe_var 2) (oe (ce_int)))) (oa_cons (oe (ce_int)) (oa_cons (oe (ce_op o_sub (oe (ce_ifExp (ct_cmp (o_eq hr) (oe (ce_ix (ix_any hr) (oe_var 2) (oe (ce_int)))) (oe (ce_str))) (ce_fld fc.cls fc.noat_size (oe_var 0)) (ce_move 1))) (oe (ce_int)))) (oa_nil)))))))))
theorem ok_is_atom_of (fc : Fc P w K mg base C) : Fd P w K mg base 3 "is_atom_of" 3 (phi_is_atom_of C) := ⟨let ⟨f, fd, ok, kp, F, hm⟩ := fo_is_atom_of fc; ⟨f, fd, ["book", "many", "value"], ok, hm, kp, F.bindsN (fun kV doc pm an cdv ct us hl => match us, hl with | [_, _, _], _ => rfl)⟩⟩
theorem fo_is_conjunction (fc : Fc P w K mg base C) : ∃ f fd, FnOk P w K mg base CX0 4 f fd ["book", "value"] (spF K 2 (phi_is_conjunction C)) ∧ PySem.W.keepIn K (.ref f) = true ∧ FunD K "is_conjunction" "is_conjunction" (defArgs sis_conjunction) (defBody sis_conjunction) (defScope sis_conjunction) [] [] f fd ∧ mg "is_conjunction" = some (.ref f) := by
  obtain ⟨f, fd, F, hm⟩ := fc.f_is_conjunction
  have hN : (["book", "value", "atom"] : List Str).Nodup := by decide
  refine ⟨f, fd, fn_ok (k := 3) F (Q.fnScope_by (N := ["book", "value", "atom"]) (P := ["book", "value"]) (by decide +kernel)) (fun cdv A outer s H E hr => ?_), F.kp, F, hm⟩
  exact css_cons (cs_expr (ce_call (ok_check_book fc) hr (by decide) rfl (oa_cons (oe_var 0) (oa_nil)))) (css_cons (cs_if (CW.ct (cw_or (ct_not (ct_val (ce_call (ok_is_tuple_of fc) hr (by decide) rfl (oa_cons (oe_var 1) (oa_cons (oe (ce_int)) (oa_nil)))))) (cw_or (ct_not (ct_val (ce_call (ok_is_between fc) hr (by decide) rfl (oa_cons (oe (ce_ix (ix_any hr) (oe_var 1) (oe (ce_int)))) (oa_cons (oe (ce_int)) (oa_cons (oe (ce_gint fc.k_MOST_VARIABLES_queries rfl)) (oa_nil))))))) (cw_or1 (ct_not (ct_val (ce_call (ok_is_list fc) hr (by decide) rfl (oa_cons (oe (ce_ix (ix_any hr) (oe_var 1) (oe (ce_int)))) (oa_nil))))))))) (css_one (cs_ret (ce_bl))) (css_nil)) (css_one (cs_ret (ce_and (ce_cmp o_le (oe (ce_callB c_len rfl fc.b_len (by decide +kernel) (oa_cons (oe (ce_ix (ix_any hr) (oe_var 1) (oe (ce_int)))) (oa_nil)))) (oe (ce_gint fc.k_MOST_ATOMS_queries rfl))) (ce_one (ce_callB (c_all rfl) rfl fc.b_all (by decide +kernel) (oa_cons (oe (ce_lc [("atom", 2)] rfl hN (ie_seq (oe (ce_ix (ix_any hr) (oe_var 1) (oe (ce_int))))) (blkOk_by (by kernel_rfl)) (fun _ _ _ _ _ => g_name 2 hN) (fun _ _ _ _ _ => ot_nil) (fun _ _ _ _ _ => ce_call (ok_is_atom_of fc) hr (by decide) rfl (oa_cons (oe_var 0) (oa_cons (oe (ce_ix (ix_any hr) (oe_var 1) (oe (ce_int)))) (oa_cons (oe_var 2) (oa_nil))))))) (oa_nil))))))))
theorem ok_is_conjunction (fc : Fc P w K mg base C) : Fd P w K mg base 4 "is_conjunction" 2 (phi_is_conjunction C) := ⟨let ⟨f, fd, ok, kp, F, hm⟩ := fo_is_conjunction fc; ⟨f, fd, ["book", "value"], ok, hm, kp, F.bindsN (fun kV doc pm an cdv ct us hl => match us, hl with | [_, _], _ => rfl)⟩⟩
theorem fo_is_wish_list (fc : Fc P w K mg base C) : ∃ f fd, FnOk P w K mg base CX0 5 f fd ["book", "value"] (spF K 2 (phi_is_wish_list C)) ∧ PySem.W.keepIn K (.ref f) = true ∧ FunD K "is_wish_list" "is_wish_list" (defArgs sis_wish_list) (defBody sis_wish_list) (defScope sis_wish_list) [] [] f fd ∧ mg "is_wish_list" = some (.ref f) := by
  obtain ⟨f, fd, F, hm⟩ := fc.f_is_wish_list
  have hN : (["book", "value", "atom"] : List Str).Nodup := by decide
  refine ⟨f, fd, fn_ok (k := 4) F (Q.fnScope_by (N := ["book", "value", "atom"]) (P := ["book", "value"]) (by decide +kernel)) (fun cdv A outer s H E hr => ?_), F.kp, F, hm⟩
  exact css_cons (cs_if (CW.ct (cw_or (ct_not (ct_val (ce_call (ok_is_conjunction fc) hr (by decide) rfl (oa_cons (oe_var 0) (oa_cons (oe_var 1) (oa_nil)))))) (cw_or (ct_cmp o_gt (oe (ce_ix (ix_any hr) (oe_var 1) (oe (ce_int)))) (oe (ce_gint fc.k_MOST_VARIABLES_wishes rfl))) (cw_or1 (ct_cmp o_gt (oe (ce_callB c_len rfl fc.b_len (by decide +kernel) (oa_cons (oe (ce_ix (ix_any hr) (oe_var 1) (oe (ce_int)))) (oa_nil)))) (oe (ce_gint fc.k_MOST_ATOMS_wishes rfl))))))) (css_one (cs_ret (ce_bl))) (css_nil)) (css_one (cs_ret (ce_callB (c_all rfl) rfl fc.b_all (by decide +kernel) (oa_cons (oe (ce_lc [("atom", 2)] rfl hN (ie_seq (oe (ce_ix (ix_any hr) (oe_var 1) (oe (ce_int))))) (blkOk_by (by kernel_rfl)) (fun _ _ _ _ _ => g_name 2 hN) (fun _ _ _ _ _ => ot_nil) (fun _ _ _ _ _ => ce_cmp (o_eq hr) (oe (ce_ix (ix_any hr) (oe_var 2) (oe (ce_int)))) (oe (ce_str))))) (oa_nil)))))
theorem ok_is_wish_list (fc : Fc P w K mg base C) : Fd P w K mg base 5 "is_wish_list" 2 (phi_is_wish_list C) := ⟨let ⟨f, fd, ok, kp, F, hm⟩ := fo_is_wish_list fc; ⟨f, fd, ["book", "value"], ok, hm, kp, F.bindsN (fun kV doc pm an cdv ct us hl => match us, hl with | [_, _], _ => rfl)⟩⟩
theorem fo_check_wishes (fc : Fc P w K mg base C) : ∃ f fd, FnOk P w K mg base CX0 6 f fd ["book", "wishes"] (spF K 2 (phi_check_wishes C)) ∧ PySem.W.keepIn K (.ref f) = true ∧ FunD K "check_wishes" "check_wishes" (defArgs scheck_wishes) (defBody scheck_wishes) (defScope scheck_wishes) [] [] f fd ∧ mg "check_wishes" = some (.ref f) := by
  obtain ⟨f, fd, F, hm⟩ := fc.f_check_wishes
  have hN : (["book", "wishes"] : List Str).Nodup := by decide
  refine ⟨f, fd, fn_ok (k := 5) F (Q.fnScope_by (N := ["book", "wishes"]) (P := ["book", "wishes"]) (by decide +kernel)) (fun cdv A outer s H E hr => ?_), F.kp, F, hm⟩
  exact css_cons (cs_expr (ce_call (ok_check_book fc) hr (by decide) rfl (oa_cons (oe_var 0) (oa_nil)))) (css_one (cs_if (ct_not (ct_val (ce_call (ok_is_wish_list fc) hr (by decide) rfl (oa_cons (oe_var 0) (oa_cons (oe_var 1) (oa_nil)))))) (css_one (cs_no)) (css_nil)))
theorem ok_check_wishes (fc : Fc P w K mg base C) : Fd P w K mg base 6 "check_wishes" 2 (phi_check_wishes C) := ⟨let ⟨f, fd, ok, kp, F, hm⟩ := fo_check_wishes fc; ⟨f, fd, ["book", "wishes"], ok, hm, kp, F.bindsN (fun kV doc pm an cdv ct us hl => match us, hl with | [_, _], _ => rfl)⟩⟩
theorem fo_Book_rows (fc : Fc P w K mg base C) : ∃ f fd, FnOk P w K mg base CX0 2 f fd ["self", "name"] (spF K 2 (phi_Book_rows C)) ∧ PySem.W.keepIn K (.ref f) = true ∧ FunD K "rows" "Book.rows" (defArgs sBook_rows) (defBody sBook_rows) (defScope sBook_rows) [] [] f fd ∧ Meth K C "rows" f := by
  obtain ⟨f, fd, F, hm⟩ := fc.f_Book_rows
  have hN : (["self", "name"] : List Str).Nodup := by decide
  refine ⟨f, fd, fn_ok (k := 1) F (Q.fnScope_by (N := ["self", "name"]) (P := ["self", "name"]) (by decide +kernel)) (fun cdv A outer s H E hr => ?_), F.kp, F, hm⟩
  exact css_one (cs_ret (ce_ix (ix_any hr) (oe (ce_meth (ok_Book_target fc) hr (by decide) (oe_var 0) (oa_cons (oe_var 1) (oa_nil)))) (oe (ce_int))))
theorem ok_Book_rows (fc : Fc P w K mg base C) : Md P w K mg base 2 C "rows" 2 (phi_Book_rows C) := ⟨let ⟨f, fd, ok, kp, F, hm⟩ := fo_Book_rows fc; ⟨f, fd, ["self", "name"], fc.cls, hm, ok, F.bindsN (fun kV doc pm an cdv ct us hl => match us, hl with | [_, _], _ => rfl)⟩⟩
theorem fo_can_have (fc : Fc P w K mg base C) : ∃ f fd, FnOk P w K mg base CX0 1 f fd ["left", "atom", "row"] (spF K 3 (phi_can_have C)) ∧ PySem.W.keepIn K (.ref f) = true ∧ FunD K "can_have" "can_have" (defArgs scan_have) (defBody scan_have) (defScope scan_have) [] [] f fd ∧ mg "can_have" = some (.ref f) := by
  obtain ⟨f, fd, F, hm⟩ := fc.f_can_have
  have hN : (["left", "atom", "row", "x", "thing"] : List Str).Nodup := by decide
  refine ⟨f, fd, fn_ok (k := 0) F (Q.fnScope_by (N := ["left", "atom", "row", "x", "thing"]) (P := ["left", "atom", "row"]) (by decide +kernel)) (fun cdv A outer s H E hr => ?_), F.kp, F, hm⟩
  exact css_one (cs_ret (ce_callB (c_all rfl) rfl fc.b_all (by decide +kernel) (oa_cons (oe (ce_lc [("x", 3), ("thing", 4)] rfl hN (ie_zip rfl fc.b_zip (oa_cons (oe (ce_ix (ix_any hr) (oe_var 1) (oe (ce_int)))) (oa_cons (oe (ce_var 2)) (oa_nil)))) (blkOk_by (by kernel_rfl)) (fun _ _ _ _ _ => g_tup rfl (g_cons (g_name 3 hN) (g_cons (g_name 4 hN) (g_nil)))) (fun _ _ _ _ _ => ot_nil) (fun _ _ _ _ _ => ce_cmp (o_in hr) (oe_var 4) (oe (ce_ix (ix_any hr) (oe_var 0) (oe_var 3)))))) (oa_nil))))
theorem ok_can_have (fc : Fc P w K mg base C) : Fd P w K mg base 1 "can_have" 3 (phi_can_have C) := ⟨let ⟨f, fd, ok, kp, F, hm⟩ := fo_can_have fc; ⟨f, fd, ["left", "atom", "row"], ok, hm, kp, F.bindsN (fun kV doc pm an cdv ct us hl => match us, hl with | [_, _, _], _ => rfl)⟩⟩
theorem fo_next_strike (fc : Fc P w K mg base C) : ∃ f fd, FnOk P w K mg base CX0 3 f fd ["book", "wishes", "left"] (spF K 3 (phi_next_strike C)) ∧ PySem.W.keepIn K (.ref f) = true ∧ FunD K "next_strike" "next_strike" (defArgs snext_strike) (defBody snext_strike) (defScope snext_strike) [] [] f fd ∧ mg "next_strike" = some (.ref f) := by
  obtain ⟨f, fd, F, hm⟩ := fc.f_next_strike
  have hN : (["book", "wishes", "left", "index", "atom", "rows", "place", "x", "kept", "out", "row", "thing"] : List Str).Nodup := by decide
  refine ⟨f, fd, fn_ok (k := 2) F (Q.fnScope_by (N := ["book", "wishes", "left", "index", "atom", "rows", "place", "x", "kept", "out", "row", "thing"]) (P := ["book", "wishes", "left"]) (by decide +kernel)) (fun cdv A outer s H E hr => ?_), F.kp, F, hm⟩
  exact css_cons (cs_for PassesOwn.never rfl (ie_enum rfl fc.b_enumerate (oa_cons (oe (ce_ix (ix_any hr) (oe_var 1) (oe (ce_int)))) (oa_nil))) (g_tup rfl (g_cons (g_name 3 hN) (g_cons (g_name 4 hN) (g_nil)))) (css_cons (cs_setLc 5 [("row", 10)] rfl hN (sw_true rfl rfl rfl rfl) (ie_seq (oe (ce_meth (ok_Book_rows fc) hr (by decide) (oe_var 0) (oa_cons (oe (ce_ix (ix_any hr) (oe_var 4) (oe (ce_int)))) (oa_nil))))) (blkOk_by (by kernel_rfl)) (fun _ _ _ _ _ => g_name 10 hN) (fun _ _ _ _ _ => ot_one (ct_val (ce_call (ok_can_have fc) hr (by decide) rfl (oa_cons (oe_var 2) (oa_cons (oe_var 4) (oa_cons (oe (ce_var 10)) (oa_nil))))))) (fun _ _ _ _ _ => ce_move 10)) (css_one (cs_for PassesOwn.never rfl (ie_enum rfl fc.b_enumerate (oa_cons (oe (ce_ix (ix_any hr) (oe_var 4) (oe (ce_int)))) (oa_nil))) (g_tup rfl (g_cons (g_name 6 hN) (g_cons (g_name 7 hN) (g_nil)))) (css_cons (cs_set 8 hN (ce_lc [("row", 10)] rfl hN (ie_seq (oe (ce_var 5))) (blkOk_by (by kernel_rfl)) (fun _ _ _ _ _ => g_name 10 hN) (fun _ _ _ _ _ => ot_nil) (fun _ _ _ _ _ => ce_ix (ix_any hr) (oe_var 10) (oe_var 6)))) (css_cons (cs_setLc 9 [("thing", 11)] rfl hN (sw_true rfl rfl rfl rfl) (ie_seq (oe (ce_ix (ix_any hr) (oe_var 2) (oe_var 7)))) (blkOk_by (by kernel_rfl)) (fun _ _ _ _ _ => g_name 11 hN) (fun _ _ _ _ _ => ot_one (ct_cmp (o_notIn hr) (oe_var 11) (oe_var 8))) (fun _ _ _ _ _ => ce_move 11)) (css_one (cs_if (ct_cmp (o_ne hr) (oe_var 9) (oe (ce_lst (oa_nil)))) (css_one (cs_ret (ce_tup (oa_cons (oe (ce_var 7)) (oa_cons (oe (ce_ix (ix_any hr) (oe_var 9) (oe (ce_int)))) (oa_cons (oe (ce_var 3)) (oa_nil))))))) (css_nil))))))))) (css_one (cs_ret (ce_non)))
theorem ok_next_strike (fc : Fc P w K mg base C) : Fd P w K mg base 3 "next_strike" 3 (phi_next_strike C) := ⟨let ⟨f, fd, ok, kp, F, hm⟩ := fo_next_strike fc; ⟨f, fd, ["book", "wishes", "left"], ok, hm, kp, F.bindsN (fun kV doc pm an cdv ct us hl => match us, hl with | [_, _, _], _ => rfl)⟩⟩
theorem ok_struck_list (fc : Fc P w K mg base C) : FdP P w K mg base 4 "struck_list" 2 (phi_struck_list C) := by
  obtain ⟨f, fd, F, hm⟩ := fc.f_struck_list
  have hN : (["book", "wishes", "left", "found", "strike", "x", "thing"] : List Str).Nodup := by decide
  refine ⟨f, fd, ["book", "wishes"], fn_okP (k := 3) 3 2 3 F (Q.fnScope_by (N := ["book", "wishes", "left", "found", "strike", "x", "thing"]) (P := ["book", "wishes"]) (by decide +kernel)) rfl rfl rfl (by first | exact Or.inl rfl | exact Or.inr (Or.inl rfl)) (by first | exact Or.inl rfl | exact Or.inr (Or.inl rfl)) (fun cdv A outer s H E hr => ?_), hm, F.kp, F.bindsN (fun kV doc pm an cdv ct us hl => match us, hl with | [_, _], _ => rfl)⟩
  exact css_cons (cs_par 2 3 rfl hN (ce_lc [("x", 5)] rfl hN (ie_range1 rfl fc.b_range (oa_cons (oe (ce_ix (ix_any hr) (oe_var 1) (oe (ce_int)))) (oa_nil))) (blkOk_by (by kernel_rfl)) (fun _ _ _ _ _ => g_name 5 hN) (fun _ _ _ _ _ => ot_nil) (fun _ _ _ _ _ => ce_listRg1 rfl rfl fc.b_list rfl fc.b_range (oe (ce_fld fc.cls fc.noat_size (oe_var 0))))) (ce_lst (oa_nil))) (css_cons (cs_set 4 hN (ce_call (ok_next_strike fc) hr (by decide) rfl (oa_cons (oe_var 0) (oa_cons (oe_var 1) (oa_cons (oe_var 2) (oa_nil)))))) (css_one (cs_while PassesOwn.never (ct_cmp o_isNN (oe_var 4) (oe (ce_non))) (css_cons (cs_expr (ce_append 3 (oa_cons (oe (ce_var 4)) (oa_nil)))) (css_cons (cs_asg (g_sub 2 hr (oe (ce_ix (ix_any hr) (oe_var 4) (oe (ce_int))))) (ce_lc [("thing", 6)] rfl hN (ie_seq (oe (ce_ix (ix_any hr) (oe_var 2) (oe (ce_ix (ix_any hr) (oe_var 4) (oe (ce_int))))))) (blkOk_by (by kernel_rfl)) (fun _ _ _ _ _ => g_name 6 hN) (fun _ _ _ _ _ => ot_one (ct_cmp (o_ne hr) (oe_var 6) (oe (ce_ix (ix_any hr) (oe_var 4) (oe (ce_int)))))) (fun _ _ _ _ _ => ce_move 6))) (css_one (cs_set 4 hN (ce_call (ok_next_strike fc) hr (by decide) rfl (oa_cons (oe_var 0) (oa_cons (oe_var 1) (oa_cons (oe_var 2) (oa_nil))))))))))))
theorem fo_strikes (fc : Fc P w K mg base C) : ∃ f fd, FnOk P w K mg base CX0 7 f fd ["book", "wishes"] (spF K 2 (phi_strikes C)) ∧ PySem.W.keepIn K (.ref f) = true ∧ FunD K "strikes" "strikes" (defArgs sstrikes) (defBody sstrikes) (defScope sstrikes) [] [] f fd ∧ mg "strikes" = some (.ref f) := by
  obtain ⟨f, fd, F, hm⟩ := fc.f_strikes
  have hN : (["book", "wishes"] : List Str).Nodup := by decide
  refine ⟨f, fd, fn_ok (k := 6) F (Q.fnScope_by (N := ["book", "wishes"]) (P := ["book", "wishes"]) (by decide +kernel)) (fun cdv A outer s H E hr => ?_), F.kp, F, hm⟩
  exact css_cons (cs_expr (ce_call (ok_check_wishes fc) hr (by decide) rfl (oa_cons (oe_var 0) (oa_cons (oe_var 1) (oa_nil))))) (css_one (cs_ret (ce_callP (ok_struck_list fc) hr (by decide) rfl (oa_cons (oe_var 0) (oa_cons (oe_var 1) (oa_nil))))))
theorem ok_strikes (fc : Fc P w K mg base C) : Fd P w K mg base 7 "strikes" 2 (phi_strikes C) := ⟨let ⟨f, fd, ok, kp, F, hm⟩ := fo_strikes fc; ⟨f, fd, ["book", "wishes"], ok, hm, kp, F.bindsN (fun kV doc pm an cdv ct us hl => match us, hl with | [_, _], _ => rfl)⟩⟩
theorem okk_strikes_wishes_book (fc : Fc P w K mg base C) : FdK P w K mg base 7 "strikes" 2 (phi_strikes C) ["wishes", "book"] [1, 0] := ⟨let ⟨f, fd, ok, kp, F, hm⟩ := fo_strikes fc; ⟨f, fd, ["book", "wishes"], ok, hm, kp, fun s ws hl => F.bindsK ["wishes", "book"] [1, 0] (fun kV doc pm an cdv ct ws hl => match ws, hl with | [_, _], _ => rfl) s ws hl⟩⟩
theorem fo__law_ways (fc : Fc P w K mg base C) : ∃ f fd, FnOk P w K mg base CX0 1 f fd ["book", "wishes", "left"] (spF K 3 (phi__law_ways C)) ∧ PySem.W.keepIn K (.ref f) = true ∧ FunD K "_law_ways" "_law_ways" (defArgs s_law_ways) (defBody s_law_ways) (defScope s_law_ways) [] [] f fd ∧ mg "_law_ways" = some (.ref f) := by
  obtain ⟨f, fd, F, hm⟩ := fc.f__law_ways
  have hN : (["book", "wishes", "left", "found", "index", "word", "name", "places", "rows", "c", "row", "thing"] : List Str).Nodup := by decide
  refine ⟨f, fd, fn_ok (k := 0) F (Q.fnScope_by (N := ["book", "wishes", "left", "found", "index", "word", "name", "places", "rows", "c", "row", "thing"]) (P := ["book", "wishes", "left"]) (by decide +kernel)) (fun cdv A outer s H E hr => ?_), F.kp, F, hm⟩
  exact css_cons (cs_set 3 hN (ce_lst (oa_nil))) (css_cons (cs_for PassesOwn.never rfl (ie_enum rfl fc.b_enumerate (oa_cons (oe (ce_ix (ix_any hr) (oe_var 1) (oe (ce_int)))) (oa_nil))) (g_tup rfl (g_cons (g_name 4 hN) (g_cons (g_tup rfl (g_cons (g_name 5 hN) (g_cons (g_name 6 hN) (g_cons (g_name 7 hN) (g_nil))))) (g_nil)))) (css_cons (cs_set 8 hN (ce_lc [("row", 10)] rfl hN (ie_seq (oe (ce_ix (ix_any hr) (oe (ce_ix (ix_any hr) (oe (ce_ix (ix_any hr) (oe_var 0) (oe (ce_int)))) (oe_var 6))) (oe (ce_int))))) (blkOk_by (by kernel_rfl)) (fun _ _ _ _ _ => g_name 10 hN) (fun _ _ _ _ _ => ot_one (ct_cmp (o_eq hr) (oe (ce_lc [("c", 9)] rfl hN (ie_range1 rfl fc.b_range (oa_cons (oe (ce_callB c_len rfl fc.b_len (by decide +kernel) (oa_cons (oe_var 10) (oa_nil)))) (oa_nil))) (blkOk_by (by kernel_rfl)) (fun _ _ _ _ _ => g_name 9 hN) (fun _ _ _ _ _ => ot_one (ct_cmp (o_notIn hr) (oe (ce_ix (ix_any hr) (oe_var 10) (oe_var 9))) (oe (ce_ix (ix_any hr) (oe_var 2) (oe (ce_ix (ix_any hr) (oe_var 7) (oe_var 9))))))) (fun _ _ _ _ _ => ce_move 9))) (oe (ce_lst (oa_nil))))) (fun _ _ _ _ _ => ce_move 10))) (css_one (cs_for PassesOwn.never rfl (ie_range1 rfl fc.b_range (oa_cons (oe (ce_callB c_len rfl fc.b_len (by decide +kernel) (oa_cons (oe_var 7) (oa_nil)))) (oa_nil))) (g_name 9 hN) (css_one (cs_expr (ce_extend 3 (oa_cons (oe (ce_lc [("thing", 11)] rfl hN (ie_seq (oe (ce_ix (ix_any hr) (oe_var 2) (oe (ce_ix (ix_any hr) (oe_var 7) (oe_var 9)))))) (blkOk_by (by kernel_rfl)) (fun _ _ _ _ _ => g_name 11 hN) (fun _ _ _ _ _ => ot_one (ct_cmp (o_eq hr) (oe (ce_lc [("row", 10)] rfl hN (ie_seq (oe (ce_var 8))) (blkOk_by (by kernel_rfl)) (fun _ _ _ _ _ => g_name 10 hN) (fun _ _ _ _ _ => ot_one (ct_cmp (o_eq hr) (oe (ce_ix (ix_any hr) (oe_var 10) (oe_var 9))) (oe_var 11))) (fun _ _ _ _ _ => ce_move 10))) (oe (ce_lst (oa_nil))))) (fun _ _ _ _ _ => ce_tup (oa_cons (oe (ce_ix (ix_any hr) (oe_var 7) (oe_var 9))) (oa_cons (oe (ce_var 11)) (oa_cons (oe (ce_var 4)) (oa_nil))))))) (oa_nil))))))))) (css_one (cs_ret (ce_move 3))))
theorem ok__law_ways (fc : Fc P w K mg base C) : Fd P w K mg base 1 "_law_ways" 3 (phi__law_ways C) := ⟨let ⟨f, fd, ok, kp, F, hm⟩ := fo__law_ways fc; ⟨f, fd, ["book", "wishes", "left"], ok, hm, kp, F.bindsN (fun kV doc pm an cdv ct us hl => match us, hl with | [_, _, _], _ => rfl)⟩⟩
theorem fo__law_behind (fc : Fc P w K mg base C) : ∃ f fd, FnOk P w K mg base CX0 2 f fd ["book", "wishes", "some"] (spF K 3 (phi__law_behind C)) ∧ PySem.W.keepIn K (.ref f) = true ∧ FunD K "_law_behind" "_law_behind" (defArgs s_law_behind) (defBody s_law_behind) (defScope s_law_behind) [] [] f fd ∧ mg "_law_behind" = some (.ref f) := by
  obtain ⟨f, fd, F, hm⟩ := fc.f__law_behind
  have hN : (["book", "wishes", "some", "left", "one", "x", "thing"] : List Str).Nodup := by decide
  refine ⟨f, fd, fn_ok (k := 1) F (Q.fnScope_by (N := ["book", "wishes", "some", "left", "one", "x", "thing"]) (P := ["book", "wishes", "some"]) (by decide +kernel)) (fun cdv A outer s H E hr => ?_), F.kp, F, hm⟩
  exact css_cons (cs_setLc 3 [("x", 5)] rfl hN (sw_true rfl rfl rfl rfl) (ie_range1 rfl fc.b_range (oa_cons (oe (ce_ix (ix_any hr) (oe_var 1) (oe (ce_int)))) (oa_nil))) (blkOk_by (by kernel_rfl)) (fun _ _ _ _ _ => g_name 5 hN) (fun _ _ _ _ _ => ot_nil) (fun _ _ _ _ _ => ce_listRg1 rfl rfl fc.b_list rfl fc.b_range (oe (ce_ix (ix_any hr) (oe_var 0) (oe (ce_int)))))) (css_cons (cs_if (ct_not (ct_val (ce_isi2 (oe_var 2) rfl fc.b_isinstance rfl fc.b_list (by decide +kernel) rfl fc.b_tuple (by decide +kernel)))) (css_one (cs_ret (ce_non))) (css_nil)) (css_cons (cs_for PassesOwn.never rfl (ie_seq (oe (ce_var 2))) (g_name 4 hN) (css_cons (cs_if (CW.ct (cw_or (ct_not (ct_val (ce_isi (oe_var 4) rfl fc.b_isinstance rfl fc.b_tuple (by decide +kernel)))) (cw_or (ct_cmp (o_ne hr) (oe (ce_callB c_len rfl fc.b_len (by decide +kernel) (oa_cons (oe_var 4) (oa_nil)))) (oe (ce_int))) (cw_or (ct_cmp (o_ne hr) (oe (ce_lc [("x", 5)] rfl hN (ie_seq (oe (ce_var 4))) (blkOk_by (by kernel_rfl)) (fun _ _ _ _ _ => g_name 5 hN) (fun _ _ _ _ _ => ot_one (CW.ct (cw_or (ct_not (ct_val (ce_isi (oe_var 5) rfl fc.b_isinstance rfl fc.b_int (by decide +kernel)))) (cw_or1 (ct_val (ce_isi (oe_var 5) rfl fc.b_isinstance rfl fc.b_bool (by decide +kernel))))))) (fun _ _ _ _ _ => ce_move 5))) (oe (ce_lst (oa_nil)))) (cw_or1 (ct_cmp (o_notIn hr) (oe_var 4) (oe (ce_call (ok__law_ways fc) hr (by decide) rfl (oa_cons (oe_var 0) (oa_cons (oe_var 1) (oa_cons (oe_var 3) (oa_nil)))))))))))) (css_one (cs_ret (ce_non))) (css_nil)) (css_one (cs_asg (g_sub 3 hr (oe (ce_ix (ix_any hr) (oe_var 4) (oe (ce_int))))) (ce_lc [("thing", 6)] rfl hN (ie_seq (oe (ce_ix (ix_any hr) (oe_var 3) (oe (ce_ix (ix_any hr) (oe_var 4) (oe (ce_int))))))) (blkOk_by (by kernel_rfl)) (fun _ _ _ _ _ => g_name 6 hN) (fun _ _ _ _ _ => ot_one (ct_cmp (o_ne hr) (oe_var 6) (oe (ce_ix (ix_any hr) (oe_var 4) (oe (ce_int)))))) (fun _ _ _ _ _ => ce_move 6)))))) (css_one (cs_ret (ce_move 3)))))
theorem ok__law_behind (fc : Fc P w K mg base C) : Fd P w K mg base 2 "_law_behind" 3 (phi__law_behind C) := ⟨let ⟨f, fd, ok, kp, F, hm⟩ := fo__law_behind fc; ⟨f, fd, ["book", "wishes", "some"], ok, hm, kp, F.bindsN (fun kV doc pm an cdv ct us hl => match us, hl with | [_, _, _], _ => rfl)⟩⟩
theorem fo__law_all_struck (fc : Fc P w K mg base C) : ∃ f fd, FnOk P w K mg base CX0 2 f fd ["box", "book", "wishes"] (spF K 3 (phi__law_all_struck C)) ∧ PySem.W.keepIn K (.ref f) = true ∧ FunD K "_law_all_struck" "_law_all_struck" (defArgs s_law_all_struck) (defBody s_law_all_struck) (defScope s_law_all_struck) [] [] f fd ∧ mg "_law_all_struck" = some (.ref f) := by
  obtain ⟨f, fd, F, hm⟩ := fc.f__law_all_struck
  have hN : (["box", "book", "wishes", "left", "found", "turn", "ways", "one", "x", "thing"] : List Str).Nodup := by decide
  refine ⟨f, fd, fn_ok (k := 1) F (Q.fnScope_by (N := ["box", "book", "wishes", "left", "found", "turn", "ways", "one", "x", "thing"]) (P := ["box", "book", "wishes"]) (by decide +kernel)) (fun cdv A outer s H E hr => ?_), F.kp, F, hm⟩
  exact css_cons (cs_par 3 4 rfl hN (ce_lc [("x", 8)] rfl hN (ie_range1 rfl fc.b_range (oa_cons (oe (ce_ix (ix_any hr) (oe_var 2) (oe (ce_int)))) (oa_nil))) (blkOk_by (by kernel_rfl)) (fun _ _ _ _ _ => g_name 8 hN) (fun _ _ _ _ _ => ot_nil) (fun _ _ _ _ _ => ce_listRg1 rfl rfl fc.b_list rfl fc.b_range (oe (ce_ix (ix_any hr) (oe_var 1) (oe (ce_int)))))) (ce_lst (oa_nil))) (css_cons (cs_for PassesOwn.never rfl (ie_range1 rfl fc.b_range (oa_cons (oe (ce_op o_add (oe (ce_op o_mul (oe (ce_ix (ix_any hr) (oe_var 1) (oe (ce_int)))) (oe (ce_ix (ix_any hr) (oe_var 2) (oe (ce_int)))))) (oe (ce_int)))) (oa_nil))) (g_name 5 hN) (css_cons (cs_set 6 hN (ce_call (ok__law_ways fc) hr (by decide) rfl (oa_cons (oe_var 1) (oa_cons (oe_var 2) (oa_cons (oe_var 3) (oa_nil)))))) (css_cons (cs_if (ct_cmp (o_eq hr) (oe_var 6) (oe (ce_lst (oa_nil)))) (css_one (cs_break)) (css_nil)) (css_cons (cs_set 7 hN (ce_ix (ix_any hr) (oe_var 6) (oe (ce_call (ok__law_take fc) hr (by decide) rfl (oa_cons (oe_var 0) (oa_cons (oe (ce_callB c_len rfl fc.b_len (by decide +kernel) (oa_cons (oe_var 6) (oa_nil)))) (oa_nil))))))) (css_cons (cs_expr (ce_append 4 (oa_cons (oe (ce_var 7)) (oa_nil)))) (css_one (cs_asg (g_sub 3 hr (oe (ce_ix (ix_any hr) (oe_var 7) (oe (ce_int))))) (ce_lc [("thing", 9)] rfl hN (ie_seq (oe (ce_ix (ix_any hr) (oe_var 3) (oe (ce_ix (ix_any hr) (oe_var 7) (oe (ce_int))))))) (blkOk_by (by kernel_rfl)) (fun _ _ _ _ _ => g_name 9 hN) (fun _ _ _ _ _ => ot_one (ct_cmp (o_ne hr) (oe_var 9) (oe (ce_ix (ix_any hr) (oe_var 7) (oe (ce_int)))))) (fun _ _ _ _ _ => ce_move 9))))))))) (css_one (cs_ret (ce_tup (oa_cons (oe (ce_var 4)) (oa_cons (oe (ce_var 3)) (oa_nil)))))))
theorem ok__law_all_struck (fc : Fc P w K mg base C) : Fd P w K mg base 2 "_law_all_struck" 3 (phi__law_all_struck C) := ⟨let ⟨f, fd, ok, kp, F, hm⟩ := fo__law_all_struck fc; ⟨f, fd, ["box", "book", "wishes"], ok, hm, kp, F.bindsN (fun kV doc pm an cdv ct us hl => match us, hl with | [_, _, _], _ => rfl)⟩⟩
theorem fo_is_strike (fc : Fc P w K mg base C) : ∃ f fd, FnOk P w K mg base CX0 3 f fd ["book", "wishes", "left", "value"] (spF K 4 (phi_is_strike C)) ∧ PySem.W.keepIn K (.ref f) = true ∧ FunD K "is_strike" "is_strike" (defArgs sis_strike) (defBody sis_strike) (defScope sis_strike) [] [] f fd ∧ mg "is_strike" = some (.ref f) := by
  obtain ⟨f, fd, F, hm⟩ := fc.f_is_strike
  have hN : (["book", "wishes", "left", "value", "x", "thing", "index", "atom", "rows", "places", "row", "place", "y"] : List Str).Nodup := by decide
  refine ⟨f, fd, fn_ok (k := 2) F (Q.fnScope_by (N := ["book", "wishes", "left", "value", "x", "thing", "index", "atom", "rows", "places", "row", "place", "y"]) (P := ["book", "wishes", "left", "value"]) (by decide +kernel)) (fun cdv A outer s H E hr => ?_), F.kp, F, hm⟩
  exact css_cons (cs_if (CW.ct (cw_or (ct_not (ct_val (ce_call (ok_is_tuple_of fc) hr (by decide) rfl (oa_cons (oe_var 3) (oa_cons (oe (ce_int)) (oa_nil)))))) (cw_or1 (ct_not (ct_val (ce_call (ok_is_between fc) hr (by decide) rfl (oa_cons (oe (ce_ix (ix_any hr) (oe_var 3) (oe (ce_int)))) (oa_cons (oe (ce_int)) (oa_cons (oe (ce_op o_sub (oe (ce_ix (ix_any hr) (oe_var 1) (oe (ce_int)))) (oe (ce_int)))) (oa_nil)))))))))) (css_one (cs_ret (ce_bl))) (css_nil)) (css_cons (cs_if (CW.ct (cw_or (ct_not (ct_val (ce_call (ok_is_between fc) hr (by decide) rfl (oa_cons (oe (ce_ix (ix_any hr) (oe_var 3) (oe (ce_int)))) (oa_cons (oe (ce_int)) (oa_cons (oe (ce_op o_sub (oe (ce_fld fc.cls fc.noat_size (oe_var 0))) (oe (ce_int)))) (oa_nil))))))) (cw_or1 (ct_not (ct_val (ce_call (ok_is_between fc) hr (by decide) rfl (oa_cons (oe (ce_ix (ix_any hr) (oe_var 3) (oe (ce_int)))) (oa_cons (oe (ce_int)) (oa_cons (oe (ce_op o_sub (oe (ce_callB c_len rfl fc.b_len (by decide +kernel) (oa_cons (oe (ce_ix (ix_any hr) (oe_var 1) (oe (ce_int)))) (oa_nil)))) (oe (ce_int)))) (oa_nil)))))))))) (css_one (cs_ret (ce_bl))) (css_nil)) (css_cons (cs_asg (g_tup rfl (g_cons (g_name 4 hN) (g_cons (g_name 5 hN) (g_cons (g_name 6 hN) (g_nil))))) (ce_move 3)) (css_cons (cs_set 7 hN (ce_ix (ix_any hr) (oe (ce_ix (ix_any hr) (oe_var 1) (oe (ce_int)))) (oe_var 6))) (css_cons (cs_if (CW.ct (cw_or (ct_cmp (o_notIn hr) (oe_var 4) (oe (ce_ix (ix_any hr) (oe_var 7) (oe (ce_int))))) (cw_or1 (ct_cmp (o_notIn hr) (oe_var 5) (oe (ce_ix (ix_any hr) (oe_var 2) (oe_var 4))))))) (css_one (cs_ret (ce_bl))) (css_nil)) (css_cons (cs_set 8 hN (ce_lc [("row", 10)] rfl hN (ie_seq (oe (ce_meth (ok_Book_rows fc) hr (by decide) (oe_var 0) (oa_cons (oe (ce_ix (ix_any hr) (oe_var 7) (oe (ce_int)))) (oa_nil))))) (blkOk_by (by kernel_rfl)) (fun _ _ _ _ _ => g_name 10 hN) (fun _ _ _ _ _ => ot_one (ct_val (ce_call (ok_can_have fc) hr (by decide) rfl (oa_cons (oe_var 2) (oa_cons (oe_var 7) (oa_cons (oe (ce_var 10)) (oa_nil))))))) (fun _ _ _ _ _ => ce_move 10))) (css_cons (cs_setLc 9 [("place", 11), ("y", 12)] rfl hN (sw_true rfl rfl rfl rfl) (ie_enum rfl fc.b_enumerate (oa_cons (oe (ce_ix (ix_any hr) (oe_var 7) (oe (ce_int)))) (oa_nil))) (blkOk_by (by kernel_rfl)) (fun _ _ _ _ _ => g_tup rfl (g_cons (g_name 11 hN) (g_cons (g_name 12 hN) (g_nil)))) (fun _ _ _ _ _ => ot_one (ct_cmp (o_eq hr) (oe_var 12) (oe_var 4))) (fun _ _ _ _ _ => ce_move 11)) (css_one (cs_ret (ce_callB (c_any rfl) rfl fc.b_any (by decide +kernel) (oa_cons (oe (ce_lc [("place", 11)] rfl hN (ie_seq (oe (ce_var 9))) (blkOk_by (by kernel_rfl)) (fun _ _ _ _ _ => g_name 11 hN) (fun _ _ _ _ _ => ot_nil) (fun _ _ _ _ _ => ce_cmp (o_notIn hr) (oe_var 5) (oe (ce_lc [("row", 10)] rfl hN (ie_seq (oe (ce_var 8))) (blkOk_by (by kernel_rfl)) (fun _ _ _ _ _ => g_name 10 hN) (fun _ _ _ _ _ => ot_nil) (fun _ _ _ _ _ => ce_ix (ix_any hr) (oe_var 10) (oe_var 11))))))) (oa_nil)))))))))))
theorem ok_is_strike (fc : Fc P w K mg base C) : Fd P w K mg base 3 "is_strike" 4 (phi_is_strike C) := ⟨let ⟨f, fd, ok, kp, F, hm⟩ := fo_is_strike fc; ⟨f, fd, ["book", "wishes", "left", "value"], ok, hm, kp, F.bindsN (fun kV doc pm an cdv ct us hl => match us, hl with | [_, _, _, _], _ => rfl)⟩⟩
theorem fo_is_strikes (fc : Fc P w K mg base C) : ∃ f fd, FnOk P w K mg base CX0 7 f fd ["book", "wishes", "value"] (spF K 3 (phi_is_strikes C)) ∧ PySem.W.keepIn K (.ref f) = true ∧ FunD K "is_strikes" "is_strikes" (defArgs sis_strikes) (defBody sis_strikes) (defScope sis_strikes) [] [] f fd ∧ mg "is_strikes" = some (.ref f) := by
  obtain ⟨f, fd, F, hm⟩ := fc.f_is_strikes
  have hN : (["book", "wishes", "value", "left", "strike", "x", "thing"] : List Str).Nodup := by decide
  refine ⟨f, fd, fn_ok (k := 6) F (Q.fnScope_by (N := ["book", "wishes", "value", "left", "strike", "x", "thing"]) (P := ["book", "wishes", "value"]) (by decide +kernel)) (fun cdv A outer s H E hr => ?_), F.kp, F, hm⟩
  exact css_cons (cs_expr (ce_call (ok_check_wishes fc) hr (by decide) rfl (oa_cons (oe_var 0) (oa_cons (oe_var 1) (oa_nil))))) (css_cons (cs_if (ct_not (ct_val (ce_call (ok_is_list fc) hr (by decide) rfl (oa_cons (oe_var 2) (oa_nil))))) (css_one (cs_ret (ce_bl))) (css_nil)) (css_cons (cs_setLc 3 [("x", 5)] rfl hN (sw_true rfl rfl rfl rfl) (ie_range1 rfl fc.b_range (oa_cons (oe (ce_ix (ix_any hr) (oe_var 1) (oe (ce_int)))) (oa_nil))) (blkOk_by (by kernel_rfl)) (fun _ _ _ _ _ => g_name 5 hN) (fun _ _ _ _ _ => ot_nil) (fun _ _ _ _ _ => ce_listRg1 rfl rfl fc.b_list rfl fc.b_range (oe (ce_fld fc.cls fc.noat_size (oe_var 0))))) (css_cons (cs_for PassesOwn.never rfl (ie_seq (oe (ce_var 2))) (g_name 4 hN) (css_cons (cs_if (ct_not (ct_val (ce_call (ok_is_strike fc) hr (by decide) rfl (oa_cons (oe_var 0) (oa_cons (oe_var 1) (oa_cons (oe_var 3) (oa_cons (oe_var 4) (oa_nil)))))))) (css_one (cs_ret (ce_bl))) (css_nil)) (css_one (cs_asg (g_sub 3 hr (oe (ce_ix (ix_any hr) (oe_var 4) (oe (ce_int))))) (ce_lc [("thing", 6)] rfl hN (ie_seq (oe (ce_ix (ix_any hr) (oe_var 3) (oe (ce_ix (ix_any hr) (oe_var 4) (oe (ce_int))))))) (blkOk_by (by kernel_rfl)) (fun _ _ _ _ _ => g_name 6 hN) (fun _ _ _ _ _ => ot_one (ct_cmp (o_ne hr) (oe_var 6) (oe (ce_ix (ix_any hr) (oe_var 4) (oe (ce_int)))))) (fun _ _ _ _ _ => ce_move 6)))))) (css_one (cs_ret (ce_bl))))))
theorem ok_is_strikes (fc : Fc P w K mg base C) : Fd P w K mg base 7 "is_strikes" 3 (phi_is_strikes C) := ⟨let ⟨f, fd, ok, kp, F, hm⟩ := fo_is_strikes fc; ⟨f, fd, ["book", "wishes", "value"], ok, hm, kp, F.bindsN (fun kV doc pm an cdv ct us hl => match us, hl with | [_, _, _], _ => rfl)⟩⟩
theorem okk_is_strikes_value_wishes_book (fc : Fc P w K mg base C) : FdK P w K mg base 7 "is_strikes" 3 (phi_is_strikes C) ["value", "wishes", "book"] [2, 1, 0] := ⟨let ⟨f, fd, ok, kp, F, hm⟩ := fo_is_strikes fc; ⟨f, fd, ["book", "wishes", "value"], ok, hm, kp, fun s ws hl => F.bindsK ["value", "wishes", "book"] [2, 1, 0] (fun kV doc pm an cdv ct ws hl => match ws, hl with | [_, _, _], _ => rfl) s ws hl⟩⟩
theorem ok__law_same (fc : Fc P w K mg base C) : ∀ n : Nat, Fd P w K mg base (0 + n) "_law_same" 2 (phi__law_same C n)
  | 0 => let ⟨f, fd, F, hm⟩ := fc.f__law_same; ⟨f, fd, ["given", "due"], FnOk.imp (sp := spF K 2 (fun _ => none)) ⟨fun _ _ _ _ h => h.1, fun _ _ _ _ _ _ _ _ _ _ _ _ _ h => let ⟨_, _, _, _, _, _, _, e, _⟩ := h; nomatch e⟩ (fun _ _ _ _ h => h), hm, F.kp, F.bindsN (fun kV doc pm an cdv ct us hl => match us, hl with | [_, _], _ => rfl)⟩
  | n + 1 => by
    have hrec := ok__law_same fc n
    obtain ⟨f, fd, F, hm⟩ := fc.f__law_same
    have hN : (["given", "due", "k"] : List Str).Nodup := by decide
    refine ⟨f, fd, ["given", "due"], fn_ok (k := 0 + n) F (Q.fnScope_by (N := ["given", "due", "k"]) (P := ["given", "due"]) (by decide +kernel)) (fun cdv A outer s H E hr => ?_), hm, F.kp, F.bindsN (fun kV doc pm an cdv ct us hl => match us, hl with | [_, _], _ => rfl)⟩
    exact css_cons (cs_if (CW.ct (cw_or (ct_cmp o_isN (oe_var 1) (oe (ce_non))) (cw_or1 (ct_val (ce_isi (oe_var 1) rfl fc.b_isinstance rfl fc.b_bool (by decide +kernel)))))) (css_one (cs_ret (ce_ifExp (ct_cmp o_isN (oe_var 1) (oe (ce_non))) (ce_cmp o_isN (oe_var 0) (oe (ce_non))) (ce_and (ce_isi (oe_var 0) rfl fc.b_isinstance rfl fc.b_bool (by decide +kernel)) (ce_one (ce_cmp (o_eq hr) (oe (ce_cmp o_isB (oe_var 0) (oe (ce_bl)))) (oe (ce_cmp o_isB (oe_var 1) (oe (ce_bl)))))))))) (css_nil)) (css_cons (cs_if (ct_val (ce_isi (oe_var 1) rfl fc.b_isinstance rfl fc.b_int (by decide +kernel))) (css_one (cs_ret (ce_and (ce_isi (oe_var 0) rfl fc.b_isinstance rfl fc.b_int (by decide +kernel)) (ce_and (ce_not (ce_isi (oe_var 0) rfl fc.b_isinstance rfl fc.b_bool (by decide +kernel))) (ce_one (ce_cmp (o_eq hr) (oe (ce_op o_sub (oe (ce_callTy c_int rfl fc.b_int (by decide +kernel) (oa_cons (oe_var 0) (oa_nil)))) (oe_var 1))) (oe (ce_int)))))))) (css_nil)) (css_cons (cs_if (ct_val (ce_isi (oe_var 1) rfl fc.b_isinstance rfl fc.b_str (by decide +kernel))) (css_no) (css_nil)) (css_cons (cs_if (ct_val (ce_isi (oe_var 1) rfl fc.b_isinstance rfl fc.b_dict (by decide +kernel))) (css_no) (css_nil)) (css_cons (cs_if (CW.ct (cw_or (ct_not (ct_val (ce_isi2 (oe_var 1) rfl fc.b_isinstance rfl fc.b_list (by decide +kernel) rfl fc.b_tuple (by decide +kernel)))) (cw_or (ct_cmp (o_ne hr) (oe (ce_isi (oe_var 0) rfl fc.b_isinstance rfl fc.b_list (by decide +kernel))) (oe (ce_isi (oe_var 1) rfl fc.b_isinstance rfl fc.b_list (by decide +kernel)))) (cw_or1 (ct_cmp (o_ne hr) (oe (ce_isi (oe_var 0) rfl fc.b_isinstance rfl fc.b_tuple (by decide +kernel))) (oe (ce_isi (oe_var 1) rfl fc.b_isinstance rfl fc.b_tuple (by decide +kernel)))))))) (css_one (cs_ret (ce_bl))) (css_nil)) (css_one (cs_ret (ce_and (ce_cmp (o_eq hr) (oe (ce_callB c_len rfl fc.b_len (by decide +kernel) (oa_cons (oe_var 0) (oa_nil)))) (oe (ce_callB c_len rfl fc.b_len (by decide +kernel) (oa_cons (oe_var 1) (oa_nil))))) (ce_one (ce_cmp (o_eq hr) (oe (ce_lc [("k", 2)] rfl hN (ie_range1 rfl fc.b_range (oa_cons (oe (ce_callB c_len rfl fc.b_len (by decide +kernel) (oa_cons (oe_var 1) (oa_nil)))) (oa_nil))) (blkOk_by (by kernel_rfl)) (fun _ _ _ _ _ => g_name 2 hN) (fun _ _ _ _ _ => ot_one (ct_not (ct_val (ce_call hrec hr (by omega) rfl (oa_cons (oe (ce_ix (ix_any hr) (oe_var 0) (oe_var 2))) (oa_cons (oe (ce_ix (ix_any hr) (oe_var 1) (oe_var 2))) (oa_nil))))))) (fun _ _ _ _ _ => ce_move 2))) (oe (ce_lst (oa_nil))))))))))))
theorem fk_law (fc : Fc P w K mg base C) {f : Addr} {fd : FuncData} (F : FunD K "law" "law" (defArgs slaw) (defBody slaw) (defScope slaw) [] [] f fd) : FnOk P w K mg base CX0 10 f fd ["script"] (spF K 1 (phi_law C)) := by
  have hN : (["script", "k", "box", "way", "turn", "book", "many", "made", "wishes", "told", "left", "values", "time", "some", "cut", "far", "at", "value", "due", "given", "judged", "one"] : List Str).Nodup := by decide
  refine fn_ok (k := 9) F (Q.fnScope_by (N := ["script", "k", "box", "way", "turn", "book", "many", "made", "wishes", "told", "left", "values", "time", "some", "cut", "far", "at", "value", "due", "given", "judged", "one"]) (P := ["script"]) (by decide +kernel)) (fun cdv A outer s H E hr => ?_)
  exact css_cons (cs_for PassesOwn.never rfl (ie_range1 rfl fc.b_range (oa_cons (oe (ce_callB (c_max2 rfl) rfl fc.b_max (by decide +kernel) (oa_cons (oe (ce_int)) (oa_cons (oe (ce_callB (c_min2 rfl) rfl fc.b_min (by decide +kernel) (oa_cons (oe (ce_int)) (oa_cons (oe (ce_callB c_len rfl fc.b_len (by decide +kernel) (oa_cons (oe_var 0) (oa_nil)))) (oa_nil))))) (oa_nil))))) (oa_nil))) (g_name 1 hN) (css_cons (cs_set 2 hN (ce_call (ok__law_box fc) hr (by decide) rfl (oa_cons (oe (ce_call (ok__law_cell fc) hr (by decide) rfl (oa_cons (oe_var 0) (oa_cons (oe_var 1) (oa_nil))))) (oa_nil)))) (css_cons (cs_set 3 hN (ce_cmp (o_eq hr) (oe (ce_call (ok__law_take fc) hr (by decide) rfl (oa_cons (oe_var 2) (oa_cons (oe (ce_int)) (oa_nil))))) (oe (ce_int)))) (css_one (cs_for PassesOwn.never rfl (ie_range1 rfl fc.b_range (oa_cons (oe (ce_int)) (oa_nil))) (g_name 4 hN) (css_split 4 (css_cons (cs_set 5 hN (ce_call (ok__law_field fc) hr (by decide) rfl (oa_cons (oe_var 2) (oa_cons (oe (ce_op o_add (oe (ce_int)) (oe (ce_call (ok__law_take fc) hr (by decide) rfl (oa_cons (oe_var 2) (oa_cons (oe (ce_int)) (oa_nil))))))) (oa_cons (oe (ce_op o_add (oe (ce_int)) (oe (ce_call (ok__law_take fc) hr (by decide) rfl (oa_cons (oe_var 2) (oa_cons (oe (ce_int)) (oa_nil))))))) (oa_nil)))))) (css_cons (cs_set 6 hN (ce_op o_add (oe (ce_int)) (oe (ce_call (ok__law_take fc) hr (by decide) rfl (oa_cons (oe_var 2) (oa_cons (oe (ce_int)) (oa_nil))))))) (css_cons (cs_par 7 8 rfl hN (ce_fz (ce_call (ok__law_built fc) hr (by decide) rfl (oa_cons (oe_var 2) (oa_cons (oe_var 5) (oa_nil))))) (ce_fz (ce_call (ok__law_wishes fc) hr (by decide) rfl (oa_cons (oe_var 2) (oa_cons (oe_var 5) (oa_cons (oe (ce_var 6)) (oa_cons (oe (ce_op o_add (oe (ce_int)) (oe (ce_call (ok__law_take fc) hr (by decide) rfl (oa_cons (oe_var 2) (oa_cons (oe (ce_int)) (oa_nil))))))) (oa_nil)))))))) (css_one (cs_set 9 hN (ce_ifExp (ct_val (ce_var 3)) (ce_call (ok_strikes fc) hr (by decide) rfl (oa_cons (oe_var 7) (oa_cons (oe_var 8) (oa_nil)))) (ce_callK (okk_strikes_wishes_book fc) hr (by decide) rfl (ok_cons (oe (ce_tup (oa_cons (oe (ce_var 6)) (oa_cons (oe (ce_callTy c_tuple rfl fc.b_tuple (by decide +kernel) (oa_cons (oe (ce_ix (ix_any hr) (oe_var 8) (oe (ce_int)))) (oa_nil)))) (oa_nil))))) (ok_cons (oe_var 7) (ok_nil)))))))))) (css_split 6 (css_lend 9 (css_cons (cs_set 10 hN (ce_call (ok__law_behind fc) hr (by decide) rfl (oa_cons (oe_var 5) (oa_cons (oe_var 8) (oa_cons (oe (ce_var 9)) (oa_nil)))))) (css_cons (cs_if (CW.ct (cw_or (ct_not (ct_val (ce_isi (oe_var 9) rfl fc.b_isinstance rfl fc.b_list (by decide +kernel)))) (cw_or (ct_cmp o_isN (oe_var 10) (oe (ce_non))) (cw_or1 (ct_cmp (o_ne hr) (oe (ce_call (ok__law_ways fc) hr (by decide) rfl (oa_cons (oe_var 5) (oa_cons (oe_var 8) (oa_cons (oe_var 10) (oa_nil)))))) (oe (ce_lst (oa_nil)))))))) (css_one (cs_ret (ce_bl))) (css_nil)) (css_cons (cs_set 11 hN (ce_lst (oa_cons (oe (ce_var 9)) (oa_cons (oe (ce_callTy c_tuple rfl fc.b_tuple (by decide +kernel) (oa_cons (oe_var 9) (oa_nil)))) (oa_cons (oe (ce_rev (oe_var 9))) (oa_cons (oe (ce_slice (oe_var 9) (oo_some (oe (ce_int))) (oo_none))) (oa_cons (oe (ce_op o_add (oe_var 9) (oe (ce_slice (oe_var 9) (oo_none) (oo_some (oe (ce_int))))))) (oa_cons (oe (ce_lc [("one", 21)] rfl hN (ie_seq (oe (ce_var 9))) (blkOk_by (by kernel_rfl)) (fun _ _ _ _ _ => g_name 21 hN) (fun _ _ _ _ _ => ot_nil) (fun _ _ _ _ _ => ce_callTy (c_list rfl) rfl fc.b_list (by decide +kernel) (oa_cons (oe_var 21) (oa_nil))))) (oa_cons (oe (ce_non)) (oa_cons (oe (ce_int)) (oa_cons (oe (ce_tup (oa_nil))) (oa_cons (oe (ce_lst (oa_cons (oe (ce_tup (oa_nil))) (oa_nil)))) (oa_cons (oe (ce_lst (oa_cons (oe (ce_tup (oa_cons (oe (ce_int)) (oa_cons (oe (ce_int)) (oa_nil))))) (oa_nil)))) (oa_nil)))))))))))))) (css_cons (cs_set 11 hN (ce_op o_add (oe_var 11) (oe (ce_lst (oa_cons (oe (ce_lst (oa_cons (oe (ce_tup (oa_cons (oe (ce_bl)) (oa_cons (oe (ce_int)) (oa_cons (oe (ce_int)) (oa_nil)))))) (oa_nil)))) (oa_cons (oe (ce_lst (oa_cons (oe (ce_tup (oa_cons (oe (ce_var 6)) (oa_cons (oe (ce_int)) (oa_cons (oe (ce_int)) (oa_nil)))))) (oa_nil)))) (oa_cons (oe (ce_lst (oa_cons (oe (ce_tup (oa_cons (oe (ce_int)) (oa_cons (oe (ce_ix (ix_any hr) (oe_var 5) (oe (ce_int)))) (oa_cons (oe (ce_int)) (oa_nil)))))) (oa_nil)))) (oa_cons (oe (ce_lst (oa_cons (oe (ce_tup (oa_cons (oe (ce_int)) (oa_cons (oe (ce_int)) (oa_cons (oe (ce_callB c_len rfl fc.b_len (by decide +kernel) (oa_cons (oe (ce_ix (ix_any hr) (oe_var 8) (oe (ce_int)))) (oa_nil)))) (oa_nil)))))) (oa_nil)))) (oa_nil))))))))) (css_cons (cs_for PassesOwn.never rfl (ie_range1 rfl fc.b_range (oa_cons (oe (ce_int)) (oa_nil))) (g_name 12 hN) (css_cons (cs_set 13 hN (ce_ix (ix_any hr) (oe (ce_call (ok__law_all_struck fc) hr (by decide) rfl (oa_cons (oe_var 2) (oa_cons (oe_var 5) (oa_cons (oe_var 8) (oa_nil)))))) (oe (ce_int)))) (css_cons (cs_set 14 hN (ce_slice (oe_var 13) (oo_none) (oo_some (oe (ce_call (ok__law_take fc) hr (by decide) rfl (oa_cons (oe_var 2) (oa_cons (oe (ce_op o_add (oe (ce_callB c_len rfl fc.b_len (by decide +kernel) (oa_cons (oe_var 13) (oa_nil)))) (oe (ce_int)))) (oa_nil)))))))) (css_cons (cs_set 15 hN (ce_tup (oa_cons (oe (ce_call (ok__law_take fc) hr (by decide) rfl (oa_cons (oe_var 2) (oa_cons (oe_var 6) (oa_nil))))) (oa_cons (oe (ce_call (ok__law_take fc) hr (by decide) rfl (oa_cons (oe_var 2) (oa_cons (oe (ce_ix (ix_any hr) (oe_var 5) (oe (ce_int)))) (oa_nil))))) (oa_cons (oe (ce_call (ok__law_take fc) hr (by decide) rfl (oa_cons (oe_var 2) (oa_cons (oe (ce_callB c_len rfl fc.b_len (by decide +kernel) (oa_cons (oe (ce_ix (ix_any hr) (oe_var 8) (oe (ce_int)))) (oa_nil)))) (oa_nil))))) (oa_nil)))))) (css_cons (cs_expr (ce_extend 11 (oa_cons (oe (ce_lst (oa_cons (oe (ce_var 13)) (oa_cons (oe (ce_var 14)) (oa_cons (oe (ce_op o_add (oe_var 14) (oe (ce_lst (oa_cons (oe (ce_var 15)) (oa_nil)))))) (oa_cons (oe (ce_op o_add (oe (ce_lst (oa_cons (oe (ce_var 15)) (oa_nil)))) (oe_var 13))) (oa_cons (oe (ce_op o_add (oe (ce_slice (oe_var 13) (oo_some (oe (ce_int))) (oo_none))) (oe (ce_slice (oe_var 13) (oo_none) (oo_some (oe (ce_int))))))) (oa_nil)))))))) (oa_nil)))) (css_one (cs_if (ct_cmp (o_ne hr) (oe_var 13) (oe (ce_lst (oa_nil)))) (css_cons (cs_set 16 hN (ce_call (ok__law_take fc) hr (by decide) rfl (oa_cons (oe_var 2) (oa_cons (oe (ce_callB c_len rfl fc.b_len (by decide +kernel) (oa_cons (oe_var 13) (oa_nil)))) (oa_nil))))) (css_cons (cs_expr (ce_append 11 (oa_cons (oe (ce_op o_add (oe (ce_op o_add (oe (ce_slice (oe_var 13) (oo_none) (oo_some (oe_var 16)))) (oe (ce_lst (oa_cons (oe (ce_op o_add (oe (ce_slice (oe (ce_ix (ix_any hr) (oe_var 13) (oe_var 16))) (oo_none) (oo_some (oe (ce_int))))) (oe (ce_tup (oa_cons (oe (ce_op o_mod (oe (ce_callTy c_int rfl fc.b_int (by decide +kernel) (oa_cons (oe (ce_op o_add (oe (ce_ix (ix_any hr) (oe (ce_ix (ix_any hr) (oe_var 13) (oe_var 16))) (oe (ce_int)))) (oe (ce_int)))) (oa_nil)))) (oe (ce_callB c_len rfl fc.b_len (by decide +kernel) (oa_cons (oe (ce_ix (ix_any hr) (oe_var 8) (oe (ce_int)))) (oa_nil)))))) (oa_nil)))))) (oa_nil)))))) (oe (ce_slice (oe_var 13) (oo_some (oe (ce_op o_add (oe_var 16) (oe (ce_int))))) (oo_none))))) (oa_nil)))) (css_one (cs_expr (ce_append 11 (oa_cons (oe (ce_op o_add (oe (ce_op o_add (oe (ce_slice (oe_var 13) (oo_none) (oo_some (oe_var 16)))) (oe (ce_lst (oa_cons (oe (ce_op o_add (oe (ce_tup (oa_cons (oe (ce_op o_mod (oe (ce_callTy c_int rfl fc.b_int (by decide +kernel) (oa_cons (oe (ce_op o_add (oe (ce_ix (ix_any hr) (oe (ce_ix (ix_any hr) (oe_var 13) (oe_var 16))) (oe (ce_int)))) (oe (ce_int)))) (oa_nil)))) (oe_var 6))) (oa_nil)))) (oe (ce_slice (oe (ce_ix (ix_any hr) (oe_var 13) (oe_var 16))) (oo_some (oe (ce_int))) (oo_none))))) (oa_nil)))))) (oe (ce_slice (oe_var 13) (oo_some (oe (ce_op o_add (oe_var 16) (oe (ce_int))))) (oo_none))))) (oa_nil))))))) (css_nil)))))))) (css_one (cs_for PassesOwn.never rfl (ie_seq (oe (ce_var 11))) (g_name 17 hN) (css_cons (cs_set 18 hN (ce_cmp o_isNN (oe (ce_call (ok__law_behind fc) hr (by decide) rfl (oa_cons (oe_var 5) (oa_cons (oe_var 8) (oa_cons (oe (ce_var 17)) (oa_nil)))))) (oe (ce_non)))) (css_cons (cs_set 19 hN (ce_ifExp (ct_val (ce_isi (oe_var 17) rfl fc.b_isinstance rfl fc.b_list (by decide +kernel))) (ce_callTy (c_list rfl) rfl fc.b_list (by decide +kernel) (oa_cons (oe_var 17) (oa_nil))) (ce_move 17))) (css_cons (cs_set 20 hN (ce_ifExp (ct_val (ce_var 3)) (ce_call (ok_is_strikes fc) hr (by decide) rfl (oa_cons (oe_var 7) (oa_cons (oe_var 8) (oa_cons (oe (ce_var 19)) (oa_nil))))) (ce_callK (okk_is_strikes_value_wishes_book fc) hr (by decide) rfl (ok_cons (oe (ce_var 19)) (ok_cons (oe_var 8) (ok_cons (oe_var 7) (ok_nil))))))) (css_cons (cs_if (ct_not (ct_val (ce_call (ok__law_same fc 3) hr (by decide) rfl (oa_cons (oe_var 20) (oa_cons (oe_var 18) (oa_nil)))))) (css_one (cs_ret (ce_bl))) (css_nil)) (css_one (cs_set 3 hN (ce_not (ce_var 3)))))))))))))))) (css_cons (cs_expr (ce_append 9 (oa_cons (oe (ce_str)) (oa_nil)))) (css_one (cs_if (ct_not (ct_val (ce_call (ok__law_same fc 3) hr (by decide) rfl (oa_cons (oe (ce_call (ok_strikes fc) hr (by decide) rfl (oa_cons (oe_var 7) (oa_cons (oe_var 8) (oa_nil))))) (oa_cons (oe (ce_slice (oe_var 9) (oo_none) (oo_some (oe (ce_neg (oe (ce_int))))))) (oa_nil)))))) (css_one (cs_ret (ce_bl))) (css_nil))))))))))) (css_one (cs_ret (ce_bl)))
end
end K81
end
section
set_option maxHeartbeats 1000000
namespace Q
open PySem PySem.Spec PyProof.Rows L2
/-! ### the readings, applied -/
@[simp] theorem dC_ap (d : D) (ρ : Q.Env) : dC d ρ = some (.val d, ρ) := id rfl
@[simp] theorem dVar_ap (i : Nat) (ρ : Q.Env) : dVar i ρ = match ρ[i]? with
  | some (some (.val d)) => some (.val d, ρ)
  | some (some (.own d)) => some (.val d, ρ.set i (some (.val d)))
  | some (some (.old d)) => some (.val d, ρ)
  | some (some (.lent d)) => some (.val d, ρ)
  | _ => none := id rfl
@[simp] theorem oVar_ap (i : Nat) (ρ : Q.Env) : oVar i ρ = match ρ[i]? with
  | some (some _) => some (.inr i, ρ)
  | _ => none := id rfl
@[simp] theorem oFz_ap (f : Env → Option (Cell × Env)) (ρ : Q.Env) : oFz f ρ = match f ρ with
  | some (.val d, ρ') => some (.inl d, ρ')
  | some (.own d, ρ') => some (.inl d, ρ')
  | _ => none := id rfl
@[simp] theorem aNil_ap (ρ : Q.Env) : aNil  ρ = some ([], ρ) := id rfl
@[simp] theorem aCons_ap (f : Env → Option (Hd × Env)) (g : Env → Option (List Hd × Env)) (ρ : Q.Env) : aCons f g ρ = match f ρ with
  | some (h, ρ1) => (match g ρ1 with
    | some (hs, ρ2) => some (h :: hs, ρ2)
    | none => none)
  | none => none := id rfl
@[simp] theorem dOp_ap (h : D → D → Option Cell) (fa fb : Env → Option (Hd × Env)) (ρ : Q.Env) : dOp h fa fb ρ =
  (fa ρ).bind fun p => (fb p.2).bind fun q => (look q.2 p.1).bind fun a => (look q.2 q.1).bind fun b => (h a b).bind fun c => some (c, q.2) := id rfl
@[simp] theorem dTst_ap (f : Env → Option (Cell × Env)) (ρ : Q.Env) : dTst f ρ = (f ρ).bind fun p => match p.1 with
  | .val (.bl k) => some (k, p.2)
  | _ => none := id rfl
@[simp] theorem dAndV_ap (fa fb : Env → Option (Cell × Env)) (ρ : Q.Env) : dAndV fa fb ρ = (fa ρ).bind fun p => match p.1 with
  | .val (.bl true) => fb p.2
  | .val (.bl false) => some (.val (.bl false), p.2)
  | _ => none := id rfl
@[simp] theorem dOrV_ap (fa fb : Env → Option (Cell × Env)) (ρ : Q.Env) : dOrV fa fb ρ = (fa ρ).bind fun p => match p.1 with
  | .val (.bl true) => some (.val (.bl true), p.2)
  | .val (.bl false) => fb p.2
  | _ => none := id rfl
@[simp] theorem dNotV_ap (fa : Env → Option (Cell × Env)) (ρ : Q.Env) : dNotV fa ρ = (fa ρ).bind fun p => match p.1 with
  | .val (.bl k) => some (.val (.bl (!k)), p.2)
  | _ => none := id rfl
@[simp] theorem dAnd_ap (fa fb : Env → Option (Bool × Env)) (ρ : Q.Env) : dAnd fa fb ρ = (fa ρ).bind fun p => if p.1 = true then fb p.2 else some (false, p.2) := id rfl
@[simp] theorem dOr_ap (fa fb : Env → Option (Bool × Env)) (ρ : Q.Env) : dOr fa fb ρ = (fa ρ).bind fun p => if p.1 = true then some (true, p.2) else fb p.2 := id rfl
@[simp] theorem dNot_ap (fa : Env → Option (Bool × Env)) (ρ : Q.Env) : dNot fa ρ = (fa ρ).bind fun p => some (!p.1, p.2) := id rfl
@[simp] theorem dTru_ap (f : Env → Option (Hd × Env)) (ρ : Q.Env) : dTru f ρ = (f ρ).bind fun p => (look p.2 p.1).bind fun d => (truD d).bind fun k => some (k, p.2) := id rfl
@[simp] theorem dIf_ap {α : Type} (fc : Env → Option (Bool × Env)) (fa fb : Env → Option α) (ρ : Q.Env) : dIf fc fa fb ρ = (fc ρ).bind fun p => if p.1 = true then fa p.2 else fb p.2 := id rfl
@[simp] theorem dChain_ap (h h' : D → D → Option Cell) (fa fb fc : Env → Option (Hd × Env)) (ρ : Q.Env) : dChain h h' fa fb fc ρ =
  (fa ρ).bind fun p => (fb p.2).bind fun q => (look q.2 p.1).bind fun a => (look q.2 q.1).bind fun b => (h a b).bind fun c => match c with
    | .val (.bl true) => (fc q.2).bind fun s => (look s.2 q.1).bind fun b' => (look s.2 s.1).bind fun d => (h' b' d).bind fun c' => some (c', s.2)
    | .val (.bl false) => some (.val (.bl false), q.2)
    | _ => none := id rfl
@[simp] theorem nPart_ap (ρ : Q.Env) : nPart  ρ = some (none, ρ) := id rfl
@[simp] theorem sPart_ap (f : Env → Option (Hd × Env)) (ρ : Q.Env) : sPart f ρ = (f ρ).bind fun p => (look p.2 p.1).bind fun d => match d with
  | .int i => some (some i, p.2)
  | _ => none := id rfl
@[simp] theorem dSl_ap (f : Env → Option (Hd × Env)) (fl fh : Env → Option (Option Int × Env)) (ρ : Q.Env) : dSl f fl fh ρ =
  (f ρ).bind fun p => (fl p.2).bind fun q => (fh q.2).bind fun s => (look s.2 p.1).bind fun d => (hSl d q.1 s.1).bind fun c => some (c, s.2) := id rfl
@[simp] theorem dRev_ap (f : Env → Option (Hd × Env)) (ρ : Q.Env) : dRev f ρ = (f ρ).bind fun p => (look p.2 p.1).bind fun d => match d with
  | .lst l => some (.own (.lst l.reverse), p.2)
  | _ => none := id rfl
@[simp] theorem dCall_ap (h : List D → Option Cell) (fa : Env → Option (List Hd × Env)) (ρ : Q.Env) : dCall h fa ρ =
  (fa ρ).bind fun p => (lookAll p.2 p.1).bind fun ds => (h ds).bind fun c => some (c, p.2) := id rfl
@[simp] theorem dTup_ap (fa : Env → Option (List Hd × Env)) (ρ : Q.Env) : dTup fa ρ = (fa ρ).bind fun p => (inls p.1).bind fun ds => if ds.length ≤ sizeLine then some (.val (.tup ds), p.2) else none := id rfl
@[simp] theorem dLst_ap (fa : Env → Option (List Hd × Env)) (ρ : Q.Env) : dLst fa ρ = (fa ρ).bind fun p => (inls p.1).bind fun ds => if ds.length ≤ sizeLine then some (.own (.lst ds), p.2) else none := id rfl
@[simp] theorem aStar_ap (f : Env → Option (Hd × Env)) (g : Env → Option (List Hd × Env)) (ρ : Q.Env) : aStar f g ρ = (f ρ).bind fun p => (look p.2 p.1).bind fun d => (seqD d).bind fun l => (g p.2).bind fun q => some (l.map Sum.inl ++ q.1, q.2) := id rfl
@[simp] theorem dDict_ap (t : Bool) (ρ : Q.Env) : dDict t ρ = some (.own (.dct t []), ρ) := id rfl
@[simp] theorem dIsi_ap (T : String) (f : Env → Option (Hd × Env)) (ρ : Q.Env) : dIsi T f ρ = (f ρ).bind fun p => (look p.2 p.1).bind fun d => (isiD T d).bind fun k => some (.val (.bl k), p.2) := id rfl
@[simp] theorem dIsi2_ap (T U : String) (f : Env → Option (Hd × Env)) (ρ : Q.Env) : dIsi2 T U f ρ = (f ρ).bind fun p => (look p.2 p.1).bind fun d => (isiD2 T U d).bind fun k => some (.val (.bl k), p.2) := id rfl
@[simp] theorem dIsiC_ap (C : Addr) (f : Env → Option (Hd × Env)) (ρ : Q.Env) : dIsiC C f ρ = (f ρ).bind fun p => (look p.2 p.1).bind fun d => match d with
  | .obj C' _ => if C' = C then some (.val (.bl true), p.2) else none
  | _ => none := id rfl
@[simp] theorem dFld_ap (C : Addr) (f : Str) (g : Env → Option (Hd × Env)) (ρ : Q.Env) : dFld C f g ρ = (g ρ).bind fun p => (look p.2 p.1).bind fun d => match d with
  | .obj C' l => if C' = C then (l.lookup f).bind fun x => some (.val x, p.2) else none
  | _ => none := id rfl
/-- a slot that a name may take -/
def okS : Option (Option Cell) → Bool
  | some (some (.par _ _)) => false
  | some _ => true
  | none => false
@[simp] theorem okS0 : okS (some none) = true := id rfl
@[simp] theorem okSv (d : D) : okS (some (some (.val d))) = true := id rfl
@[simp] theorem okSo (d : D) : okS (some (some (.own d))) = true := id rfl
@[simp] theorem okSl (d : D) : okS (some (some (.old d))) = true := id rfl
@[simp] theorem okSn (d : D) : okS (some (some (.lent d))) = true := id rfl
@[simp] theorem dName_ap (i : Nat) (c : Cell) (ρ : Q.Env) : dName i c ρ = if okS ρ[i]? = true then some (ρ.set i (some c)) else none := by
  unfold dName
  cases h : ρ[i]? with
  | none => rfl
  | some x => cases x with
    | none => rfl
    | some c => cases c <;> rfl
@[simp] theorem dGnil_ap (ds : List D) (ρ : Q.Env) : dGnil  ds ρ = match ds with
  | [] => some ρ
  | _ => none := id rfl
@[simp] theorem dGcons_ap (f : Cell → Env → Option Env) (g : List D → Env → Option Env) (ds : List D) (ρ : Q.Env) : dGcons f g ds ρ = match ds with
  | d :: r => (f (.val d) ρ).bind fun ρ1 => g r ρ1
  | [] => none := id rfl
@[simp] theorem dGtup_ap (n : Nat) (g : List D → Env → Option Env) (c : Cell) (ρ : Q.Env) : dGtup n g c ρ = match c with
  | .val (.tup l) => if l.length = n then g l ρ else none
  | _ => none := id rfl
@[simp] theorem dSetI_ap (i : Nat) (fi : Env → Option (Hd × Env)) (c : Cell) (ρ : Q.Env) : dSetI i fi c ρ = match c with
  | .val d => (oVar i ρ).bind fun _ => (fi ρ).bind fun p => (look p.2 p.1).bind fun k => wrOwn i (fun o => setD o k d) p.2
  | .own d => (oVar i ρ).bind fun _ => (fi ρ).bind fun p => (look p.2 p.1).bind fun k => wrOwn i (fun o => setD o k d) p.2
  | _ => none := id rfl
@[simp] theorem sSet_ap (i : Nat) (f : Env → Option (Cell × Env)) (ρ : Q.Env) : sSet i f ρ = (f ρ).bind fun p => (dName i p.1 p.2).bind fun ρ1 => some (.nx ρ1) := id rfl
@[simp] theorem sAsg_ap (h : Cell → Env → Option Env) (f : Env → Option (Cell × Env)) (ρ : Q.Env) : sAsg h f ρ = (f ρ).bind fun p => (h p.1 p.2).bind fun ρ1 => some (.nx ρ1) := id rfl
@[simp] theorem sPar_ap (i j : Nat) (fa fb : Env → Option (Cell × Env)) (ρ : Q.Env) : sPar i j fa fb ρ = (fa ρ).bind fun p => (fb p.2).bind fun q => (dName i p.1 q.2).bind fun ρ1 => (dName j q.1 ρ1).bind fun ρ2 => some (.nx ρ2) := id rfl
@[simp] theorem sDrop_ap (f : Env → Option (Cell × Env)) (ρ : Q.Env) : sDrop f ρ = (f ρ).bind fun p => some (.nx p.2) := id rfl
@[simp] theorem sRet_ap (f : Env → Option (Cell × Env)) (ρ : Q.Env) : sRet f ρ = (f ρ).bind fun p => some (.rt p.1 p.2) := id rfl
@[simp] theorem sRetN_ap (ρ : Q.Env) : sRetN  ρ = some (.rt (.val .non) ρ) := id rfl
@[simp] theorem dMove_ap (i : Nat) (ρ : Q.Env) : dMove i ρ = match ρ[i]? with
  | some (some (.own d)) => some (.own d, ρ.set i none)
  | _ => dVar i ρ := id rfl
@[simp] theorem sIf_ap (fc : Env → Option (Bool × Env)) (ga gb : Env → Option Out) (ρ : Q.Env) : sIf fc ga gb ρ = (fc ρ).bind fun p => if p.1 = true then ga p.2 else gb p.2 := id rfl
@[simp] theorem sPass_ap (ρ : Q.Env) : sPass  ρ = some (.nx ρ) := id rfl
@[simp] theorem sBreak_ap (ρ : Q.Env) : sBreak  ρ = some (.bk ρ) := id rfl
@[simp] theorem sCont_ap (ρ : Q.Env) : sCont  ρ = some (.ct ρ) := id rfl
@[simp] theorem sSeq_ap (f g : Env → Option Out) (ρ : Q.Env) : sSeq f g ρ = (f ρ).bind fun o => match o with
  | .nx ρ1 => g ρ1
  | o => some o := id rfl
@[simp] theorem sFor_ap (it : Env → Option (List D × Env)) (g : Cell → Env → Option Env) (body : Env → Option Out) (ρ : Q.Env) : sFor it g body ρ = (it ρ).bind fun p => forL g body p.1 p.2 := id rfl
@[simp] theorem iSeq_ap (f : Env → Option (Hd × Env)) (ρ : Q.Env) : iSeq f ρ = (f ρ).bind fun p => match p.1 with
  | .inl d => (seqD d).bind fun l => some (l, p.2)
  | .inr _ => none := id rfl
@[simp] theorem iRange1_ap (fa : Env → Option (List Hd × Env)) (ρ : Q.Env) : iRange1 fa ρ = (fa ρ).bind fun p => (lookAll p.2 p.1).bind fun ds => match ds with
  | [.int j] => if smI j = true then some (rgD 0 j, p.2) else none
  | _ => none := id rfl
@[simp] theorem iRange2_ap (fa : Env → Option (List Hd × Env)) (ρ : Q.Env) : iRange2 fa ρ = (fa ρ).bind fun p => (lookAll p.2 p.1).bind fun ds => match ds with
  | [.int i, .int j] => if smI i = true ∧ smI j = true then some (rgD i j, p.2) else none
  | _ => none := id rfl
@[simp] theorem dLc_ap (it : Env → Option (List D × Env)) (g : Cell → Env → Option Env) (tt : Env → Option (Bool × Env)) (te : Env → Option (Cell × Env)) (vs : List Nat) (ρ : Q.Env) : dLc it g tt te vs ρ =
  (it ρ).bind fun p => (lcL g tt te vs p.1 (wipeE p.2 vs)).bind fun r => if r.1.length ≤ sizeLine then some (.own (.lst r.1), r.2) else none := id rfl
@[simp] theorem tTrue_ap (ρ : Q.Env) : tTrue  ρ = some (true, ρ) := id rfl
@[simp] theorem dCal_ap (n : Nat) (φ : Fn) (fa : Env → Option (List Hd × Env)) (ρ : Q.Env) : dCal n φ fa ρ = (fa ρ).bind fun p => if p.1.length = n then dApp φ p.1 p.2 else none := id rfl
@[simp] theorem dCallK_ap (n : Nat) (φ : Fn) (m : Nat) (perm : List Nat) (fa : Env → Option (List Hd × Env)) (ρ : Q.Env) : dCallK n φ m perm fa ρ = (fa ρ).bind fun p => if perm.length = n ∧ p.1.length = m then dApp φ (permH perm p.1) p.2 else none := id rfl
@[simp] theorem dMeth_ap (C : Addr) (m : Str) (n : Nat) (φ : Fn) (fo : Env → Option (Hd × Env)) (fa : Env → Option (List Hd × Env)) (ρ : Q.Env) : dMeth C m n φ fo fa ρ = (fo ρ).bind fun p => (look p.2 p.1).bind fun d => match d with
  | .obj C' l => if C' = C ∧ l.lookup m = none then (fa p.2).bind fun q => if q.1.length + 1 = n then dApp φ (p.1 :: q.1) q.2 else none else none
  | _ => none := id rfl
@[simp] theorem dMake_ap (C : Addr) (n : Nat) (φ : Fn) (fa : Env → Option (List Hd × Env)) (ρ : Q.Env) : dMake C n φ fa ρ = (fa ρ).bind fun p => if p.1.length + 1 = n then
    (dApp φ (.inr 0 :: p.1.map shH) (some (.own (.obj C [])) :: p.2)).bind fun q => match q.1, q.2 with
      | .val .non, some (.own d) :: ρ' => some (.own d, ρ')
      | _, _ => none
  else none := id rfl
@[simp] theorem sFldD_ap (i : Nat) (C : Addr) (f : Str) (g : Env → Option (Hd × Env)) (ρ : Q.Env) : sFldD i C f g ρ = (g ρ).bind fun p => match p.1 with
  | .inl d => (wrOwn i (fldD C f d) p.2).bind fun ρ' => some (.nx ρ')
  | .inr _ => none := id rfl
@[simp] theorem iEnm_ap (fa : Env → Option (List Hd × Env)) (ρ : Q.Env) : iEnm fa ρ = (fa ρ).bind fun p => match p.1 with
  | [.inl d] => (seqD d).bind fun l => some (enumD l, p.2)
  | _ => none := id rfl
@[simp] theorem iZipD_ap (fa : Env → Option (List Hd × Env)) (ρ : Q.Env) : iZipD fa ρ = (fa ρ).bind fun p => match p.1 with
  | [.inl (.lst l), .inl (.lst m)] => some (zipD l m, p.2)
  | [.inl (.tup l), .inl (.tup m)] => some (zipD l m, p.2)
  | _ => none := id rfl
@[simp] theorem iTxt_ap (f : Env → Option (Hd × Env)) (ρ : Q.Env) : iTxt f ρ = (f ρ).bind fun p => (look p.2 p.1).bind fun d => match d with
  | .str x => some (strD x, p.2)
  | _ => none := id rfl
@[simp] theorem iKeysD_ap (f : Env → Option (Hd × Env)) (ρ : Q.Env) : iKeysD f ρ = (f ρ).bind fun p => match p.1 with
  | .inl (.dct false l) => some (l.map (·.1), p.2)
  | _ => none := id rfl
@[simp] theorem dLr1_ap (f : Env → Option (Hd × Env)) (ρ : Q.Env) : dLr1 f ρ = (f ρ).bind fun p => (look p.2 p.1).bind fun d => match d with
  | .int j => if smR j = true then some (.own (.lst (rgD 0 j)), p.2) else none
  | _ => none := id rfl
@[simp] theorem dLr2_ap (f g : Env → Option (Hd × Env)) (ρ : Q.Env) : dLr2 f g ρ = (f ρ).bind fun p => (g p.2).bind fun q => (look q.2 p.1).bind fun d => (look q.2 q.1).bind fun d2 => match d, d2 with
  | .int i, .int j => if (0 ≤ i ∧ smR i = true) ∧ smR j = true then some (.own (.lst (rgD i j)), q.2) else none
  | _, _ => none := id rfl
@[simp] theorem dMth_ap (h : List D → List D → Option (List D × D)) (i : Nat) (fa : Env → Option (List Hd × Env)) (ρ : Q.Env) : dMth h i fa ρ = match ρ[i]? with
  | some (some (.own (.lst _))) => (fa ρ).bind fun p => mthD h i p.1 p.2
  | some (some (.par _ (.lst _))) => (fa ρ).bind fun p => mthD h i p.1 p.2
  | _ => none := id rfl
@[simp] theorem dLc2_ap (it : Env → Option (List D × Env)) (g : Cell → Env → Option Env) (tt : Env → Option (Bool × Env)) (it1 : Env → Option (List D × Env)) (g1 : Cell → Env → Option Env) (tt1 : Env → Option (Bool × Env)) (te : Env → Option (Cell × Env)) (vs vs1 : List Nat) (ρ : Q.Env) : dLc2 it g tt it1 g1 tt1 te vs vs1 ρ =
  (it ρ).bind fun p => (lc2L g tt it1 g1 tt1 te vs vs1 p.1 (wipeE p.2 vs)).bind fun r => if r.1.length ≤ sizeLine then some (.own (.lst r.1), r.2) else none := id rfl
@[simp] theorem dDc_ap (it : Env → Option (List D × Env)) (g : Cell → Env → Option Env) (tt : Env → Option (Bool × Env)) (tk tv : Env → Option (Cell × Env)) (vs : List Nat) (ρ : Q.Env) : dDc it g tt tk tv vs ρ =
  (it ρ).bind fun p => (dcL g tt tk tv vs p.1 [] (wipeE p.2 vs)).bind fun r => some (.own (.dct false r.1), r.2) := id rfl
@[simp] theorem dFz_ap (f : Env → Option (Cell × Env)) (ρ : Q.Env) : dFz f ρ = (f ρ).bind fun p => match p.1 with
  | .val d => some (.val d, p.2)
  | .own d => some (.val d, p.2)
  | _ => none := id rfl
@[simp] theorem sLend_ap (i : Nat) (f : Env → Option Out) (ρ : Q.Env) : sLend i f ρ = (beginE i ρ).bind fun ρ1 => (f ρ1).bind fun o => match o with
  | .nx ρ2 => (lendE i 0 ρ2).bind fun ρ3 => some (.nx ρ3)
  | .bk ρ2 => (lendE i 0 ρ2).bind fun ρ3 => some (.bk ρ3)
  | .ct ρ2 => (lendE i 0 ρ2).bind fun ρ3 => some (.ct ρ3)
  | .rt c ρ2 => (lendE (i + 1) 0 (some c :: ρ2)).bind fun ρ3 => match ρ3 with
    | some c' :: ρ4 => some (.rt c' ρ4)
    | _ => none := id rfl
@[simp] theorem dNeg_ap (f : Env → Option (Hd × Env)) (ρ : Q.Env) : dNeg f ρ = (f ρ).bind fun p => (look p.2 p.1).bind fun d => match d with
  | .int i => some (.val (.int (-i)), p.2)
  | _ => none := id rfl

@[simp] theorem dNo_ap {α : Type} (ρ : Q.Env) : (dNo ρ : Option α) = none := id rfl
/-! values -/
@[simp] theorem bS {α β : Type} (a : α) (f : α → Option β) : (some a).bind f = f a := id rfl
@[simp] theorem bN {α β : Type} (f : α → Option β) : (none : Option α).bind f = none := id rfl
@[simp] theorem lkI (ρ : Q.Env) (d : D) : look ρ (.inl d) = some d := id rfl
@[simp] theorem lkS (ρ : Q.Env) (i : Nat) : look ρ (.inr i) = match ρ[i]? with | some (some c) => some c.d | _ => none := id rfl
@[simp] theorem la0 (ρ : Q.Env) : lookAll ρ [] = some [] := id rfl
@[simp] theorem laC (ρ : Q.Env) (h : Hd) (t : List Hd) : lookAll ρ (h :: t) = (look ρ h).bind fun d => (lookAll ρ t).bind fun ds => some (d :: ds) := id rfl
@[simp] theorem in0 : inls [] = some [] := id rfl
@[simp] theorem inC (d : D) (t : List Hd) : inls (.inl d :: t) = (inls t).bind fun ds => some (d :: ds) := by
  show (inls t).map _ = _
  cases inls t <;> rfl
@[simp] theorem cdV (d : D) : (Cell.val d).d = d := id rfl
@[simp] theorem cdO (d : D) : (Cell.own d).d = d := id rfl
@[simp] theorem cdP (j : Nat) (d : D) : (Cell.par j d).d = d := id rfl
@[simp] theorem cdOl (d : D) : (Cell.old d).d = d := id rfl
@[simp] theorem cdL (d : D) : (Cell.lent d).d = d := id rfl
@[simp] theorem sqL (l : List D) : seqD (.lst l) = some l := id rfl
@[simp] theorem sqT (l : List D) : seqD (.tup l) = some l := id rfl
/-! operators -/
@[simp] theorem vAddI (i j : Int) : hAdd (.int i) (.int j) = some (.val (.int (i + j))) := id rfl
@[simp] theorem vAddT (l m : List D) : hAdd (.tup l) (.tup m) = hCatT (.tup l) (.tup m) := by
  show hOr hCatT hCatL (.tup l) (.tup m) = _
  unfold hOr
  cases hCatT (.tup l) (.tup m) <;> rfl
@[simp] theorem vAddL (l m : List D) : hAdd (.lst l) (.lst m) = hCatL (.lst l) (.lst m) := id rfl
@[simp] theorem vCatL (l m : List D) : hCatL (.lst l) (.lst m) = if l.length + m.length ≤ sizeLine then some (.own (.lst (l ++ m))) else none := id rfl
@[simp] theorem vSub (i j : Int) : hSub (.int i) (.int j) = some (.val (.int (i - j))) := id rfl
@[simp] theorem vLt (i j : Int) : hLtI (.int i) (.int j) = some (.val (.bl (decide (i < j)))) := id rfl
@[simp] theorem vLe (i j : Int) : hLeI (.int i) (.int j) = some (.val (.bl (decide (i ≤ j)))) := id rfl
@[simp] theorem vGt (i j : Int) : hGtI (.int i) (.int j) = some (.val (.bl (decide (j < i)))) := id rfl
@[simp] theorem vGe (i j : Int) : hGeI (.int i) (.int j) = some (.val (.bl (decide (j ≤ i)))) := id rfl
theorem vMul {i j : Int} (h : pMul i j = true) : (hOr hMulI hRep) (.int i) (.int j) = some (.val (.int (i * j))) := by
  unfold hOr hMulI hII
  simp only [h, if_true]
@[simp] theorem vMulL (l : List D) (k : Int) : (hOr hMulI hRep) (.lst l) (.int k) = hRep (.lst l) (.int k) := id rfl
theorem vDiv {i j : Int} (h : pDiv i j = true) : hDiv (.int i) (.int j) = some (.val (.int (i / j))) := by
  unfold hDiv hII
  simp only [h, if_true]
theorem vMod {i j : Int} (h : 0 < j) : hMod (.int i) (.int j) = some (.val (.int (i % j))) := by
  unfold hMod hII
  simp only [h, decide_true, if_true]
theorem vPow {i j : Int} (h : pPow i j = true) : hPow (.int i) (.int j) = some (.val (.int (i ^ j.toNat))) := by
  unfold hPow hII
  simp only [h, if_true]
@[simp] theorem vEqI (i j : Int) : hEq (.int i) (.int j) = some (.val (.bl (decide (i = j)))) := by
  show some (Cell.val (.bl (PyData.eqv (.int i) (.int j)))) = _
  have : PyData.eqv (.int i) (.int j) = decide (i = j) := by
    rw [Bool.eq_iff_iff]
    simp [PyData.eqv]
  rw [this]
@[simp] theorem vIxL (l : List D) (i : Int) : hIx (.lst l) (.int i) = (atI l i).bind fun d => some (.val d) := by
  unfold hIx hOr hIxDct hIxS seqK seqD
  simp only
  rfl
@[simp] theorem vIxT (l : List D) (i : Int) : hIx (.tup l) (.int i) = (atI l i).bind fun d => some (.val d) := by
  unfold hIx hOr hIxDct hIxS seqK seqD
  simp only
  rfl
@[simp] theorem vIxK (l : List D) (i : Int) : hIx (.klst l) (.int i) = (atI l i).bind fun d => some (.val d) := by
  unfold hIx hOr hIxDct hIxS seqK
  simp only
  rfl
@[simp] theorem vIxD (l : List (D × D)) (x : Str) : hIx (.dct false l) (.str x) = (lookP key1 l (.inr x)).bind fun d => some (.val d) := by
  show hOr hIxDct hIxS (.dct false l) (.str x) = _
  unfold hOr
  have : hIxDct (.dct false l) (.str x) = (lookP key1 l (.inr x)).bind fun d => some (.val d) := id rfl
  rw [this]
  cases lookP key1 l (.inr x) <;> rfl
@[simp] theorem vLenL (l : List D) : hLen [.lst l] = some (.val (.int l.length)) := id rfl
@[simp] theorem vLenK (l : List D) : hLen [.klst l] = some (.val (.int l.length)) := id rfl
@[simp] theorem vLenT (l : List D) : hLen [.tup l] = some (.val (.int l.length)) := id rfl
@[simp] theorem vLenD (l : List (D × D)) : hLen [.dct false l] = some (.val (.int l.length)) := id rfl
@[simp] theorem vInt1 (i : Int) : hInt [.int i] = some (.val (.int i)) := id rfl
@[simp] theorem vAbs (i : Int) : hAbs [.int i] = some (.val (.int (if i < 0 then -i else i))) := id rfl
@[simp] theorem vListL (l : List D) : hList [.lst l] = some (.own (.lst l)) := id rfl
@[simp] theorem vListT (l : List D) : hList [.tup l] = some (.own (.lst l)) := id rfl
@[simp] theorem vTupL (l : List D) : hTuple [.lst l] = some (.val (.tup l)) := id rfl
@[simp] theorem vTupT (l : List D) : hTuple [.tup l] = some (.val (.tup l)) := id rfl
@[simp] theorem vMax (i j : Int) : hMax2 [.int i, .int j] = some (.val (.int (if j > i then j else i))) := id rfl
@[simp] theorem vMin (i j : Int) : hMin2 [.int i, .int j] = some (.val (.int (if j < i then j else i))) := id rfl
@[simp] theorem k11 : kitB "int" "int" = some true := by decide +kernel
@[simp] theorem k12 : kitB "int" "bool" = some false := by decide +kernel
@[simp] theorem k13 : kitB "int" "list" = some false := by decide +kernel
@[simp] theorem k14 : kitB "int" "tuple" = some false := by decide +kernel
@[simp] theorem k15 : kitB "int" "str" = some false := by decide +kernel
@[simp] theorem k16 : kitB "int" "dict" = some false := by decide +kernel
@[simp] theorem k21 : kitB "bool" "int" = some true := by decide +kernel
@[simp] theorem k22 : kitB "bool" "bool" = some true := by decide +kernel
@[simp] theorem k23 : kitB "bool" "list" = some false := by decide +kernel
@[simp] theorem k24 : kitB "bool" "tuple" = some false := by decide +kernel
@[simp] theorem k25 : kitB "bool" "str" = some false := by decide +kernel
@[simp] theorem k26 : kitB "bool" "dict" = some false := by decide +kernel
@[simp] theorem k31 : kitB "list" "int" = some false := by decide +kernel
@[simp] theorem k32 : kitB "list" "bool" = some false := by decide +kernel
@[simp] theorem k33 : kitB "list" "list" = some true := by decide +kernel
@[simp] theorem k34 : kitB "list" "tuple" = some false := by decide +kernel
@[simp] theorem k35 : kitB "list" "str" = some false := by decide +kernel
@[simp] theorem k36 : kitB "list" "dict" = some false := by decide +kernel
@[simp] theorem k41 : kitB "tuple" "int" = some false := by decide +kernel
@[simp] theorem k42 : kitB "tuple" "bool" = some false := by decide +kernel
@[simp] theorem k43 : kitB "tuple" "list" = some false := by decide +kernel
@[simp] theorem k44 : kitB "tuple" "tuple" = some true := by decide +kernel
@[simp] theorem k45 : kitB "tuple" "str" = some false := by decide +kernel
@[simp] theorem k46 : kitB "tuple" "dict" = some false := by decide +kernel
@[simp] theorem k51 : kitB "str" "int" = some false := by decide +kernel
@[simp] theorem k52 : kitB "str" "bool" = some false := by decide +kernel
@[simp] theorem k53 : kitB "str" "list" = some false := by decide +kernel
@[simp] theorem k54 : kitB "str" "tuple" = some false := by decide +kernel
@[simp] theorem k55 : kitB "str" "str" = some true := by decide +kernel
@[simp] theorem k56 : kitB "str" "dict" = some false := by decide +kernel
@[simp] theorem k61 : kitB "NoneType" "int" = some false := by decide +kernel
@[simp] theorem k62 : kitB "NoneType" "bool" = some false := by decide +kernel
@[simp] theorem k63 : kitB "NoneType" "list" = some false := by decide +kernel
@[simp] theorem k64 : kitB "NoneType" "tuple" = some false := by decide +kernel
@[simp] theorem k65 : kitB "NoneType" "str" = some false := by decide +kernel
@[simp] theorem k66 : kitB "NoneType" "dict" = some false := by decide +kernel
@[simp] theorem k76 : kitB "dict" "dict" = some true := by decide +kernel
@[simp] theorem t1 (T : String) (i : Int) : isiD T (.int i) = kitB "int" T := id rfl
@[simp] theorem t2 (T : String) (b : Bool) : isiD T (.bl b) = kitB "bool" T := id rfl
@[simp] theorem t3 (T : String) (l : List D) : isiD T (.lst l) = kitB "list" T := id rfl
@[simp] theorem t4 (T : String) (l : List D) : isiD T (.tup l) = kitB "tuple" T := id rfl
@[simp] theorem t5 (T : String) (x : Str) : isiD T (.str x) = kitB "str" T := id rfl
@[simp] theorem t6 (T : String) : isiD T .non = kitB "NoneType" T := id rfl
@[simp] theorem t7 (T : String) (l : List (D × D)) : isiD T (.dct false l) = kitB "dict" T := id rfl
@[simp] theorem u1 (T U : String) (i : Int) : isiD2 T U (.int i) = (kitB "int" T).bind fun k => if k = true then some true else kitB "int" U := id rfl
@[simp] theorem u2 (T U : String) (b : Bool) : isiD2 T U (.bl b) = (kitB "bool" T).bind fun k => if k = true then some true else kitB "bool" U := id rfl
@[simp] theorem u3 (T U : String) (l : List D) : isiD2 T U (.lst l) = (kitB "list" T).bind fun k => if k = true then some true else kitB "list" U := id rfl
@[simp] theorem u4 (T U : String) (l : List D) : isiD2 T U (.tup l) = (kitB "tuple" T).bind fun k => if k = true then some true else kitB "tuple" U := id rfl
@[simp] theorem u5 (T U : String) (x : Str) : isiD2 T U (.str x) = (kitB "str" T).bind fun k => if k = true then some true else kitB "str" U := id rfl
@[simp] theorem u6 (T U : String) : isiD2 T U .non = (kitB "NoneType" T).bind fun k => if k = true then some true else kitB "NoneType" U := id rfl
@[simp] theorem a20 (a b : D) : atI [a, b] 0 = some a := id rfl
@[simp] theorem a21 (a b : D) : atI [a, b] 1 = some b := id rfl
@[simp] theorem a30 (a b c : D) : atI [a, b, c] 0 = some a := id rfl
@[simp] theorem a31 (a b c : D) : atI [a, b, c] 1 = some b := id rfl
@[simp] theorem a32 (a b c : D) : atI [a, b, c] 2 = some c := id rfl
@[simp] theorem a40 (a b c d : D) : atI [a, b, c, d] 0 = some a := id rfl
@[simp] theorem a41 (a b c d : D) : atI [a, b, c, d] 1 = some b := id rfl
@[simp] theorem a42 (a b c d : D) : atI [a, b, c, d] 2 = some c := id rfl
@[simp] theorem a43 (a b c d : D) : atI [a, b, c, d] 3 = some d := id rfl
@[simp] theorem s40 (a b c d x : D) : setD (.lst [a, b, c, d]) (.int 0) x = some (.lst [x, b, c, d]) := id rfl
@[simp] theorem s43 (a b c d x : D) : setD (.lst [a, b, c, d]) (.int 3) x = some (.lst [a, b, c, x]) := id rfl
@[simp] theorem fnD_ap (N : Nat) (g : Q.Env → Option Out) (cs : List Cell) : fnD N g cs = (g (parm 0 cs ++ List.replicate (N - cs.length) none)).bind fun o => match o with
  | .rt (.val d) ρ => (outs 0 cs ρ).bind fun r => some (.val d, r)
  | .rt (.own d) ρ => (outs 0 cs ρ).bind fun r => some (.own d, r)
  | .nx ρ => (outs 0 cs ρ).bind fun r => some (.val .non, r)
  | _ => none := id rfl
@[simp] theorem app_ap (φ : Fn) (hs : List Hd) (ρ : Q.Env) : dApp φ hs ρ = (argCs hs ρ).bind fun p => (φ p.1).bind fun q => match q.1 with
  | .val d => (wb hs q.2 ρ).bind fun ρ' => some (.val d, ρ')
  | .own d => (wb hs q.2 ρ).bind fun ρ' => some (.own d, ρ')
  | _ => none := id rfl
/-! arguments -/
@[simp] theorem pm0 (j : Nat) : parm j [] = [] := id rfl
@[simp] theorem pmV (j : Nat) (d : D) (t : List Cell) : parm j (.val d :: t) = some (.val d) :: parm (j + 1) t := id rfl
@[simp] theorem pmO (j : Nat) (d : D) (t : List Cell) : parm j (.own d :: t) = some (.par j d) :: parm (j + 1) t := id rfl
@[simp] theorem ou0 (j : Nat) (ρ : Q.Env) : outs j [] ρ = some [] := by cases ρ <;> rfl
@[simp] theorem ouV (j : Nat) (d : D) (t : List Cell) (x : Option Cell) (ρ : Q.Env) : outs j (.val d :: t) (x :: ρ) = (outs (j + 1) t ρ).bind fun r => some (.val d :: r) := id rfl
@[simp] theorem ouO (j j' : Nat) (d d' : D) (t : List Cell) (ρ : Q.Env) : outs j (.own d :: t) (some (.par j' d') :: ρ) = if j' = j then (outs (j + 1) t ρ).bind fun r => some (.own d' :: r) else none := id rfl
@[simp] theorem ag0 (ρ : Q.Env) : argCs [] ρ = some ([], []) := id rfl
@[simp] theorem agI (d : D) (t : List Hd) (ρ : Q.Env) : argCs (.inl d :: t) ρ = (argCs t ρ).bind fun p => some (.val d :: p.1, p.2) := id rfl
@[simp] theorem agS (i : Nat) (t : List Hd) (ρ : Q.Env) : argCs (.inr i :: t) ρ = (argCs t ρ).bind fun p => match ρ[i]? with
    | some (some (.own d)) => if i ∈ p.2 then none else some (.own d :: p.1, i :: p.2)
    | some (some (.par _ d)) => if i ∈ p.2 then none else some (.own d :: p.1, i :: p.2)
    | some (some (.val d)) => some (.val d :: p.1, p.2)
    | some (some (.old d)) => some (.val d :: p.1, p.2)
    | some (some (.lent d)) => some (.val d :: p.1, p.2)
    | _ => none := id rfl
@[simp] theorem wb0 (ρ : Q.Env) : wb [] [] ρ = some ρ := id rfl
@[simp] theorem wbL (d : D) (t : List Hd) (c : Cell) (cs : List Cell) (ρ : Q.Env) : wb (.inl d :: t) (c :: cs) ρ = wb t cs ρ := id rfl
@[simp] theorem wbS (i : Nat) (t : List Hd) (c : Cell) (cs : List Cell) (ρ : Q.Env) : wb (.inr i :: t) (c :: cs) ρ = (wb t cs ρ).bind fun ρ1 => match ρ[i]?, c with
    | some (some (.own _)), .own d => some (ρ1.set i (some (.own d)))
    | some (some (.par j _)), .own d => some (ρ1.set i (some (.par j d)))
    | some (some (.own _)), _ => none
    | some (some (.par _ _)), _ => none
    | _, _ => some ρ1 := id rfl
@[simp] theorem pH (perm : List Nat) (hs : List Hd) : permH perm hs = perm.map fun i => hs.getD i (.inl .non) := id rfl
@[simp] theorem sH1 (d : D) : shH (.inl d) = .inl d := id rfl
@[simp] theorem sH2 (i : Nat) : shH (.inr i) = .inr (i + 1) := id rfl
@[simp] theorem wr_ap (i : Nat) (f : D → Option D) (ρ : Q.Env) : wrOwn i f ρ = match ρ[i]? with
  | some (some (.own o)) => (f o).bind fun o' => some (ρ.set i (some (.own o')))
  | some (some (.par j o)) => (f o).bind fun o' => some (ρ.set i (some (.par j o')))
  | _ => none := id rfl
@[simp] theorem mth_ap (h : List D → List D → Option (List D × D)) (i : Nat) (hs : List Hd) (ρ : Q.Env) : mthD h i hs ρ = (inls hs).bind fun ds => match ρ[i]? with
  | some (some (.own (.lst l))) => (h l ds).bind fun p => some (.val p.2, ρ.set i (some (.own (.lst p.1))))
  | some (some (.par j (.lst l))) => (h l ds).bind fun p => some (.val p.2, ρ.set i (some (.par j (.lst p.1))))
  | _ => none := id rfl
end Q
end
section
set_option maxHeartbeats 1000000
namespace Q
open PySem PySem.Spec PyProof.Rows L2
/-! ### loops, in plain words -/
section
variable {g : Cell → Q.Env → Option Q.Env} {tt : Q.Env → Option (Bool × Q.Env)} {te : Q.Env → Option (Cell × Q.Env)} {vs : List Nat}
theorem lcL_nil (ρ : Q.Env) : lcL g tt te vs [] ρ = some ([], ρ) := rfl
theorem lcL_one (d : D) (ρ : Q.Env) : lcL g tt te vs [d] ρ = (g (.val d) ρ).bind fun ρ1 => (tt ρ1).bind fun p => if p.1 = true then (te p.2).bind fun q => match q.1 with
      | .val x => some ([x], wipeE q.2 vs)
      | .own x => some ([x], wipeE q.2 vs)
      | _ => none
    else some ([], wipeE p.2 vs) := rfl
theorem lcL_cons (d : D) (ds : List D) (ρ : Q.Env) : lcL g tt te vs (d :: ds) ρ = (lcL g tt te vs [d] ρ).bind fun p => (lcL g tt te vs ds p.2).bind fun r => some (p.1 ++ r.1, r.2) := by
  rw [lcL_one]
  conv => lhs; unfold lcL
  cases g (.val d) ρ with
  | none => rfl
  | some ρ1 =>
    simp only [Option.bind_some]
    cases tt ρ1 with
    | none => rfl
    | some p =>
      simp only [Option.bind_some]
      split
      · cases te p.2 with
        | none => rfl
        | some q =>
          obtain ⟨c, ρ2⟩ := q
          simp only [Option.bind_some]
          cases c <;> rfl
      · simp only [Option.bind_some, List.nil_append]
        cases lcL g tt te vs ds (wipeE p.2 vs) <;> rfl
/-- each turn adds what f says and leaves the slots -/
theorem lcL_pure (f : D → List D) {ρ : Q.Env} : ∀ {ds : List D}, (∀ d ∈ ds, lcL g tt te vs [d] ρ = some (f d, ρ)) → lcL g tt te vs ds ρ = some (ds.flatMap f, ρ)
  | [], _ => rfl
  | d :: ds, h => by
    rw [lcL_cons, h d List.mem_cons_self]
    simp only [Option.bind_some]
    rw [lcL_pure f fun d' hd => h d' (List.mem_cons_of_mem _ hd)]
    rfl
/-- the same over coded items -/
theorem lcL_map {α : Type} (enc : α → D) (f : α → List D) {ρ : Q.Env} : ∀ {l : List α}, (∀ a ∈ l, lcL g tt te vs [enc a] ρ = some (f a, ρ)) → lcL g tt te vs (l.map enc) ρ = some (l.flatMap f, ρ)
  | [], _ => rfl
  | a :: l, h => by
    rw [List.map_cons, lcL_cons, h a List.mem_cons_self]
    simp only [Option.bind_some]
    rw [lcL_map enc f fun d' hd => h d' (List.mem_cons_of_mem _ hd)]
    rfl
/-- each turn adds one item of which R holds; P falls by one -/
theorem lcL_inv (P : Nat → Q.Env → Prop) (R : D → Prop) : ∀ {ds : List D} {n : Nat} {ρ : Q.Env}, (∀ d ∈ ds, ∀ n ρ, P (n + 1) ρ → ∃ x ρ', lcL g tt te vs [d] ρ = some ([x], ρ') ∧ P n ρ' ∧ R x) → P (n + ds.length) ρ →
    ∃ out ρ', lcL g tt te vs ds ρ = some (out, ρ') ∧ P n ρ' ∧ (∀ x ∈ out, R x) ∧ out.length = ds.length
  | [], n, ρ, _, p => ⟨[], ρ, rfl, by simpa using p, by simp, rfl⟩
  | d :: ds, n, ρ, h, p => by
    obtain ⟨x, ρ1, e1, p1, r1⟩ := h d List.mem_cons_self (n + ds.length) ρ (by rw [show n + ds.length + 1 = n + (d :: ds).length by simp; omega]; exact p)
    obtain ⟨out, ρ2, e2, p2, r2, l2⟩ := lcL_inv (n := n) P R (fun d' hd => h d' (List.mem_cons_of_mem _ hd)) p1
    refine ⟨x :: out, ρ2, ?_, p2, ?_, by simp [l2]⟩
    · rw [lcL_cons, e1]
      simp only [Option.bind_some]
      rw [e2]
      rfl
    · intro y hy
      rcases List.mem_cons.mp hy with rfl | hy
      · exact r1
      · exact r2 y hy
end
/-! ### two clauses -/
section
variable {g : Cell → Q.Env → Option Q.Env} {tt : Q.Env → Option (Bool × Q.Env)} {it1 : Q.Env → Option (List D × Q.Env)} {g1 : Cell → Q.Env → Option Q.Env} {tt1 : Q.Env → Option (Bool × Q.Env)} {te : Q.Env → Option (Cell × Q.Env)} {vs vs1 : List Nat}
theorem lc2L_one (d : D) (ρ : Q.Env) : lc2L g tt it1 g1 tt1 te vs vs1 [d] ρ = (g (.val d) ρ).bind fun ρ1 => (tt ρ1).bind fun p => if p.1 = true then (it1 p.2).bind fun q => (lcL g1 tt1 te vs1 q.1 (wipeE q.2 vs1)).bind fun r => some (r.1, wipeE r.2 vs)
    else some ([], wipeE p.2 vs) := by
  simp only [lc2L, Option.bind_some, List.append_nil]
theorem lc2L_cons (d : D) (ds : List D) (ρ : Q.Env) : lc2L g tt it1 g1 tt1 te vs vs1 (d :: ds) ρ = (lc2L g tt it1 g1 tt1 te vs vs1 [d] ρ).bind fun p => (lc2L g tt it1 g1 tt1 te vs vs1 ds p.2).bind fun r => some (p.1 ++ r.1, r.2) := by
  rw [lc2L_one]
  conv => lhs; unfold lc2L
  cases g (.val d) ρ with
  | none => rfl
  | some ρ1 =>
    simp only [Option.bind_some]
    cases tt ρ1 with
    | none => rfl
    | some p =>
      simp only [Option.bind_some]
      split
      · cases it1 p.2 with
        | none => rfl
        | some q =>
          simp only [Option.bind_some]
          cases lcL g1 tt1 te vs1 q.1 (wipeE q.2 vs1) with
          | none => rfl
          | some r => simp only [Option.bind_some]
      · simp only [Option.bind_some, List.nil_append]
        cases lc2L g tt it1 g1 tt1 te vs vs1 ds (wipeE p.2 vs) <;> rfl
theorem lc2L_map {α : Type} (enc : α → D) (f : α → List D) {ρ : Q.Env} : ∀ {l : List α}, (∀ a ∈ l, lc2L g tt it1 g1 tt1 te vs vs1 [enc a] ρ = some (f a, ρ)) → lc2L g tt it1 g1 tt1 te vs vs1 (l.map enc) ρ = some (l.flatMap f, ρ)
  | [], _ => rfl
  | a :: l, h => by
    rw [List.map_cons, lc2L_cons, h a List.mem_cons_self]
    simp only [Option.bind_some]
    rw [lc2L_map enc f fun d' hd => h d' (List.mem_cons_of_mem _ hd)]
    rfl
end
section
variable {g : Cell → Q.Env → Option Q.Env} {b : Q.Env → Option Out}
def fst1 (g : Cell → Q.Env → Option Q.Env) (b : Q.Env → Option Out) (d : D) (ρ : Q.Env) : Option Out := (g (.val d) ρ).bind fun ρ1 => b ρ1
theorem forL_cons (d : D) (ds : List D) (ρ : Q.Env) : forL g b (d :: ds) ρ = (fst1 g b d ρ).bind fun o => match o with
    | .nx ρ2 => forL g b ds ρ2
    | .ct ρ2 => forL g b ds ρ2
    | .bk ρ2 => some (.nx ρ2)
    | .rt c ρ2 => some (.rt c ρ2) := by
  unfold fst1
  conv => lhs; unfold forL
  cases g (.val d) ρ <;> rfl
theorem forL_inv (P : Nat → Q.Env → Prop) : ∀ {ds : List D} {n : Nat} {ρ : Q.Env}, (∀ i d ρ, ds[i]? = some d → P (n + i) ρ → ∃ ρ', fst1 g b d ρ = some (.nx ρ') ∧ P (n + i + 1) ρ') → P n ρ → ∃ ρ', forL g b ds ρ = some (.nx ρ') ∧ P (n + ds.length) ρ'
  | [], n, ρ, _, p => ⟨ρ, rfl, p⟩
  | d :: ds, n, ρ, h, p => by
    obtain ⟨ρ1, e1, p1⟩ := h 0 d ρ rfl p
    obtain ⟨ρ2, e2, p2⟩ := forL_inv (n := n + 1) (ds := ds) P (fun i d ρ hd hp => by
      have := h (i + 1) d ρ (by simpa using hd) (by rw [show n + (i + 1) = n + 1 + i by omega]; exact hp)
      rw [show n + (i + 1) + 1 = n + 1 + i + 1 by omega] at this
      exact this) p1
    refine ⟨ρ2, ?_, by rw [show n + (d :: ds).length = n + 1 + ds.length by simp; omega]; exact p2⟩
    rw [forL_cons, e1]
    exact e2
end
/-! ### the list's items by their numbers -/
theorem atI_nn {α : Type} {l : List α} {i : Int} {x : α} (h0 : 0 ≤ i) (h : l[i.toNat]? = some x) : atI l i = some x := by
  have hl : i.toNat < l.length := (List.getElem?_eq_some_iff.mp h).1
  unfold atI ixN
  rw [if_pos h0, if_pos (by omega)]
  exact h
theorem atI_nat {α : Type} {l : List α} {i : Nat} {x : α} (h : l[i]? = some x) : atI l (i : Int) = some x := atI_nn (by omega) (by simpa using h)
theorem setD_nn {l : List D} {i : Int} {d : D} (h0 : 0 ≤ i) (h : i < l.length) : setD (.lst l) (.int i) d = some (.lst (l.set i.toNat d)) := by
  show (ixN l.length i).bind _ = _
  unfold ixN
  rw [if_pos h0, if_pos h]
  rfl
theorem seqIx_nn {n : Nat} {i : Int} (h0 : 0 ≤ i) (h : i < n) : seqIndex? i n = some i.toNat := by
  unfold seqIndex?
  have h1 : ¬ i < 0 := by omega
  simp [h1, h0, h]
theorem cut_hi {l : List D} {k : Int} (h : 0 ≤ k) : cutD l none (some k) = l.take k.toNat := by
  unfold cutD
  have e1 : HT.sIx l.length 0 none = 0 := rfl
  have e2 : HT.sIx l.length l.length (some k) = min k.toNat l.length := by
    show (if k < 0 then _ else _) = _
    rw [if_neg (by omega)]
  rw [e1, e2, List.drop_zero, Nat.sub_zero, ← List.take_eq_take_min]
theorem cut_lo {l : List D} {k : Int} (h : 0 ≤ k) : cutD l (some k) none = l.drop k.toNat := by
  unfold cutD
  have e1 : HT.sIx l.length l.length none = l.length := rfl
  have e2 : HT.sIx l.length 0 (some k) = min k.toNat l.length := by
    show (if k < 0 then _ else _) = _
    rw [if_neg (by omega)]
  rw [e1, e2]
  by_cases hk : k.toNat ≤ l.length
  · rw [Nat.min_eq_left hk, List.take_of_length_le (by simp)]
  · rw [Nat.min_eq_right (by omega), List.drop_of_length_le (Nat.le_refl _), List.drop_of_length_le (by omega), List.take_nil]
theorem cut_m1 {l : List D} : cutD l none (some (-1)) = l.dropLast := by
  unfold cutD
  have e1 : HT.sIx l.length 0 none = 0 := rfl
  have e2 : HT.sIx l.length l.length (some (-1)) = l.length - 1 := by
    show (if (-1 : Int) < 0 then (-1 + (l.length : Int)).toNat else min (-1 : Int).toNat l.length) = _
    rw [if_pos (by omega)]
    omega
  rw [e1, e2, List.drop_zero, Nat.sub_zero, List.dropLast_eq_take]
theorem rg0 (n : Int) : rgD 0 n = (List.range n.toNat).map fun i => D.int (i : Nat) := by
  unfold rgD
  simp
/-! ### coded data: ==, in -/
structure Ec {α : Type} [DecidableEq α] (enc : α → D) (pe : α → PyData) (k : Nat) : Prop where
  py : ∀ a, (enc a).py = some (pe a)
  lay : ∀ a, (pe a).canLay0 = true
  dep : ∀ a, (pe a).depth ≤ k
  eqv : ∀ a b, PyData.eqv (pe a) (pe b) = decide (a = b)
theorem ecI : Ec D.int PyData.int 0 := ⟨fun a => by simp [D.py], fun a => by simp [PyData.canLay0], fun a => by simp [PyData.depth], fun a b => by rw [Bool.eq_iff_iff]; simp [PyData.eqv]⟩
section
variable {α : Type} [DecidableEq α] {enc : α → D} {pe : α → PyData} {k : Nat}
theorem Ec.all (E : Ec enc pe k) : ∀ l : List α, pyAll (l.map enc) = some (l.map pe) ∧ PyData.canLayAll0 (l.map pe) = true ∧ PyData.depthAll (l.map pe) ≤ k
  | [] => ⟨rfl, by simp [PyData.canLayAll0], by simp [PyData.depthAll]⟩
  | a :: l => by
    obtain ⟨h1, h2, h3⟩ := E.all l
    refine ⟨?_, ?_, ?_⟩
    · simp [pyAll, E.py, h1]
    · simp [PyData.canLayAll0, E.lay, h2]
    · have := E.dep a
      simp [PyData.depthAll]
      omega
theorem Ec.eqvAll (E : Ec enc pe k) : ∀ l m : List α, PyData.eqvAll (l.map pe) (m.map pe) = decide (l = m)
  | [], [] => by simp [PyData.eqvAll]
  | [], _ :: _ => by simp [PyData.eqvAll]
  | _ :: _, [] => by simp [PyData.eqvAll]
  | a :: l, b :: m => by
    simp only [List.map_cons, PyData.eqvAll, E.eqv, E.eqvAll l m]
    rw [Bool.eq_iff_iff]
    simp
theorem Ec.list (E : Ec enc pe k) : Ec (fun l : List α => D.lst (l.map enc)) (fun l => PyData.list (l.map pe)) (k + 1) :=
  ⟨fun l => by simp [D.py, (E.all l).1], fun l => by simp [PyData.canLay0, (E.all l).2.1], fun l => by have := (E.all l).2.2; simp [PyData.depth]; omega, fun l m => by simp [PyData.eqv, E.eqvAll]⟩
theorem Ec.tup (E : Ec enc pe k) : Ec (fun l : List α => D.tup (l.map enc)) (fun l => PyData.tuple (l.map pe)) (k + 1) :=
  ⟨fun l => by simp [D.py, (E.all l).1], fun l => by simp [PyData.canLay0, (E.all l).2.1], fun l => by have := (E.all l).2.2; simp [PyData.depth]; omega, fun l m => by simp [PyData.eqv, E.eqvAll]⟩
theorem Ec.shp (E : Ec enc pe k) (hk : k ≤ 64) (a : α) : shp (enc a) = some (pe a) := by
  have h : SeqAt.shaped (pe a) = true := by
    unfold SeqAt.shaped
    rw [E.lay a, Bool.true_and]
    exact decide_eq_true (Nat.le_trans (E.dep a) hk)
  unfold Q.shp
  rw [E.py]
  simp [h]
theorem Ec.eq (E : Ec enc pe k) (hk : k ≤ 64) (a b : α) : hEq (enc a) (enc b) = some (.val (.bl (decide (a = b)))) := by
  unfold hEq
  rw [E.shp hk, E.shp hk]
  simp [E.eqv]
theorem Ec.ne (E : Ec enc pe k) (hk : k ≤ 64) (a b : α) : hNe (enc a) (enc b) = some (.val (.bl (!decide (a = b)))) := by
  unfold hNe
  rw [E.shp hk, E.shp hk]
  simp [E.eqv]
theorem Ec.any (E : Ec enc pe k) (a : α) (l : List α) : ((l.map pe).any fun z => PyData.eqv z (pe a)) = decide (a ∈ l) := by
  rw [Bool.eq_iff_iff]
  simp only [List.any_map, List.any_eq_true, Function.comp_apply, E.eqv, decide_eq_true_eq]
  exact ⟨fun ⟨x, h1, h2⟩ => h2 ▸ h1, fun h => ⟨a, h, rfl⟩⟩
theorem Ec.inL (E : Ec enc pe k) (hk : k ≤ 63) (a : α) (l : List α) : hIn (enc a) (.lst (l.map enc)) = some (.val (.bl (decide (a ∈ l)))) := by
  show hOr hInL _ (enc a) (.lst (l.map enc)) = _
  have : hInL (enc a) (.lst (l.map enc)) = some (.val (.bl (decide (a ∈ l)))) := by
    show (Q.shp (enc a)).bind _ = _
    rw [E.shp (by omega), E.list.shp (by omega)]
    simp only [Option.bind_some, E.any]
  unfold hOr
  rw [this]
theorem Ec.ninL (E : Ec enc pe k) (hk : k ≤ 63) (a : α) (l : List α) : hNotIn (enc a) (.lst (l.map enc)) = some (.val (.bl (!decide (a ∈ l)))) := by
  show hOr hNotInL _ (enc a) (.lst (l.map enc)) = _
  have : hNotInL (enc a) (.lst (l.map enc)) = some (.val (.bl (!decide (a ∈ l)))) := by
    show (Q.shp (enc a)).bind _ = _
    rw [E.shp (by omega), E.list.shp (by omega)]
    simp only [Option.bind_some, E.any]
  unfold hOr
  rw [this]
end
def encR (r : List Int) : D := .tup (r.map D.int)
def encL (r : List Int) : D := .lst (r.map D.int)
theorem ecR : Ec encR (fun r => PyData.tuple (r.map PyData.int)) 1 := ecI.tup
theorem ecL : Ec encL (fun r => PyData.list (r.map PyData.int)) 1 := ecI.list
end Q
end
section
set_option maxHeartbeats 1000000
namespace K81
open PySem PySem.Spec PyProof.Rows L2 Q
section
variable (C : Addr)
@[simp] theorem is_integer_i (i : Int) : phi_is_integer C [.val (.int i)] = some (.val (.bl true), [.val (.int i)]) := by
  simp [phi_is_integer, g_is_integer]
@[simp] theorem is_integer_b (i : Bool) : phi_is_integer C [.val (.bl i)] = some (.val (.bl false), [.val (.bl i)]) := by
  simp [phi_is_integer, g_is_integer]
@[simp] theorem is_integer_l (i : List D) : phi_is_integer C [.val (.lst i)] = some (.val (.bl false), [.val (.lst i)]) := by
  simp [phi_is_integer, g_is_integer]
@[simp] theorem is_integer_t (i : List D) : phi_is_integer C [.val (.tup i)] = some (.val (.bl false), [.val (.tup i)]) := by
  simp [phi_is_integer, g_is_integer]
@[simp] theorem is_between_i (v a b : Int) : phi_is_between C [.val (.int v), .val (.int a), .val (.int b)] = some (.val (.bl (decide (a ≤ v) && decide (v ≤ b))), [.val (.int v), .val (.int a), .val (.int b)]) := by
  by_cases h : a ≤ v <;> simp [phi_is_between, g_is_between, h]
@[simp] theorem is_between_b (v : Bool) (a b : Int) : phi_is_between C [.val (.bl v), .val (.int a), .val (.int b)] = some (.val (.bl false), [.val (.bl v), .val (.int a), .val (.int b)]) := by
  simp [phi_is_between, g_is_between]
/-! ### the draws -/
def Bx (n : Nat) (d : D) : Prop := ∃ (a : Int) (b : Bool) (m k : Int), d = .lst [.int a, .bl b, .int m, .int k] ∧ 0 ≤ m ∧ m < 2147483629 ∧ 0 ≤ k ∧ k + n ≤ 1000000000
theorem Bx.mono {n m : Nat} {d : D} (h : Bx n d) (hm : m ≤ n) : Bx m d := by
  obtain ⟨a, b, x, k, e, h1, h2, h3, h4⟩ := h
  exact ⟨a, b, x, k, e, h1, h2, h3, by omega⟩
theorem pow18 : hPow (.int 10) (.int 18) = some (.val (.int (10 ^ 18))) := vPow (@decide_eq_true _ (Classical.propDecidable _) (by decide))
theorem law_box (g : Int) : ∃ box, phi__law_box C [.val (.int g)] = some (.own box, [.val (.int g)]) ∧ Bx 1000000000 box := by
  refine ⟨.lst [.int (if g < 0 then -g else g), .bl (decide (10 ^ 18 ≤ if g < 0 then -g else g)), .int ((if g < 0 then -g else g) % 2147483629), .int 0], by simp [phi__law_box, g__law_box, pow18, vMod, sizeLine_eq], _, _, _, _, rfl, ?_, ?_, ?_, ?_⟩ <;> omega
theorem log_lt {i : Int} {n : Nat} (h : i.natAbs < 2 ^ n) (hn : n ≠ 0) : i.natAbs.log2 < n := by
  by_cases h0 : i.natAbs = 0
  · rw [h0]; simp; omega
  · exact (Nat.log2_lt h0).mpr h
theorem pMul_ok {i j : Int} (h : i.natAbs < 2 ^ 100) (h' : j.natAbs < 2 ^ 100) : pMul i j = true := by
  unfold pMul
  have := log_lt h (by decide)
  have := log_lt h' (by decide)
  exact @decide_eq_true _ (Classical.propDecidable _) (by omega)
theorem pDiv_ok {i j : Int} (h0 : 0 < j) (h' : j < 2 ^ 100) : pDiv i j = true := by
  unfold pDiv
  have := log_lt (i := j) (n := 100) (by omega) (by decide)
  exact @decide_eq_true _ (Classical.propDecidable _) ⟨h0, by omega⟩
theorem pPow_ok {i j : Int} (h0 : 0 ≤ j) (h1 : j ≤ 1000000) (h : i.natAbs < 2 ^ 64) : pPow i j = true := @decide_eq_true _ (Classical.propDecidable _) ⟨h0, h1, h⟩
theorem law_take {n : Nat} {box : D} {many : Int} (hb : Bx (n + 1) box) (h0 : 0 < many) (h1 : many < 2 ^ 60) : ∃ box' x, phi__law_take C [.own box, .val (.int many)] = some (.val (.int x), [.own box', .val (.int many)]) ∧ Bx n box' ∧ 0 ≤ x ∧ x < many := by
  obtain ⟨a, b, m, k, rfl, m0, m1, k0, k1⟩ := hb
  have hd : pDiv a many = true := pDiv_ok h0 (by omega)
  by_cases hc : b = true ∧ 0 < a
  · obtain ⟨rfl, ha⟩ := hc
    refine ⟨.lst [.int (a / many), .bl true, .int m, .int k], a % many, by simp [phi__law_take, g__law_take, ha, vMod h0, vDiv hd], ⟨_, _, _, _, rfl, m0, m1, k0, by omega⟩, Int.emod_nonneg _ (by omega), Int.emod_lt_of_pos _ h0⟩
  · have e1 : pMul 15487181 (k + 1) = true := pMul_ok (by decide) (by omega)
    have e2 : pPow (m + 15487181 * (k + 1) + 179426165) 5 = true := pPow_ok (by omega) (by omega) (by omega)
    have hx0 : 0 ≤ (m + 15487181 * (k + 1) + 179426165) ^ 5 % 2147483647 := Int.emod_nonneg _ (by omega)
    have hx1 : (m + 15487181 * (k + 1) + 179426165) ^ 5 % 2147483647 < 2147483647 := Int.emod_lt_of_pos _ (by omega)
    generalize hx : (m + 15487181 * (k + 1) + 179426165) ^ 5 % 2147483647 = mx at hx0 hx1
    have e3 : pMul mx 48271 = true := pMul_ok (by omega) (by decide)
    have e4 : pMul 10069 (k + 1) = true := pMul_ok (by decide) (by omega)
    have e5 : pPow (mx * 48271 + 10069 * (k + 1)) 3 = true := pPow_ok (by omega) (by omega) (by omega)
    have e6 : ∀ i, pDiv i 64 = true := fun i => pDiv_ok (by omega) (by omega)
    have o1 : (0 : Int) < 2147483647 := by omega
    have o2 : (0 : Int) < 2147483587 := by omega
    have h9 : ∃ x, phi__law_take C [.own (.lst [.int a, .bl b, .int m, .int k]), .val (.int many)] = some (.val (.int (x % many)), [.own (.lst [.int a, .bl b, .int m, .int (k + 1)]), .val (.int many)]) := by
      by_cases hb : b = true
      · subst hb
        have ha : ¬ 0 < a := fun z => hc ⟨rfl, z⟩
        refine ⟨(mx * 48271 + 10069 * (k + 1)) ^ 3 % 2147483587 / 64, ?_⟩
        simp only [phi__law_take, g__law_take]
        simp [ha, vMul e1, vPow e2, vMod o1, hx, vMul e3, vMul e4, vPow e5, vMod o2, vDiv (e6 _), vMod h0]
      · have hb : b = false := by simpa using hb
        subst hb
        refine ⟨(mx * 48271 + 10069 * (k + 1)) ^ 3 % 2147483587 / 64, ?_⟩
        simp only [phi__law_take, g__law_take]
        simp [vMul e1, vPow e2, vMod o1, hx, vMul e3, vMul e4, vPow e5, vMod o2, vDiv (e6 _), vMod h0]
    obtain ⟨x, h9⟩ := h9
    exact ⟨_, _, h9, ⟨_, _, _, _, rfl, m0, m1, by omega, by omega⟩, Int.emod_nonneg _ (by omega), Int.emod_lt_of_pos _ h0⟩
end
end K81
end
section
set_option maxHeartbeats 1000000
namespace K81
open PySem PySem.Spec PyProof.Rows L2 Q
section
variable (C : Addr)
theorem perm_er : ∀ {l : List D} {i : Nat} (hi : i < l.length), (l[i] :: l.eraseIdx i).Perm l
  | [], _, h => by simp at h
  | a :: l, 0, _ => by simp
  | a :: l, i + 1, h => by
    simp only [List.getElem_cons_succ, List.eraseIdx_cons_succ]
    exact (List.Perm.swap a _ _).trans (List.Perm.cons a (perm_er (by simpa using h)))
theorem perm_pop {l f items : List D} {i : Nat} {y : D} (h : (l ++ f).Perm items) (hy : l[i]? = some y) : (l.eraseIdx i ++ (f ++ [y])).Perm items := by
  obtain ⟨hi, rfl⟩ := List.getElem?_eq_some_iff.mp hy
  have h1 : (l[i] :: l.eraseIdx i).Perm l := perm_er hi
  refine List.Perm.trans ?_ h
  have h2 : (l.eraseIdx i ++ (f ++ [l[i]])).Perm (l[i] :: (l.eraseIdx i ++ f)) := by
    rw [← List.append_assoc]
    exact List.perm_append_comm.trans (by simp)
  exact h2.trans (List.Perm.append_right f h1)
theorem law_mixed {n : Nat} {box : D} {items : List D} (hb : Bx (n + items.length) box) (hl : items.length ≤ 1000) : ∃ box' out, phi__law_mixed C [.own box, .val (.lst items)] = some (.own (.lst out), [.own box', .val (.lst items)]) ∧ Bx n box' ∧ out.Perm items := by
  have hr : smI (items.length : Int) = true := smI_nn (by omega) (by omega)
  have inv := forL_inv (g := dName 4) (b := sDrop (dMth hAppend 3 (aCons (oFz (dMth hPopAt 2 (aCons (oFz (dCal 2 (phi__law_take C) (aCons (oVar 0) (aCons (oFz (dCall hLen (aCons (oVar 2) (aNil)))) (aNil))))) (aNil)))) (aNil))))
    (fun i ρ => ∃ box l f kc, ρ = [some (.par 0 box), some (.val (.lst items)), some (.own (.lst l)), some (.own (.lst f)), kc] ∧ okS (some kc) = true ∧ (l ++ f).Perm items ∧ l.length + i = items.length ∧ Bx (n + l.length) box)
    (ds := rgD 0 items.length) (n := 0) (ρ := [some (.par 0 box), some (.val (.lst items)), some (.own (.lst items)), some (.own (.lst [])), none]) ?_ ⟨box, items, [], none, rfl, rfl, by simp, by simp, hb⟩
  · obtain ⟨ρ', e, box', l, f, kc, rfl, _, hp, hll, hb'⟩ := inv
    have hl0 : l = [] := by
      have : (rgD 0 (items.length : Int)).length = items.length := by rw [rg0]; simp
      rw [this] at hll
      exact List.eq_nil_of_length_eq_zero (by omega)
    subst hl0
    refine ⟨box', f, ?_, by simpa using hb', by simpa using hp⟩
    simp only [phi__law_mixed, g__law_mixed]
    simp [hr, e, sizeLine_eq]
  · rintro i d ρ hd ⟨box, l, f, kc, rfl, hk, hp, hll, hb'⟩
    have hi : i < items.length := by
      have := (List.getElem?_eq_some_iff.mp hd).1
      rw [rg0] at this
      simpa using this
    rw [Nat.zero_add] at hll
    have hl1 : 0 < l.length := by omega
    obtain ⟨box', x, e1, b1, x0, x1⟩ := law_take C (n := n + (l.length - 1)) (box := box) (many := (l.length : Int)) (by rw [show n + (l.length - 1) + 1 = n + l.length by omega]; exact hb') (by omega) (by omega)
    have hx : x.toNat < l.length := by omega
    have e2 : seqIndex? x l.length = some x.toNat := seqIx_nn x0 x1
    have e3 : l[x.toNat]? = some l[x.toNat] := by simp [hx]
    have hf : f.length < 16777216 := by
      have := hp.length_eq
      rw [List.length_append] at this
      omega
    have hx2 : smI x = true := smI_nn x0 (by omega)
    refine ⟨_, ?_, box', l.eraseIdx x.toNat, f ++ [l[x.toNat]], some (.val d), rfl, rfl, perm_pop hp e3, ?_, ?_⟩
    · simp [fst1, hk, e1, hPopAt, hAppend, e2, e3, hx2, sizeLine_eq, hf, hx]
    · rw [List.length_eraseIdx_of_lt hx]; omega
    · rw [List.length_eraseIdx_of_lt hx]; exact b1
end
end K81
end
section
set_option maxHeartbeats 1000000
namespace K81
open PySem PySem.Spec PyProof.Rows L2 Q
/-! ### all rows -/
def allRows (s : Nat) : Nat → List (List Int)
  | 0 => [[]]
  | c + 1 => (allRows s c).flatMap fun r => (List.range s).map fun (t : Nat) => r ++ [(t : Int)]
theorem allRows_len (s : Nat) : ∀ c, (allRows s c).length = s ^ c
  | 0 => rfl
  | c + 1 => by
    show ((allRows s c).flatMap fun r => (List.range s).map fun (t : Nat) => r ++ [(t : Int)]).length = _
    rw [List.length_flatMap]
    simp [allRows_len s c, Nat.pow_succ, List.map_const', List.sum_replicate_nat]
theorem allRows_mem {s : Nat} : ∀ {c : Nat} {r : List Int}, r ∈ allRows s c ↔ r.length = c ∧ ∀ x ∈ r, 0 ≤ x ∧ x < s
  | 0, r => by
    show r ∈ [[]] ↔ _
    simp
    intro h
    subst h
    simp
  | c + 1, r => by
    show r ∈ (allRows s c).flatMap (fun r => (List.range s).map fun (t : Nat) => r ++ [(t : Int)]) ↔ _
    simp only [List.mem_flatMap, List.mem_map, List.mem_range]
    constructor
    · rintro ⟨q, hq, t, ht, rfl⟩
      obtain ⟨h1, h2⟩ := allRows_mem.mp hq
      refine ⟨by simp [h1], fun x hx => ?_⟩
      rcases List.mem_append.mp hx with hx | hx
      · exact h2 x hx
      · have : x = t := by simpa using hx
        omega
    · rintro ⟨h1, h2⟩
      have hne : r ≠ [] := by rintro rfl; simp at h1
      refine ⟨r.dropLast, allRows_mem.mpr ⟨by simp [h1], fun x hx => h2 x (List.dropLast_subset r hx)⟩, (r.getLast hne).toNat, ?_, ?_⟩
      · have := h2 _ (List.getLast_mem hne)
        omega
      · have := h2 _ (List.getLast_mem hne)
        rw [Int.toNat_of_nonneg this.1]
        exact List.dropLast_concat_getLast hne
section
variable (C : Addr)
theorem encR_app (r : List Int) (t : Int) : encR (r ++ [t]) = .tup (r.map D.int ++ [.int t]) := by simp [encR]
theorem law_every {s c : Nat} (hs : s ≤ 4) (hc : c ≤ 3) : phi__law_every C [.val (.int s), .val (.int c)] = some (.own (.lst ((allRows s c).map encR)), [.val (.int s), .val (.int c)]) := by
  have hs1 : smI (s : Int) = true := smI_nn (by omega) (by omega)
  have hc1 : smI (c : Int) = true := smI_nn (by omega) (by omega)
  have hb : ∀ i, i ≤ c → s ^ i ≤ 64 := fun i hi => by
    have h1 : s ^ i ≤ 4 ^ i := Nat.pow_le_pow_left hs i
    have h2 : 4 ^ i ≤ 4 ^ 3 := Nat.pow_le_pow_right (by omega) (by omega)
    omega
  have inv := forL_inv (g := dName 3) (b := sSeq (sSet 4 (dLst (aNil))) (sSeq (sFor (iSeq (oFz (dVar 2))) (dName 5) (sDrop (dMth hExtend 4 (aCons (oFz (dLc (iRange1 (aCons (oVar 0) (aNil))) (dName 6) (tTrue) (dOp hAdd (oVar 5) (oFz (dTup (aCons (oFz (dVar 6)) (aNil))))) [6])) (aNil))))) (sSet 2 (dMove 4))))
    (fun i ρ => i ≤ c ∧ ∃ x3 x4 x5, ρ = [some (.val (.int s)), some (.val (.int c)), some (.own (.lst ((allRows s i).map encR))), x3, x4, x5, none] ∧ okS (some x3) = true ∧ okS (some x4) = true ∧ okS (some x5) = true)
    (ds := rgD 0 c) (n := 0) (ρ := [some (.val (.int s)), some (.val (.int c)), some (.own (.lst [.tup []])), none, none, none, none]) ?_ ⟨by omega, none, none, none, rfl, rfl, rfl, rfl⟩
  · obtain ⟨ρ', e, _, x3, x4, x5, rfl, _⟩ := inv
    have : 0 + (rgD 0 (c : Int)).length = c := by rw [rg0]; simp
    rw [this] at e
    simp only [phi__law_every, g__law_every]
    simp [hc1, e, sizeLine_eq]
  · rintro i d ρ hd ⟨hi, x3, x4, x5, rfl, h3, h4, h5⟩
    rw [Nat.zero_add] at hi ⊢
    have hi' : i < c := by
      have := (List.getElem?_eq_some_iff.mp hd).1
      rw [rg0] at this
      simpa using this
    have inv2 := forL_inv (g := dName 5) (b := sDrop (dMth hExtend 4 (aCons (oFz (dLc (iRange1 (aCons (oVar 0) (aNil))) (dName 6) (tTrue) (dOp hAdd (oVar 5) (oFz (dTup (aCons (oFz (dVar 6)) (aNil))))) [6])) (aNil))))
      (fun j ρ => ∃ x5, ρ = [some (.val (.int s)), some (.val (.int c)), some (.val (.lst ((allRows s i).map encR))), some (.val d), some (.own (.lst ((((allRows s i).take j).flatMap fun r => (List.range s).map fun (t : Nat) => r ++ [(t : Int)]).map encR))), x5, none] ∧ okS (some x5) = true)
      (ds := (allRows s i).map encR) (n := 0) (ρ := [some (.val (.int s)), some (.val (.int c)), some (.val (.lst ((allRows s i).map encR))), some (.val d), some (.own (.lst [])), x5, none]) ?_ ⟨x5, by simp, h5⟩
    · obtain ⟨ρ', e, x5', rfl, h5'⟩ := inv2
      refine ⟨_, ?_, by omega, some (.val d), none, x5', rfl, rfl, rfl, h5'⟩
      have e' := e
      rw [Nat.zero_add, List.length_map, List.take_length] at e'
      simp [fst1, h3, h4, e', sizeLine_eq]
      rfl
    · rintro j r ρ hr ⟨x5, rfl, h5⟩
      rw [List.getElem?_map] at hr
      obtain ⟨row, hrow, rfl⟩ := Option.map_eq_some_iff.mp hr
      have hjl : j < (allRows s i).length := (List.getElem?_eq_some_iff.mp hrow).1
      rw [Nat.zero_add]
      refine ⟨[some (.val (.int s)), some (.val (.int c)), some (.val (.lst ((allRows s i).map encR))), some (.val d), some (.own (.lst ((((allRows s i).take (j + 1)).flatMap fun r => (List.range s).map fun (t : Nat) => r ++ [(t : Int)]).map encR))), some (.val (encR row)), none], ?_, _, rfl, rfl⟩
      have hrl : row.length = i := (allRows_mem.mp (List.mem_of_getElem? hrow)).1
      have lc := lcL_map (g := dName 6) (tt := tTrue) (te := dOp hAdd (oVar 5) (oFz (dTup (aCons (oFz (dVar 6)) (aNil))))) (vs := [6]) (fun (t : Nat) => D.int (t : Nat)) (fun t => [encR (row ++ [(t : Int)])])
        (ρ := [some (.val (.int s)), some (.val (.int c)), some (.val (.lst ((allRows s i).map encR))), some (.val d), some (.own (.lst ((((allRows s i).take j).flatMap fun r => (List.range s).map fun (t : Nat) => r ++ [(t : Int)]).map encR))), some (.val (encR row)), none]) (l := List.range s) ?_
      · have ht : (allRows s i).take (j + 1) = (allRows s i).take j ++ [row] := by rw [List.take_add_one, hrow]; rfl
        have hlen : ((((allRows s i).take j).flatMap fun r => (List.range s).map fun (t : Nat) => r ++ [(t : Int)]).map encR).length + ((List.range s).flatMap fun (t : Nat) => [encR (row ++ [(t : Int)])]).length ≤ 16777216 := by
          have h64 := hb i hi
          have hl := allRows_len s i
          simp only [List.length_map, List.length_flatMap, List.length_range, List.map_const', List.sum_replicate_nat, List.length_take, List.length_singleton]
          have : min j (allRows s i).length * s ≤ 64 * 4 := Nat.mul_le_mul (by omega) hs
          omega
        have hfl : ((List.range s).flatMap fun (t : Nat) => [encR (row ++ [(t : Int)])]) = ((List.range s).map fun (t : Nat) => row ++ [(t : Int)]).map encR := by
          rw [List.map_map]
          induction List.range s with
          | nil => rfl
          | cons a l ih => rw [List.flatMap_cons, ih]; rfl
        rw [hfl] at lc hlen
        have hlen2 : (((List.range s).map fun (t : Nat) => row ++ [(t : Int)]).map encR).length ≤ 16777216 := by omega
        simp only [fst1, dName_ap, List.getElem?_cons_succ, List.getElem?_cons_zero, h5, if_true, Option.bind_some, List.set_cons_succ, List.set_cons_zero, sDrop_ap, dMth_ap, aCons_ap, aNil_ap, oFz_ap, dLc_ap, iRange1_ap, oVar_ap, laC, la0, lkS, bS, cdV, hs1, rg0, Int.toNat_natCast, wipeE, lc, sizeLine_eq, hlen2, mth_ap, inC, in0, hExtend, hlen]
        simp [ht]
      · intro t ht
        rw [lcL_one]
        have h9 : i + 1 ≤ 16777216 := by omega
        have h8 : i < 16777216 := by omega
        simp [encR, hCatT, hrl, sizeLine_eq, wipeE, h9, h8]
end
end K81
end
section
set_option maxHeartbeats 1000000
namespace K81
open PySem PySem.Spec PyProof.Rows L2 Q
section
variable (C : Addr)
theorem flat_one {α β : Type} (f : α → β) (l : List α) : (l.flatMap fun a => [f a]) = l.map f := by
  induction l with
  | nil => rfl
  | cons a l ih => rw [List.flatMap_cons, ih]; rfl
theorem inls_f {α : Type} (f : α → D) (t : List Hd) : ∀ r : List α, inls (r.map (Sum.inl ∘ f) ++ t) = (inls t).bind fun ds => some (r.map f ++ ds)
  | [] => by show inls t = _; cases inls t <;> rfl
  | a :: r => by
    rw [List.map_cons, List.cons_append]
    show inls (.inl (f a) :: _) = _
    rw [inC, inls_f f t r]
    cases inls t <;> simp
theorem every_row {s c : Nat} (hs : s ≤ 4) (hc : c ≤ 3) : phi_every_row C [.val (.int s), .val (.int c)] = some (.own (.lst ((allRows s c).map encR)), [.val (.int s), .val (.int c)]) := by
  have hs1 : smI (s : Int) = true := smI_nn (by omega) (by omega)
  have hc1 : smI (c : Int) = true := smI_nn (by omega) (by omega)
  have inv := forL_inv (g := dName 3) (b := sSet 2 (dLc2 (iSeq (oFz (dVar 2))) (dName 4) (tTrue) (iRange1 (aCons (oVar 0) (aNil))) (dName 5) (tTrue) (dTup (aStar (oVar 4) (aCons (oFz (dVar 5)) (aNil)))) [4, 5] [5]))
    (fun i ρ => i ≤ c ∧ ∃ x3, ρ = [some (.val (.int s)), some (.val (.int c)), some (.own (.lst ((allRows s i).map encR))), x3, none, none] ∧ okS (some x3) = true)
    (ds := rgD 0 c) (n := 0) (ρ := [some (.val (.int s)), some (.val (.int c)), some (.own (.lst [.tup []])), none, none, none]) ?_ ⟨by omega, none, rfl, rfl⟩
  · obtain ⟨ρ', e, _, x3, rfl, _⟩ := inv
    have : 0 + (rgD 0 (c : Int)).length = c := by rw [rg0]; simp
    rw [this] at e
    simp only [phi_every_row, g_every_row]
    simp [hc1, e, sizeLine_eq]
  · rintro i d ρ hd ⟨hi, x3, rfl, h3⟩
    rw [Nat.zero_add] at hi ⊢
    have hi' : i < c := by
      have := (List.getElem?_eq_some_iff.mp hd).1
      rw [rg0] at this
      simpa using this
    have lc := lc2L_map (g := dName 4) (tt := tTrue) (it1 := iRange1 (aCons (oVar 0) (aNil))) (g1 := dName 5) (tt1 := tTrue) (te := dTup (aStar (oVar 4) (aCons (oFz (dVar 5)) (aNil)))) (vs := [4, 5]) (vs1 := [5]) encR (fun r => ((List.range s).map fun (t : Nat) => encR (r ++ [(t : Int)])))
      (ρ := [some (.val (.int s)), some (.val (.int c)), some (.val (.lst ((allRows s i).map encR))), some (.val d), none, none]) (l := allRows s i) ?_
    · have hfl : ((allRows s i).flatMap fun r => (List.range s).map fun (t : Nat) => encR (r ++ [(t : Int)])) = (allRows s (i + 1)).map encR := by
        show _ = ((allRows s i).flatMap fun r => (List.range s).map fun (t : Nat) => r ++ [(t : Int)]).map encR
        rw [List.map_flatMap]
        simp [Function.comp_def]
      rw [hfl] at lc
      have hlen : (allRows s (i + 1)).length ≤ 16777216 := by
        rw [allRows_len]
        have h1 : s ^ (i + 1) ≤ 4 ^ (i + 1) := Nat.pow_le_pow_left hs _
        have h2 : 4 ^ (i + 1) ≤ 4 ^ 3 := Nat.pow_le_pow_right (by omega) (by omega)
        omega
      refine ⟨_, ?_, by omega, some (.val d), rfl, rfl⟩
      simp [fst1, h3, wipeE, lc, sizeLine_eq, hlen]
    · intro row hrow
      have hrl : row.length = i := (allRows_mem.mp hrow).1
      have lc1 := lcL_map (g := dName 5) (tt := tTrue) (te := dTup (aStar (oVar 4) (aCons (oFz (dVar 5)) (aNil)))) (vs := [5]) (fun (t : Nat) => D.int (t : Nat)) (fun t => [encR (row ++ [(t : Int)])])
        (ρ := [some (.val (.int s)), some (.val (.int c)), some (.val (.lst ((allRows s i).map encR))), some (.val d), some (.val (encR row)), none]) (l := List.range s) ?_
      · rw [flat_one] at lc1
        rw [lc2L_one]
        simp [rg0, hs1, wipeE, lc1]
      · intro t ht
        rw [lcL_one]
        have h8 : i < 16777216 := by omega
        simp [encR, hrl, sizeLine_eq, wipeE, h8, inls_f, (show i ≤ 16777215 by omega)]
end
end K81
end
section
set_option maxHeartbeats 1000000
namespace K81
open PySem PySem.Spec PyProof.Rows L2 Q
section
variable (C : Addr)
@[simp] theorem is_list_l (l : List D) : phi_is_list C [.val (.lst l)] = some (.val (.bl true), [.val (.lst l)]) := by simp [phi_is_list, g_is_list]
@[simp] theorem is_list_t (l : List D) : phi_is_list C [.val (.tup l)] = some (.val (.bl true), [.val (.tup l)]) := by simp [phi_is_list, g_is_list]
@[simp] theorem is_list_i (i : Int) : phi_is_list C [.val (.int i)] = some (.val (.bl false), [.val (.int i)]) := by simp [phi_is_list, g_is_list]
@[simp] theorem is_list_n : phi_is_list C [.val .non] = some (.val (.bl false), [.val .non]) := by simp [phi_is_list, g_is_list]
@[simp] theorem is_tuple_of_t (l : List D) (n : Int) : phi_is_tuple_of C [.val (.tup l), .val (.int n)] = some (.val (.bl (decide ((l.length : Int) = n))), [.val (.tup l), .val (.int n)]) := by simp [phi_is_tuple_of, g_is_tuple_of]
@[simp] theorem is_tuple_of_l (l : List D) (n : Int) : phi_is_tuple_of C [.val (.lst l), .val (.int n)] = some (.val (.bl false), [.val (.lst l), .val (.int n)]) := by simp [phi_is_tuple_of, g_is_tuple_of]
theorem check_size (s : Nat) (h1 : 1 ≤ s) (h4 : s ≤ 4) : phi_check_size C [.val (.int s)] = some (.val .non, [.val (.int s)]) := by
  have h : (1 : Int) ≤ s ∧ (s : Int) ≤ 4 := by omega
  simp [phi_check_size, g_check_size, h.1, h.2]
theorem blsD_rep (l : List α) : blsD (l.map fun _ => D.bl true) = some (l.map fun _ => true) := by
  induction l with
  | nil => rfl
  | cons a l ih => simp only [List.map_cons, blsD, ih]; rfl
theorem all_true (l : List α) : hAll [.lst (l.map fun _ => D.bl true)] = some (.val (.bl true)) := by
  show (blsD (l.map fun _ => D.bl true)).bind _ = _
  rw [blsD_rep]
  simp
theorem are_things {s : Nat} {r : List Int} (hr : ∀ x ∈ r, 0 ≤ x ∧ x < s) (hl : r.length ≤ 1000) : phi_are_things C [.val (.int s), .val (encR r)] = some (.val (.bl true), [.val (.int s), .val (encR r)]) := by
  have lc := lcL_map (g := dName 2) (tt := tTrue) (te := dCal 3 (phi_is_between C) (aCons (oVar 2) (aCons (oFz (dC (.int 0))) (aCons (oFz (dOp hSub (oVar 0) (oFz (dC (.int 1))))) (aNil))))) (vs := [2]) D.int (fun _ => [D.bl true])
    (ρ := [some (.val (.int s)), some (.val (encR r)), none]) (l := r) ?_
  · rw [flat_one] at lc
    simp only [phi_are_things, g_are_things]
    simp [encR] at lc
    have hl' : r.length ≤ 16777216 := by omega
    simp [encR, wipeE, lc, sizeLine_eq, hl']
    have := all_true (l := r)

    simp [this]
  · intro x hx
    have h1 := hr x hx
    rw [lcL_one]
    have h2 : x ≤ (s : Int) - 1 := by omega
    simp [wipeE, h1.1, h2]
theorem is_row_of {s c : Nat} {r : List Int} (hr : r ∈ allRows s c) (hc : c ≤ 3) : phi_is_row_of C [.val (.int s), .val (.int c), .val (encR r)] = some (.val (.bl true), [.val (.int s), .val (.int c), .val (encR r)]) := by
  obtain ⟨h1, h2⟩ := allRows_mem.mp hr
  have h3 := are_things C h2 (by omega)
  have h4 : phi_is_tuple_of C [.val (encR r), .val (.int c)] = some (.val (.bl true), [.val (encR r), .val (.int c)]) := by
    show phi_is_tuple_of C [.val (.tup (r.map D.int)), .val (.int c)] = _
    rw [is_tuple_of_t]
    simp [h1, encR]
  simp [phi_is_row_of, g_is_row_of, h3, h4]
abbrev T3 : Type := Str × Nat × List (List Int)
def vB (t : T3) : D := .tup [.int t.2.1, .lst (t.2.2.map encR)]
def vF (t : T3) : D := .lst [.int t.2.1, .lst (t.2.2.map encR)]
def five : List Str := ["a", "b", "edge", "m", "way"]
structure OkT (s : Nat) (t : T3) : Prop where
  nm : t.1 ∈ five
  c0 : 1 ≤ t.2.1
  c1 : t.2.1 ≤ 3
  rw : ∀ r ∈ t.2.2, r ∈ allRows s t.2.1
  ln : t.2.2.length ≤ 64
theorem is_table {s : Nat} {t : T3} (h : OkT s t) : phi_is_table C [.val (.int s), .val (vB t)] = some (.val (.bl true), [.val (.int s), .val (vB t)]) := by
  have lc := lcL_map (g := dName 2) (tt := tTrue) (te := dCal 3 (phi_is_row_of C) (aCons (oVar 0) (aCons (oFz (dOp hIx (oVar 1) (oFz (dC (.int 0))))) (aCons (oFz (dVar 2)) (aNil))))) (vs := [2]) encR (fun _ => [D.bl true])
    (ρ := [some (.val (.int s)), some (.val (vB t)), none]) (l := t.2.2) ?_
  · rw [flat_one] at lc
    have h0 : (1 : Int) ≤ t.2.1 ∧ (t.2.1 : Int) ≤ 3 := by have := h.c0; have := h.c1; omega
    have hl' : t.2.2.length ≤ 16777216 := by have := h.ln; omega
    simp only [phi_is_table, g_is_table]
    simp only [vB] at lc
    have ha := all_true (l := t.2.2)
    try simp at lc
    simp [vB, h0.1, h0.2, wipeE, lc, sizeLine_eq, hl', ha]
  · intro r hr
    have h1 := is_row_of C (h.rw r hr) h.c1
    rw [lcL_one]
    simp [vB, wipeE, h1]
end
end K81
end
section
set_option maxHeartbeats 1000000
namespace K81
open PySem PySem.Spec PyProof.Rows L2 Q
section
variable (C : Addr)
theorem is_word {x : Str} (h : x ∈ five) : phi_is_word C [.val (.str x)] = some (.val (.bl true), [.val (.str x)]) := by
  have h : x = "a" ∨ x = "b" ∨ x = "edge" ∨ x = "m" ∨ x = "way" := by simpa [five] using h
  rcases h with rfl | rfl | rfl | rfl | rfl <;> kernel_rfl
/-! ### dicts by names -/
theorem lookP_map {α : Type} (nm : α → Str) (v : α → D) : ∀ {l : List α} {a : α}, (l.map nm).Nodup → a ∈ l → lookP key1 (l.map fun a => (D.str (nm a), v a)) (.inr (nm a)) = some (v a)
  | b :: l, a, nd, ha => by
    rw [List.map_cons, List.nodup_cons] at nd
    unfold lookP
    rw [List.map_cons, List.find?_cons]
    by_cases e : nm b = nm a
    · rcases List.mem_cons.mp ha with rfl | ha
      · simp [key1]
      · exact absurd (List.mem_map.mpr ⟨a, ha, e.symm⟩) nd.1
    · have e2 : ¬ (key1 (D.str (nm b)) = some (.inr (nm a))) := by simp [key1, e]
      have ha' : a ∈ l := by
        rcases List.mem_cons.mp ha with rfl | ha
        · exact absurd rfl e
        · exact ha
      simp only [e2, decide_false]
      have := lookP_map nm v nd.2 ha'
      unfold lookP at this
      exact this
  | [], a, _, ha => by simp at ha
theorem lookP_no {α : Type} (nm : α → Str) (v : α → D) {x : Str} : ∀ {l : List α}, x ∉ l.map nm → lookP key1 (l.map fun a => (D.str (nm a), v a)) (.inr x) = none
  | [], _ => rfl
  | b :: l, h => by
    rw [List.map_cons, List.mem_cons, not_or] at h
    unfold lookP
    rw [List.map_cons, List.find?_cons]
    have e2 : ¬ (key1 (D.str (nm b)) = some (.inr x)) := by simp [key1, Ne.symm h.1]
    simp only [e2, decide_false]
    exact lookP_no nm v h.2
def encBs (tabs : List T3) : List (D × D) := tabs.map fun t => (D.str t.1, vB t)
def encFs (tabs : List T3) : List (D × D) := tabs.map fun t => (D.str t.1, vF t)
structure OkTs (s : Nat) (tabs : List T3) : Prop where
  t : ∀ t ∈ tabs, OkT s t
  nd : (tabs.map (·.1)).Nodup
  ln : tabs.length ≤ 5
theorem are_tables {s : Nat} {tabs : List T3} (h : OkTs s tabs) : phi_are_tables C [.val (.int s), .val (.dct false (encBs tabs))] = some (.val (.bl true), [.val (.int s), .val (.dct false (encBs tabs))]) := by
  have lc := lcL_map (g := dName 2) (tt := tTrue) (te := dAndV (dCal 1 (phi_is_word C) (aCons (oVar 2) (aNil))) (dCal 2 (phi_is_table C) (aCons (oVar 0) (aCons (oFz (dOp hIx (oVar 1) (oVar 2))) (aNil))))) (vs := [2]) (fun t : T3 => D.str t.1) (fun _ => [D.bl true])
    (ρ := [some (.val (.int s)), some (.val (.dct false (encBs tabs))), none]) (l := tabs) ?_
  · rw [flat_one] at lc
    have hl' : tabs.length ≤ 16777216 := by have := h.ln; omega
    have hl2 : ¬ (5 < (tabs.length : Int)) := by have := h.ln; omega
    have hk : (encBs tabs).map (·.1) = tabs.map fun t => D.str t.1 := by unfold encBs; rw [List.map_map]; rfl
    have hl3 : (encBs tabs).length = tabs.length := by unfold encBs; simp
    simp only [phi_are_tables, g_are_tables]
    have ha := all_true (l := tabs)
    simp [wipeE, hk, hl3, hl2, lc, sizeLine_eq, hl', ha]
  · intro t ht
    have h1 := is_word C (h.t t ht).nm
    have h2 := is_table C (h.t t ht)
    have h3 : lookP key1 (encBs tabs) (.inr t.1) = some (vB t) := lookP_map (fun t : T3 => t.1) vB h.nd ht
    rw [lcL_one]
    simp [wipeE, h1, h2, h3]
end
end K81
end
section
set_option maxHeartbeats 1000000
namespace K81
open PySem PySem.Spec PyProof.Rows L2 Q
section
theorem lookP_is {κ : Type} [DecidableEq κ] {kf : D → Option κ} {l : List (D × D)} {k : κ} : (lookP kf l k).isSome = true ↔ ∃ p ∈ l, kf p.1 = some k := by
  unfold lookP
  rw [Option.isSome_map, List.find?_isSome]
  simp
theorem putP_is {κ : Type} [DecidableEq κ] {kf : D → Option κ} {l : List (D × D)} {k k' : κ} {kd d : D} (h : kf kd = some k) : (lookP kf (putP kf l k kd d) k').isSome = true ↔ k = k' ∨ (lookP kf l k').isSome = true := by
  rw [lookP_is, lookP_is]
  unfold putP
  split
  · rename_i ha
    simp only [List.any_eq_true, decide_eq_true_eq] at ha
    obtain ⟨p0, hp0, e0⟩ := ha
    constructor
    · rintro ⟨p, hp, e⟩
      obtain ⟨q, hq, rfl⟩ := List.mem_map.mp hp
      refine .inr ⟨q, hq, ?_⟩
      split at e <;> exact e
    · rintro (rfl | ⟨q, hq, e⟩)
      · exact ⟨_, List.mem_map.mpr ⟨p0, hp0, rfl⟩, by rw [if_pos e0]; exact e0⟩
      · refine ⟨_, List.mem_map.mpr ⟨q, hq, rfl⟩, ?_⟩
        split <;> exact e
  · constructor
    · rintro ⟨p, hp, e⟩
      rcases List.mem_append.mp hp with hp | hp
      · exact .inr ⟨p, hp, e⟩
      · have : p = (kd, d) := by simpa using hp
        subst this
        rw [h] at e
        exact .inl (Option.some.inj e)
    · rintro (rfl | ⟨q, hq, e⟩)
      · exact ⟨(kd, d), by simp, h⟩
      · exact ⟨q, by simp [hq], e⟩
theorem keyL_int : ∀ r : List Int, keyL (r.map D.int) = some (r.map Sum.inl)
  | [] => rfl
  | a :: r => by
    simp only [List.map_cons, keyL, keyL_int r, key1]
    rfl
theorem keyT_encR (r : List Int) : keyT (encR r) = some (r.map Sum.inl) := keyL_int r
theorem known_ok : ∀ (rows : List (List Int)) (acc : List (D × D)), ∃ m, foldP keyT (rows.map fun r => .tup [encR r, .bl true]) acc = some m ∧ ∀ k, (lookP keyT m k).isSome = true ↔ (lookP keyT acc k).isSome = true ∨ ∃ r ∈ rows, r.map Sum.inl = k
  | [], acc => ⟨acc, rfl, fun k => by simp⟩
  | r :: rows, acc => by
    obtain ⟨m, e, hm⟩ := known_ok rows (putP keyT acc (r.map Sum.inl) (encR r) (.bl true))
    refine ⟨m, ?_, fun k => ?_⟩
    · rw [List.map_cons]
      show (keyT (encR r)).bind _ = _
      rw [keyT_encR]
      exact e
    · rw [hm k, putP_is (keyT_encR r)]
      simp only [List.mem_cons]
      constructor
      · rintro ((h | h) | ⟨q, hq, e⟩)
        · exact .inr ⟨r, .inl rfl, h⟩
        · exact .inl h
        · exact .inr ⟨q, .inr hq, e⟩
      · rintro (h | ⟨q, (hq | hq), e'⟩)
        · exact .inl (.inr h)
        · exact .inl (.inl (hq ▸ e'))
        · exact .inr ⟨q, hq, e'⟩
theorem inl_inj {a b : List Int} (h : a.map (Sum.inl : Int → Key) = b.map Sum.inl) : a = b := by
  induction a generalizing b with
  | nil => cases b with
    | nil => rfl
    | cons x b => simp at h
  | cons x a ih => cases b with
    | nil => simp at h
    | cons y b =>
      simp only [List.map_cons, List.cons.injEq, Sum.inl.injEq] at h
      rw [h.1, ih h.2]
variable (C : Addr)
def tRows (s : Nat) (t : T3) : List (List Int) := (allRows s t.2.1).filter fun r => decide (r ∈ t.2.2)
theorem flat_if {α β : Type} (p : α → Bool) (f : α → β) (l : List α) : (l.flatMap fun a => if p a = true then [f a] else []) = (l.filter p).map f := by
  induction l with
  | nil => rfl
  | cons a l ih =>
    rw [List.flatMap_cons, ih, List.filter_cons]
    split <;> rfl
theorem target_where {s : Nat} {t : T3} (hs : s ≤ 4) (h : OkT s t) : phi_target_where C [.val (.int s), .val (.int t.2.1), .val (.lst (t.2.2.map encR))] = some (.val (.tup [.int t.2.1, .tup ((tRows s t).map encR)]), [.val (.int s), .val (.int t.2.1), .val (.lst (t.2.2.map encR))]) := by
  obtain ⟨m, e, hm⟩ := known_ok t.2.2 []
  have hm' : ∀ r : List Int, (lookP keyT m (r.map Sum.inl)).isSome = decide (r ∈ t.2.2) := fun r => by
    rw [Bool.eq_iff_iff, hm, decide_eq_true_eq]
    constructor
    · rintro (h | ⟨q, hq, e⟩)
      · simp [lookP] at h
      · rw [← inl_inj e]; exact hq
    · exact fun h => .inr ⟨r, h, rfl⟩
  have hl : t.2.2.length ≤ 16777216 := by have := h.ln; omega
  have lc := lcL_map (g := dName 4) (tt := tTrue) (te := dTup (aCons (oFz (dVar 4)) (aCons (oFz (dC (.bl true))) (aNil)))) (vs := [4]) encR (fun r => [D.tup [encR r, .bl true]])
    (ρ := [some (.val (.int s)), some (.val (.int t.2.1)), some (.val (.lst (t.2.2.map encR))), none, none]) (l := t.2.2) ?_
  · have lc2 := lcL_map (g := dName 4) (tt := dTst (dOp hIn (oVar 4) (oVar 3))) (te := dMove 4) (vs := [4]) encR (fun r => if decide (r ∈ t.2.2) = true then [encR r] else [])
      (ρ := [some (.val (.int s)), some (.val (.int t.2.1)), some (.val (.lst (t.2.2.map encR))), some (.own (.dct true m)), none]) (l := allRows s t.2.1) ?_
    · rw [flat_one] at lc
      rw [flat_if] at lc2
      have hev := every_row C hs h.c1
      have hlr : (tRows s t).length ≤ 16777216 := by
        have h1 : (tRows s t).length ≤ (allRows s t.2.1).length := List.length_filter_le _ _
        rw [allRows_len] at h1
        have h2 : s ^ t.2.1 ≤ 4 ^ t.2.1 := Nat.pow_le_pow_left hs _
        have h3 : 4 ^ t.2.1 ≤ 4 ^ 3 := Nat.pow_le_pow_right (by omega) h.c1
        omega
      have hd : hDictT [.lst (t.2.2.map fun r => D.tup [encR r, .bl true])] = some (.own (.dct true m)) := by
        show (foldP keyT _ []).bind _ = _
        rw [e]
        rfl
      simp only [phi_target_where, g_target_where]
      show _ = some (Cell.val (.tup [.int t.2.1, .tup (((allRows s t.2.1).filter fun r => decide (r ∈ t.2.2)).map encR)]), _)
      have hlr2 : ((allRows s t.2.1).filter fun r => decide (r ∈ t.2.2)).length ≤ 16777216 := hlr
      simp [wipeE, lc, lc2, hev, hd, sizeLine_eq, hl, hlr2]
    · intro r hr
      rw [lcL_one]
      have h1 : hIn (encR r) (.dct true m) = some (.val (.bl (decide (r ∈ t.2.2)))) := by
        show hOr (hInDct false) _ (encR r) (.dct true m) = _
        have : hInDct false (encR r) (.dct true m) = some (.val (.bl (decide (r ∈ t.2.2)))) := by
          show (dLook true m (encR r)).bind _ = _
          show ((keyT (encR r)).bind _).bind _ = _
          rw [keyT_encR]
          simp [hm']
        unfold hOr
        rw [this]
      by_cases hin : r ∈ t.2.2
      · simp [wipeE, h1, hin]
      · simp [wipeE, h1, hin]
  · intro r hr
    rw [lcL_one]
    simp [wipeE, sizeLine_eq]
end
end K81
end
section
set_option maxHeartbeats 1000000
namespace K81
open PySem PySem.Spec PyProof.Rows L2 Q
section
def dc1 (g : Cell → Q.Env → Option Q.Env) (tt : Q.Env → Option (Bool × Q.Env)) (tk tv : Q.Env → Option (Cell × Q.Env)) (vs : List Nat) (d : D) (acc : List (D × D)) (ρ : Q.Env) : Option (List (D × D) × Q.Env) :=
  (g (.val d) ρ).bind fun ρ1 => (tt ρ1).bind fun p => if p.1 = true then (tk p.2).bind fun q => (tv q.2).bind fun r => match q.1, r.1 with
      | .val kd, .val x => (key1 kd).bind fun kk => if acc.length < sizeLine then some (putP key1 acc kk kd x, wipeE r.2 vs) else none
      | .val kd, .own x => (key1 kd).bind fun kk => if acc.length < sizeLine then some (putP key1 acc kk kd x, wipeE r.2 vs) else none
      | _, _ => none
    else some (acc, wipeE p.2 vs)
theorem dcL_cons {g : Cell → Q.Env → Option Q.Env} {tt : Q.Env → Option (Bool × Q.Env)} {tk tv : Q.Env → Option (Cell × Q.Env)} {vs : List Nat} (d : D) (ds : List D) (acc : List (D × D)) (ρ : Q.Env) :
    dcL g tt tk tv vs (d :: ds) acc ρ = (dc1 g tt tk tv vs d acc ρ).bind fun p => dcL g tt tk tv vs ds p.1 p.2 := by
  unfold dc1
  conv => lhs; unfold dcL
  cases g (.val d) ρ with
  | none => rfl
  | some ρ1 =>
    simp only [Option.bind_some]
    cases tt ρ1 with
    | none => rfl
    | some p =>
      simp only [Option.bind_some]
      split
      · cases tk p.2 with
        | none => rfl
        | some q =>
          simp only [Option.bind_some]
          cases tv q.2 with
          | none => rfl
          | some r =>
            obtain ⟨c1, ρ2⟩ := q
            obtain ⟨c2, ρ3⟩ := r
            simp only [Option.bind_some]
            cases c1 <;> cases c2 <;> simp only [Option.bind_none]
            all_goals
              rename_i kd x
              cases key1 kd with
              | none => rfl
              | some kk =>
                simp only [Option.bind_some]
                split <;> rfl
      · simp only [Option.bind_some]
theorem putP_new {l : List (D × D)} {x : Str} {d : D} (h : ∀ p ∈ l, key1 p.1 ≠ some (.inr x)) : putP key1 l (.inr x) (.str x) d = l ++ [(.str x, d)] := by
  unfold putP
  rw [if_neg]
  simp only [List.any_eq_true, decide_eq_true_eq, not_exists, not_and]
  exact h
theorem dcL_names {α : Type} {g : Cell → Q.Env → Option Q.Env} {tt : Q.Env → Option (Bool × Q.Env)} {tk tv : Q.Env → Option (Cell × Q.Env)} {vs : List Nat} (nm : α → Str) (v : α → D) {ρ : Q.Env} : ∀ (l : List α) (acc : List (D × D)), (l.map nm).Nodup → (∀ a ∈ l, ∀ p ∈ acc, key1 p.1 ≠ some (.inr (nm a))) → acc.length + l.length ≤ 1000 →
    (∀ a ∈ l, ∀ acc : List (D × D), acc.length < 1000 → dc1 g tt tk tv vs (.str (nm a)) acc ρ = some (putP key1 acc (.inr (nm a)) (.str (nm a)) (v a), ρ)) →
    dcL g tt tk tv vs (l.map fun a => .str (nm a)) acc ρ = some (acc ++ l.map fun a => (D.str (nm a), v a), ρ)
  | [], acc, _, _, _, _ => by simp [dcL]
  | a :: l, acc, nd, hn, hl, h => by
    simp only [List.length_cons] at hl
    rw [List.map_cons, dcL_cons, h a List.mem_cons_self acc (by omega)]
    simp only [Option.bind_some]
    rw [putP_new (hn a List.mem_cons_self)]
    rw [List.map_cons, List.nodup_cons] at nd
    rw [dcL_names nm v l _ nd.2 ?_ (by simp; omega) fun b hb => h b (List.mem_cons_of_mem _ hb)]
    · simp
    · intro b hb p hp
      rcases List.mem_append.mp hp with hp | hp
      · exact hn b (List.mem_cons_of_mem _ hb) p hp
      · have : p = (D.str (nm a), v a) := by simpa using hp
        subst this
        intro e
        have e : some (Sum.inr (nm a) : Key) = some (.inr (nm b)) := e
        have e : nm a = nm b := by simpa using e
        exact nd.1 (e ▸ List.mem_map.mpr ⟨b, hb, rfl⟩)
theorem okSort_str (l : List Str) : okSort (l.map D.str) = true := by
  unfold okSort
  simp only [Bool.and_eq_true, List.all_eq_true]
  have hp : ∀ x : Str, pyOr (D.str x) = .str x := fun x => by simp [pyOr, D.py]
  refine ⟨?_, ?_, ?_, ?_⟩
  · intro d hd
    obtain ⟨x, _, rfl⟩ := List.mem_map.mp hd
    simp [D.py]
  · unfold allAlikeB
    simp only [List.all_eq_true]
    intro d hd e he
    obtain ⟨x, hx, rfl⟩ := List.mem_map.mp hd
    obtain ⟨y, hy, rfl⟩ := List.mem_map.mp he
    obtain ⟨x', _, rfl⟩ := List.mem_map.mp hx
    obtain ⟨y', _, rfl⟩ := List.mem_map.mp hy
    simp [hp, PySem.W.alike]
  · unfold sortableB
    rw [Bool.or_eq_true]
    refine .inr ?_
    simp only [List.all_eq_true]
    intro d hd
    obtain ⟨x, hx, rfl⟩ := List.mem_map.mp hd
    obtain ⟨x', _, rfl⟩ := List.mem_map.mp hx
    rw [hp]
    rfl
  · intro d hd
    obtain ⟨x, hx, rfl⟩ := List.mem_map.mp hd
    rw [hp]
    simp [PyData.depth]
theorem sort_str (l : List Str) : (l.map D.str).mergeSort leD = (l.mergeSort leS).map D.str :=
  (List.map_mergeSort (r := leS) (f := D.str) (s := leD) fun a _ b _ => (leD_str a b).symm).symm
def sortT (tabs : List T3) : List T3 := tabs.mergeSort fun a b => leS a.1 b.1
theorem sortT_names (tabs : List T3) : (sortT tabs).map (·.1) = (tabs.map (·.1)).mergeSort leS :=
  List.map_mergeSort fun a _ b _ => rfl
theorem sortT_perm (tabs : List T3) : (sortT tabs).Perm tabs := List.mergeSort_perm _ _
def vT (s : Nat) (t : T3) : D := .tup [.int t.2.1, .tup ((tRows s t).map encR)]
def bookD (C : Addr) (s : Nat) (ts : List T3) : D := .obj C [("size", .int s), ("names", .tup (ts.map fun t => .str t.1)), ("_targets", .dct false (ts.map fun t => (D.str t.1, vT s t)))]
theorem pf1 (v : D) : putFD "size" v [] = [(("size" : Str), v)] := rfl
theorem pf2 (v a : D) : putFD "names" v [(("size" : Str), a)] = [(("size" : Str), a), (("names" : Str), v)] := by kernel_rfl
theorem pf3 (v a b : D) : putFD "_targets" v [(("size" : Str), a), (("names" : Str), b)] = [(("size" : Str), a), (("names" : Str), b), (("_targets" : Str), v)] := by kernel_rfl
theorem lk2 (a b : D) : List.lookup ("names" : Str) [(("size" : Str), a), ("names", b)] = some b := by kernel_rfl
variable (C : Addr)
theorem OkTs.perm {s : Nat} {ts tabs : List T3} (h : OkTs s tabs) (p : ts.Perm tabs) : OkTs s ts := ⟨fun t ht => h.t t (p.mem_iff.mp ht), (p.map _).nodup_iff.mpr h.nd, by rw [p.length_eq]; exact h.ln⟩
theorem book_init {s : Nat} {tabs : List T3} (h1 : 1 ≤ s) (h4 : s ≤ 4) (h : OkTs s tabs) : phi_BookD_initD C [.own (.obj C []), .val (.int s), .val (.dct false (encBs tabs))] = some (.val .non, [.own (bookD C s (sortT tabs)), .val (.int s), .val (.dct false (encBs tabs))]) := by
  have hp := sortT_perm tabs
  have h' := h.perm hp
  have dc := dcL_names (g := dName 3) (tt := tTrue) (tk := dVar 3) (tv := dCal 3 (phi_target_where C) (aCons (oVar 1) (aCons (oFz (dOp hIx (oFz (dOp hIx (oVar 2) (oVar 3))) (oFz (dC (.int 0))))) (aCons (oFz (dOp hIx (oFz (dOp hIx (oVar 2) (oVar 3))) (oFz (dC (.int 1))))) (aNil))))) (vs := [3]) (fun t : T3 => t.1) (vT s)
    (ρ := [some (.par 0 (.obj C [("size", .int s), ("names", .tup ((sortT tabs).map fun t => .str t.1))])), some (.val (.int s)), some (.val (.dct false (encBs tabs))), none]) (sortT tabs) [] h'.nd (by simp) (by have := h'.ln; simp; omega) ?_
  · have hl : (encBs tabs).length ≤ 16777216 := by have := h.ln; unfold encBs; simp; omega
    have hk : (encBs tabs).map (·.1) = (tabs.map (·.1)).map D.str := by unfold encBs; rw [List.map_map, List.map_map]; rfl
    have hs : (hOrC hSorted hSortedD) [.lst ((tabs.map (·.1)).map D.str)] = some (.own (.lst ((sortT tabs).map fun t => .str t.1))) := by
      have : hSorted [.lst ((tabs.map (·.1)).map D.str)] = some (.own (.lst ((sortT tabs).map fun t => .str t.1))) := by
        show (if okSort ((tabs.map (·.1)).map D.str) = true then some (Cell.own (.lst (((tabs.map (·.1)).map D.str).mergeSort leD))) else none) = _
        rw [if_pos (okSort_str _), sort_str, ← sortT_names, List.map_map]
        rfl
      unfold hOrC
      rw [this]
    have hli : hList [.dct false (encBs tabs)] = some (.own (.lst ((tabs.map (·.1)).map D.str))) := by
      show (if (encBs tabs).length ≤ sizeLine then some (Cell.own (.lst ((encBs tabs).map (·.1)))) else none) = _
      rw [if_pos (by rw [sizeLine_eq]; exact hl), hk]
    have hc := check_size C s h1 h4
    have ha := are_tables C h
    simp only [phi_BookD_initD, g_BookD_initD]
    rw [List.nil_append] at dc
    rw [List.map_map] at hs hli
    simp [hc, ha, hli, hs, fldD, pf1, pf2, pf3, lk2, wipeE, dc, bookD]
  · intro t ht acc hacc
    have ht' : t ∈ tabs := hp.mem_iff.mp ht
    have h3 : lookP key1 (encBs tabs) (.inr t.1) = some (vB t) := lookP_map (fun t : T3 => t.1) vB h.nd ht'
    have h5 := target_where C h4 (h.t t ht')
    have h6 : acc.length < 16777216 := by omega
    unfold dc1
    simp [h3, vB, h5, vT, key1, sizeLine_eq, h6, wipeE]
end
end K81
end
section
set_option maxHeartbeats 1000000
namespace K81
open PySem PySem.Spec PyProof.Rows L2 Q
section
theorem lo1 (a b c : D) : List.lookup ("size" : Str) [(("size" : Str), a), (("names" : Str), b), (("_targets" : Str), c)] = some a := by kernel_rfl
theorem lo2 (a b c : D) : List.lookup ("names" : Str) [(("size" : Str), a), (("names" : Str), b), (("_targets" : Str), c)] = some b := by kernel_rfl
theorem lo3 (a b c : D) : List.lookup ("_targets" : Str) [(("size" : Str), a), (("names" : Str), b), (("_targets" : Str), c)] = some c := by kernel_rfl
theorem lo4 (a b c : D) : List.lookup ("target" : Str) [(("size" : Str), a), (("names" : Str), b), (("_targets" : Str), c)] = none := by kernel_rfl
theorem lo5 (a b c : D) : List.lookup ("columns" : Str) [(("size" : Str), a), (("names" : Str), b), (("_targets" : Str), c)] = none := by kernel_rfl
theorem lo6 (a b c : D) : List.lookup ("rows" : Str) [(("size" : Str), a), (("names" : Str), b), (("_targets" : Str), c)] = none := by kernel_rfl
theorem ninD (l : List (D × D)) (x : Str) : hNotIn (.str x) (.dct false l) = some (.val (.bl (!(lookP key1 l (.inr x)).isSome))) := rfl
theorem fVs_str : ∀ l : List Str, fVs (l.map D.str) = some (l.map V.str)
  | [] => rfl
  | x :: l => by
    show (fV (.str x)).bind _ = _
    rw [fVs_str l]
    rfl
theorem ninN {l : List Str} {x : Str} (h : x ∈ l) : hNotIn (.str x) (.tup (l.map D.str)) = some (.val (.bl false)) := by
  have e0 : hNotIn (.str x) (.tup (l.map D.str)) = hInF true (.str x) (.tup (l.map D.str)) := rfl
  have e1 : hInF true (.str x) (.tup (l.map D.str)) = (fVs (l.map D.str)).bind fun xs => if (flatV (.str x) && xs.all flatV) = true then some (Cell.val (.bl (!inV (.str x) xs))) else none := rfl
  rw [e0, e1, fVs_str]
  show (if (flatV (.str x) && (l.map V.str).all flatV) = true then some (Cell.val (.bl (!inV (.str x) (l.map V.str)))) else none) = _
  have h1 : (flatV (.str x) && (l.map V.str).all flatV) = true := by
    rw [Bool.and_eq_true]
    refine ⟨rfl, ?_⟩
    rw [List.all_eq_true]
    intro v hv
    obtain ⟨y, _, rfl⟩ := List.mem_map.mp hv
    rfl
  rw [if_pos h1]
  have h2 : inV (.str x) (l.map V.str) = true := by
    unfold inV
    rw [List.any_eq_true]
    refine ⟨V.str x, List.mem_map.mpr ⟨x, h, rfl⟩, ?_⟩
    first
      | (simp [eqV]; done)
      | decide
      | rfl
  rw [h2]
  rfl
variable (C : Addr)
theorem check_book (s : Nat) (ts : List T3) : phi_check_book C [.val (bookD C s ts)] = some (.val .non, [.val (bookD C s ts)]) := by
  simp [phi_check_book, g_check_book, bookD]
theorem b_target {s : Nat} {ts : List T3} {t : T3} (nd : (ts.map (·.1)).Nodup) (ht : t ∈ ts) : phi_Book_target C [.val (bookD C s ts), .val (.str t.1)] = some (.val (vT s t), [.val (bookD C s ts), .val (.str t.1)]) := by
  have h3 : lookP key1 (ts.map fun t => (D.str t.1, vT s t)) (.inr t.1) = some (vT s t) := lookP_map (fun t : T3 => t.1) (vT s) nd ht
  simp [phi_Book_target, g_Book_target, bookD, lo3, ninD, h3]
theorem ixT0 (s : Nat) (t : T3) : hIx (vT s t) (.int 0) = some (.val (.int t.2.1)) := by simp [vT]
theorem ixT1 (s : Nat) (t : T3) : hIx (vT s t) (.int 1) = some (.val (.tup ((tRows s t).map encR))) := by simp [vT]
theorem b_columns {s : Nat} {ts : List T3} {t : T3} (nd : (ts.map (·.1)).Nodup) (ht : t ∈ ts) : phi_Book_columns C [.val (bookD C s ts), .val (.str t.1)] = some (.val (.int t.2.1), [.val (bookD C s ts), .val (.str t.1)]) := by
  have h3 := b_target C (s := s) nd ht
  simp only [bookD] at h3
  simp [phi_Book_columns, g_Book_columns, bookD, lo4, h3, ixT0, ixT1]
theorem b_rows {s : Nat} {ts : List T3} {t : T3} (nd : (ts.map (·.1)).Nodup) (ht : t ∈ ts) : phi_Book_rows C [.val (bookD C s ts), .val (.str t.1)] = some (.val (.tup ((tRows s t).map encR)), [.val (bookD C s ts), .val (.str t.1)]) := by
  have h3 := b_target C (s := s) nd ht
  simp only [bookD] at h3
  simp [phi_Book_rows, g_Book_rows, bookD, lo4, h3, ixT0, ixT1]
/-! ### wishes -/
abbrev At : Type := Str × List Int
def encA (a : At) : D := .tup [.str "in", .str a.1, encR a.2]
structure OkA (ts : List T3) (many : Nat) (a : At) : Prop where
  ex : ∃ t ∈ ts, t.1 = a.1 ∧ a.2.length = t.2.1
  pl : ∀ x ∈ a.2, 0 ≤ x ∧ x < many
  ln : a.2.length ≤ 3
def seqB (b : Bool) (l : List D) : D := if b = true then .tup l else .lst l
def wD (b : Bool) (many : Nat) (as : List At) : D := .tup [.int many, seqB b (as.map encA)]
theorem in_io : hIn (.str "in") (.tup [.str "in", .str "out"]) = some (.val (.bl true)) := by kernel_rfl
theorem eq_io : hEq (.str "in") (.str "in") = some (.val (.bl true)) := by kernel_rfl
theorem is_atom_of {s many : Nat} {ts : List T3} {a : At} (nd : (ts.map (·.1)).Nodup) (h : OkA ts many a) : phi_is_atom_of C [.val (bookD C s ts), .val (.int many), .val (encA a)] = some (.val (.bl true), [.val (bookD C s ts), .val (.int many), .val (encA a)]) := by
  obtain ⟨t, ht, e1, e2⟩ := h.ex
  have lc := lcL_map (g := dName 3) (tt := tTrue) (te := dCal 3 (phi_is_between C) (aCons (oVar 3) (aCons (oFz (dC (.int 0))) (aCons (oFz (dOp hSub (oVar 1) (oFz (dC (.int 1))))) (aNil))))) (vs := [3]) D.int (fun _ => [D.bl true])
    (ρ := [some (.val (bookD C s ts)), some (.val (.int many)), some (.val (encA a)), none]) (l := a.2) ?_
  · rw [flat_one] at lc
    have hc := b_columns C (s := s) nd ht
    rw [e1] at hc
    have hn : hNotIn (.str a.1) (.tup (ts.map fun t => D.str t.1)) = some (.val (.bl false)) := by
      have := ninN (l := ts.map (·.1)) (x := a.1) (List.mem_map.mpr ⟨t, ht, e1⟩)
      rw [List.map_map] at this
      exact this
    have ha := all_true (l := a.2)
    have hl : a.2.length ≤ 16777216 := by have := h.ln; omega
    simp only [bookD, encA, encR] at lc hc
    simp only [phi_is_atom_of, g_is_atom_of]
    simp [bookD, encA, encR, in_io, hn, lo2, lo5, hc, e2, wipeE, lc, ha, sizeLine_eq]
    rw [← e2]
    simp [hl, ha]
  · intro x hx
    have h1 := h.pl x hx
    rw [lcL_one]
    have h2 : x ≤ (many : Int) - 1 := by omega
    simp [wipeE, h1.1, h2]
end
end K81
end
section
set_option maxHeartbeats 1000000
namespace K81
open PySem PySem.Spec PyProof.Rows L2 Q
section
variable (C : Addr)
structure OkW (ts : List T3) (many : Nat) (as : List At) : Prop where
  nd : (ts.map (·.1)).Nodup
  a : ∀ a ∈ as, OkA ts many a
  m1 : 1 ≤ many
  m2 : many ≤ 6
  ln : as.length ≤ 60
theorem is_conjunction {s many : Nat} {ts : List T3} {as : List At} (b : Bool) (h : OkW ts many as) : phi_is_conjunction C [.val (bookD C s ts), .val (wD b many as)] = some (.val (.bl true), [.val (bookD C s ts), .val (wD b many as)]) := by
  have lc := lcL_map (g := dName 2) (tt := tTrue) (te := dCal 3 (phi_is_atom_of C) (aCons (oVar 0) (aCons (oFz (dOp hIx (oVar 1) (oFz (dC (.int 0))))) (aCons (oVar 2) (aNil))))) (vs := [2]) encA (fun _ => [D.bl true])
    (ρ := [some (.val (bookD C s ts)), some (.val (wD b many as)), none]) (l := as) ?_
  · rw [flat_one] at lc
    have hc := check_book C s ts
    have ha := all_true (l := as)
    have hm : (many : Int) ≤ 100 := by have := h.m2; omega
    have hl : (as.length : Int) ≤ 20000 := by have := h.ln; omega
    have hl2 : as.length ≤ 16777216 := by have := h.ln; omega
    simp only [phi_is_conjunction, g_is_conjunction]
    cases b
    · simp only [wD, seqB, if_false, Bool.false_eq_true] at lc ⊢
      simp [hc, hm, hl, wipeE, lc, ha, sizeLine_eq, hl2]
    · simp only [wD, seqB, if_true] at lc ⊢
      simp [hc, hm, hl, wipeE, lc, ha, sizeLine_eq, hl2]
  · intro a ha
    have h1 := is_atom_of C (s := s) h.nd (h.a a ha)
    rw [lcL_one]
    simp [wipeE, wD, h1]
theorem is_wish_list {s many : Nat} {ts : List T3} {as : List At} (b : Bool) (h : OkW ts many as) : phi_is_wish_list C [.val (bookD C s ts), .val (wD b many as)] = some (.val (.bl true), [.val (bookD C s ts), .val (wD b many as)]) := by
  have lc := lcL_map (g := dName 2) (tt := tTrue) (te := dOp hEq (oFz (dOp hIx (oVar 2) (oFz (dC (.int 0))))) (oFz (dC (.str "in")))) (vs := [2]) encA (fun _ => [D.bl true])
    (ρ := [some (.val (bookD C s ts)), some (.val (wD b many as)), none]) (l := as) ?_
  · rw [flat_one] at lc
    have hc := is_conjunction C (s := s) b h
    have ha := all_true (l := as)
    have hm : ¬ (40 < (many : Int)) := by have := h.m2; omega
    have hl : ¬ (60 < (as.length : Int)) := by have := h.ln; omega
    have hl2 : as.length ≤ 16777216 := by have := h.ln; omega
    simp only [phi_is_wish_list, g_is_wish_list]
    cases b
    · simp only [wD, seqB, if_false, Bool.false_eq_true] at lc hc ⊢
      simp [hc, hm, hl, wipeE, lc, ha, sizeLine_eq, hl2]
    · simp only [wD, seqB, if_true] at lc hc ⊢
      simp [hc, hm, hl, wipeE, lc, ha, sizeLine_eq, hl2]
  · intro a ha
    rw [lcL_one]
    simp [wipeE, encA, eq_io]
theorem check_wishes {s many : Nat} {ts : List T3} {as : List At} (b : Bool) (h : OkW ts many as) : phi_check_wishes C [.val (bookD C s ts), .val (wD b many as)] = some (.val .non, [.val (bookD C s ts), .val (wD b many as)]) := by
  have h1 := check_book C s ts
  have h2 := is_wish_list C (s := s) b h
  simp [phi_check_wishes, g_check_wishes, h1, h2]
end
/-! ### what is left, plainly -/
def lvD (left : List (List Int)) : D := .lst (left.map encL)
/-- the things left at x -/
def lt (left : List (List Int)) (x : Int) : List Int := left.getD x.toNat []
def canHave (left : List (List Int)) (pl row : List Int) : Bool := (pl.zip row).all fun p => decide (p.2 ∈ lt left p.1)
/-- the rows that may still be had -/
def had (left : List (List Int)) (pl : List Int) (rows : List (List Int)) : List (List Int) := rows.filter (canHave left pl)
def kept (rows : List (List Int)) (c : Nat) : List Int := rows.map fun r => r.getD c 0
structure OkL (s many : Nat) (left : List (List Int)) : Prop where
  ln : left.length = many
  el : ∀ l ∈ left, ∀ x ∈ l, 0 ≤ x ∧ x < s
  sz : ∀ l ∈ left, l.length ≤ 4
section
variable (C : Addr)
theorem ixL {left : List (List Int)} {x : Int} (h0 : 0 ≤ x) (h1 : x < left.length) : hIx (lvD left) (.int x) = some (.val (encL (lt left x))) := by
  have hx : x.toNat < left.length := by omega
  unfold lvD
  rw [vIxL, atI_nn (x := encL (lt left x)) h0 ?_]
  · rfl
  · unfold lt
    rw [List.getElem?_map]
    simp [hx]
theorem inLeft {left : List (List Int)} (x t : Int) : hIn (.int t) (encL (lt left x)) = some (.val (.bl (decide (t ∈ lt left x)))) := ecI.inL (by omega) t _
theorem ninLeft (t : Int) (l : List Int) : hNotIn (.int t) (encL l) = some (.val (.bl (!decide (t ∈ l)))) := ecI.ninL (by omega) t _
theorem can_have {many : Nat} {left : List (List Int)} {a : At} {row : List Int} (hl : left.length = many) (hp : ∀ x ∈ a.2, 0 ≤ x ∧ x < many) (hn : a.2.length ≤ 3) (left' : Cell) (hc : left' = .own (lvD left) ∨ left' = .val (lvD left)) :
    phi_can_have C [left', .val (encA a), .val (encR row)] = some (.val (.bl (canHave left a.2 row)), [left', .val (encA a), .val (encR row)]) := by
  have main : ∀ c0 : Cell, c0.d = lvD left → (c0 = .par 0 (lvD left) ∨ c0 = .val (lvD left)) → lcL (dGtup 2 (dGcons (dName 3) (dGcons (dName 4) dGnil))) tTrue (dOp hIn (oVar 4) (oFz (dOp hIx (oVar 0) (oVar 3)))) [3, 4] (zipD (a.2.map D.int) (row.map D.int)) [some c0, some (.val (encA a)), some (.val (encR row)), none, none] =
      some ((a.2.zip row).map fun p => D.bl (decide (p.2 ∈ lt left p.1)), [some c0, some (.val (encA a)), some (.val (encR row)), none, none]) := by
    intro c0 hd h0
    have hz : zipD (a.2.map D.int) (row.map D.int) = (a.2.zip row).map fun p => D.tup [.int p.1, .int p.2] := by
      unfold zipD
      rw [List.zipWith_map]
      rw [List.zip_eq_zipWith, List.map_zipWith]
    rw [hz]
    have lc := lcL_map (g := dGtup 2 (dGcons (dName 3) (dGcons (dName 4) dGnil))) (tt := tTrue) (te := dOp hIn (oVar 4) (oFz (dOp hIx (oVar 0) (oVar 3)))) (vs := [3, 4]) (fun p : Int × Int => D.tup [.int p.1, .int p.2]) (fun p => [D.bl (decide (p.2 ∈ lt left p.1))])
      (ρ := [some c0, some (.val (encA a)), some (.val (encR row)), none, none]) (l := a.2.zip row) ?_
    · rw [lc, flat_one]
    · intro p hpz
      have h1 := hp p.1 (List.of_mem_zip hpz).1
      have h2 := ixL (left := left) h1.1 (by omega)
      rw [lcL_one]
      rcases h0 with rfl | rfl <;> simp [wipeE, h2, inLeft]
  have hall : hAll [.lst ((a.2.zip row).map fun p => D.bl (decide (p.2 ∈ lt left p.1)))] = some (.val (.bl (canHave left a.2 row))) := by
    have : ∀ l : List (Int × Int), blsD (l.map fun p => D.bl (decide (p.2 ∈ lt left p.1))) = some (l.map fun p => decide (p.2 ∈ lt left p.1)) := fun l => by
      induction l with
      | nil => rfl
      | cons p l ih => simp only [List.map_cons, blsD, ih]; rfl
    show (blsD _).bind _ = _
    rw [this]
    unfold canHave
    simp [List.all_map, Function.comp_def]
  have hlen : ((a.2.zip row).map fun p => D.bl (decide (p.2 ∈ lt left p.1))).length ≤ 16777216 := by
    rw [List.length_map, List.length_zip]
    omega
  have m1 := main (.par 0 (lvD left)) rfl (.inl rfl)
  have m2 := main (.val (lvD left)) rfl (.inr rfl)
  simp only [phi_can_have, g_can_have]
  rcases hc with rfl | rfl
  · simp only [encA, encR] at m1 ⊢
    rw [List.length_map] at hlen
    simp [wipeE, m1, hall, sizeLine_eq]
    simp at hlen
    simp [hlen, hall]
  · simp only [encA, encR] at m2 ⊢
    rw [List.length_map] at hlen
    simp [wipeE, m2, hall, sizeLine_eq]
    simp at hlen
    simp [hlen, hall]
end
end K81
end
section
set_option maxHeartbeats 2000000
namespace K81
open PySem PySem.Spec PyProof.Rows L2 Q
section
theorem forL_first {α : Type} {g : Cell → Q.Env → Option Q.Env} {b : Q.Env → Option Out} (enc : α → D) (f : α → Option D) (P : Q.Env → Prop) : ∀ {l : List α} {ρ : Q.Env},
    (∀ a ∈ l, ∀ ρ, P ρ → ∃ ρ', P ρ' ∧ fst1 g b (enc a) ρ = some (match f a with | none => .nx ρ' | some d => .rt (.val d) ρ')) → P ρ →
    ∃ ρ', P ρ' ∧ forL g b (l.map enc) ρ = some (match l.findSome? f with | none => .nx ρ' | some d => .rt (.val d) ρ')
  | [], ρ, _, p => ⟨ρ, p, rfl⟩
  | a :: l, ρ, h, p => by
    obtain ⟨ρ1, p1, e1⟩ := h a List.mem_cons_self ρ p
    rw [List.map_cons, forL_cons, e1, List.findSome?_cons]
    cases f a with
    | none => exact forL_first enc f P (fun a ha => h a (List.mem_cons_of_mem _ ha)) p1
    | some d => exact ⟨ρ1, p1, rfl⟩
theorem enum_map {α : Type} (enc : α → D) (l : List α) : enumD (l.map enc) = l.zipIdx.map fun p => D.tup [.int (p.2 : Nat), enc p.1] := by
  unfold enumD
  rw [List.zipIdx_map, List.map_map]
  rfl
def rowsA (s : Nat) (ts : List T3) (a : At) : List (List Int) := match ts.find? fun t => decide (t.1 = a.1) with
  | some t => tRows s t
  | none => []
theorem find_t : ∀ {ts : List T3} {t : T3}, (ts.map (·.1)).Nodup → t ∈ ts → ts.find? (fun u => decide (u.1 = t.1)) = some t
  | u :: ts, t, nd, ht => by
    rw [List.map_cons, List.nodup_cons] at nd
    rw [List.find?_cons]
    by_cases e : u.1 = t.1
    · rcases List.mem_cons.mp ht with rfl | ht
      · simp
      · exact absurd (List.mem_map.mpr ⟨t, ht, e.symm⟩) nd.1
    · simp only [e, decide_false]
      rcases List.mem_cons.mp ht with rfl | ht
      · exact absurd rfl e
      · exact find_t nd.2 ht
  | [], t, _, ht => by simp at ht
variable (C : Addr)
theorem rows_of {s many : Nat} {ts : List T3} {a : At} (hs : s ≤ 4) (nd : (ts.map (·.1)).Nodup) (h : OkA ts many a) : phi_Book_rows C [.val (bookD C s ts), .val (.str a.1)] = some (.val (.tup ((rowsA s ts a).map encR)), [.val (bookD C s ts), .val (.str a.1)]) ∧ (∀ r ∈ rowsA s ts a, r.length = a.2.length) ∧ (rowsA s ts a).length ≤ 64 := by
  obtain ⟨t, ht, e1, e2⟩ := h.ex
  have hr : rowsA s ts a = tRows s t := by
    unfold rowsA
    rw [← e1, find_t nd ht]
  rw [hr]
  refine ⟨e1 ▸ b_rows C nd ht, fun r hr => ?_, ?_⟩
  · rw [e2]
    exact (allRows_mem.mp (List.mem_filter.mp hr).1).1
  · have h1 : (tRows s t).length ≤ (allRows s t.2.1).length := List.length_filter_le _ _
    rw [allRows_len] at h1
    have h2 : s ^ t.2.1 ≤ 4 ^ t.2.1 := Nat.pow_le_pow_left hs _
    have h3 : 4 ^ t.2.1 ≤ 4 ^ 3 := Nat.pow_le_pow_right (by omega) (by have := h.ln; omega)
    omega
def outsP (left rows : List (List Int)) (c : Nat) (x : Int) : List Int := (lt left x).filter fun t => !decide (t ∈ kept rows c)
def nextP (left rows : List (List Int)) (i : Nat) (p : Int × Nat) : Option (List Int) := match outsP left rows p.2 p.1 with
  | [] => none
  | t :: _ => some [p.1, t, (i : Int)]
def nextA (s : Nat) (ts : List T3) (left : List (List Int)) (p : At × Nat) : Option (List Int) := p.1.2.zipIdx.findSome? (nextP left (had left p.1.2 (rowsA s ts p.1)) p.2)
def nextS (s : Nat) (ts : List T3) (left : List (List Int)) (as : List At) : Option (List Int) := as.zipIdx.findSome? (nextA s ts left)
theorem enc_out (l : List Int) : hNe (encL l) (.lst []) = some (.val (.bl (!decide (l = [])))) := ecL.ne (by omega) l []
theorem ixR {r : List Int} {c : Nat} (h : c < r.length) : hIx (encR r) (.int (c : Int)) = some (.val (.int (r.getD c 0))) := by
  unfold encR
  rw [vIxT, atI_nat (x := D.int (r.getD c 0)) ?_]
  · rfl
  · rw [List.getElem?_map]
    simp [h]
theorem kept_lc {rs : List (List Int)} {c k sl si : Nat} {ρ : Q.Env} (h : ∀ r ∈ rs, k = r.length) (hc : c < k)
    (hT : ∀ d : D, lcL (dName sl) tTrue (dOp hIx (oVar sl) (oVar si)) [sl] [d] ρ = (hIx d (.int (c : Int))).bind fun x => match x with | .val y => some ([y], ρ) | .own y => some ([y], ρ) | _ => none) :
    lcL (dName sl) tTrue (dOp hIx (oVar sl) (oVar si)) [sl] (rs.map encR) ρ = some ((kept rs c).map D.int, ρ) := by
  rw [lcL_map encR (fun r => [D.int (r.getD c 0)]), flat_one]
  · unfold kept
    rw [List.map_map]
    rfl
  · intro r hr
    rw [hT, ixR (by rw [← h r hr]; exact hc)]
    rfl
theorem inner {s many i : Nat} {left : List (List Int)} {a : At} {rs : List (List Int)} (bk w : D) (hl : OkL s many left) (hp : ∀ x ∈ a.2, 0 ≤ x ∧ x < many) (hn : a.2.length ≤ 3) (hr : ∀ r ∈ rs, a.2.length = r.length) (hrn : rs.length ≤ 64) :
    ∀ ρ, (∃ x5 x6 x7 x8 x9, ρ = [some (.val bk), some (.val w), some (.par 2 (lvD left)), some (.val (.int i)), some (.val (encA a)), x5, x6, x7, x8, x9, none, none] ∧ (x5 = some (.own (.lst (rs.map encR))) ∨ x5 = some (.val (.lst (rs.map encR)))) ∧ okS (some x6) = true ∧ okS (some x7) = true ∧ okS (some x8) = true ∧ okS (some x9) = true) →
    ∃ ρ', (∃ x5 x6 x7 x8 x9, ρ' = [some (.val bk), some (.val w), some (.par 2 (lvD left)), some (.val (.int i)), some (.val (encA a)), x5, x6, x7, x8, x9, none, none] ∧ (x5 = some (.own (.lst (rs.map encR))) ∨ x5 = some (.val (.lst (rs.map encR)))) ∧ okS (some x6) = true ∧ okS (some x7) = true ∧ okS (some x8) = true ∧ okS (some x9) = true) ∧
      forL (dGtup 2 (dGcons (dName 6) (dGcons (dName 7) (dGnil)))) (sSeq (sSet 8 (dLc (iSeq (oFz (dVar 5))) (dName 10) (tTrue) (dOp hIx (oVar 10) (oVar 6)) [10])) (sSeq (sSet 9 (dLc (iSeq (oFz (dOp hIx (oVar 2) (oVar 7)))) (dName 11) (dTst (dOp hNotIn (oVar 11) (oVar 8))) (dMove 11) [11])) (sIf (dTst (dOp hNe (oVar 9) (oFz (dLst (aNil))))) (sRet (dTup (aCons (oFz (dVar 7)) (aCons (oFz (dOp hIx (oVar 9) (oFz (dC (.int 0))))) (aCons (oFz (dVar 3)) (aNil)))))) (sPass))))
        (enumD (a.2.map D.int)) ρ = some (match a.2.zipIdx.findSome? (nextP left rs i) with | none => .nx ρ' | some z => .rt (.val (encR z)) ρ') := by
  intro ρ hρ
  rw [enum_map]
  have main := forL_first (g := dGtup 2 (dGcons (dName 6) (dGcons (dName 7) (dGnil)))) (b := sSeq (sSet 8 (dLc (iSeq (oFz (dVar 5))) (dName 10) (tTrue) (dOp hIx (oVar 10) (oVar 6)) [10])) (sSeq (sSet 9 (dLc (iSeq (oFz (dOp hIx (oVar 2) (oVar 7)))) (dName 11) (dTst (dOp hNotIn (oVar 11) (oVar 8))) (dMove 11) [11])) (sIf (dTst (dOp hNe (oVar 9) (oFz (dLst (aNil))))) (sRet (dTup (aCons (oFz (dVar 7)) (aCons (oFz (dOp hIx (oVar 9) (oFz (dC (.int 0))))) (aCons (oFz (dVar 3)) (aNil)))))) (sPass))))
    (fun p : Int × Nat => D.tup [.int (p.2 : Nat), .int p.1]) (fun p => (nextP left rs i p).map encR)
    (fun ρ => ∃ x5 x6 x7 x8 x9, ρ = [some (.val bk), some (.val w), some (.par 2 (lvD left)), some (.val (.int i)), some (.val (encA a)), x5, x6, x7, x8, x9, none, none] ∧ (x5 = some (.own (.lst (rs.map encR))) ∨ x5 = some (.val (.lst (rs.map encR)))) ∧ okS (some x6) = true ∧ okS (some x7) = true ∧ okS (some x8) = true ∧ okS (some x9) = true)
    (l := a.2.zipIdx) (ρ := ρ) ?_ hρ
  · obtain ⟨ρ', h1, h2⟩ := main
    refine ⟨ρ', h1, h2.trans ?_⟩
    congr 1
    have : ∀ l : List (Int × Nat), (l.findSome? fun p => (nextP left rs i p).map encR) = (l.findSome? (nextP left rs i)).map encR := fun l => by
      induction l with
      | nil => rfl
      | cons p l ih =>
        rw [List.findSome?_cons, List.findSome?_cons]
        cases nextP left rs i p with
        | none => exact ih
        | some z => rfl
    rw [this]
    cases a.2.zipIdx.findSome? (nextP left rs i) <;> rfl
  · rintro ⟨x, c⟩ hxc ρ ⟨x5, x6, x7, x8, x9, rfl, h5, h6, h7, h8, h9⟩
    obtain ⟨_, hc, hx⟩ := List.mem_zipIdx hxc
    simp only [Nat.zero_add] at hc
    have hxm : x ∈ a.2 := by rw [hx]; exact List.getElem_mem _
    have hb := hp x hxm
    have hix := ixL (left := left) hb.1 (by rw [hl.ln]; exact hb.2)
    have hrn2 : rs.length ≤ 16777216 := by omega
    have hkl : (kept rs c).length ≤ 16777216 := by unfold kept; simpa using hrn2
    let ρ1 : Q.Env := [some (.val bk), some (.val w), some (.par 2 (lvD left)), some (.val (.int i)), some (.val (encA a)), some (.val (.lst (rs.map encR))), some (.val (.int (c : Nat))), some (.val (.int x)), x8, x9, none, none]
    have lk : lcL (dName 10) tTrue (dOp hIx (oVar 10) (oVar 6)) [10] (rs.map encR) ρ1 = some ((kept rs c).map D.int, ρ1) := kept_lc hr hc fun d => by
      rw [lcL_one]
      simp [ρ1, wipeE]
      cases hIx d (.int (c : Int)) with
      | none => rfl
      | some z => cases z <;> rfl
    let ρ2 : Q.Env := [some (.val bk), some (.val w), some (.par 2 (lvD left)), some (.val (.int i)), some (.val (encA a)), some (.val (.lst (rs.map encR))), some (.val (.int (c : Nat))), some (.val (.int x)), some (.own (encL (kept rs c))), x9, none, none]
    have lo : lcL (dName 11) (dTst (dOp hNotIn (oVar 11) (oVar 8))) (dMove 11) [11] ((lt left x).map D.int) ρ2 = some ((outsP left rs c x).map D.int, ρ2) := by
      rw [lcL_map D.int (fun t => if (!decide (t ∈ kept rs c)) = true then [D.int t] else []), flat_if]
      · rfl
      · intro t ht
        rw [lcL_one]
        have := ninLeft t (kept rs c)
        by_cases hk : t ∈ kept rs c
        · simp [ρ2, wipeE, this, hk]
        · simp [ρ2, wipeE, this, hk]
    have hol : (outsP left rs c x).length ≤ 16777216 := by
      have h1 : (outsP left rs c x).length ≤ (lt left x).length := List.length_filter_le _ _
      have h2 : (lt left x).length ≤ 4 := by
        unfold lt
        by_cases hx2 : x.toNat < left.length
        · have : left.getD x.toNat [] = left[x.toNat] := by simp [hx2]
          rw [this]
          exact hl.sz _ (List.getElem_mem _)
        · have : left.getD x.toNat [] = [] := by simp [List.getD, List.getElem?_eq_none (by omega : left.length ≤ x.toNat)]
          rw [this]; simp
      omega
    have hne := enc_out (outsP left rs c x)
    simp only [ρ1, ρ2, encL] at lk lo hne hix
    refine ⟨[some (.val bk), some (.val w), some (.par 2 (lvD left)), some (.val (.int i)), some (.val (encA a)), some (.val (.lst (rs.map encR))), some (.val (.int (c : Nat))), some (.val (.int x)), some (.own (encL (kept rs c))), some (.own (encL (outsP left rs c x))), none, none], ⟨_, _, _, _, _, rfl, .inr rfl, rfl, rfl, rfl, rfl⟩, ?_⟩
    unfold nextP
    cases ho : outsP left rs c x with
    | nil =>
      rw [ho] at lo hne hol
      simp only [List.map_nil] at hne
      rcases h5 with rfl | rfl <;> simp [fst1, h6, h7, h8, h9, wipeE, lk, sizeLine_eq, hkl, hix, lo, hne, encL]
    | cons t r =>
      rw [ho] at lo hne hol
      simp only [List.map_cons] at hne
      have e0 : atI (D.int t :: r.map D.int) 0 = some (D.int t) := atI_nn (by omega) rfl
      simp at hol
      rcases h5 with rfl | rfl <;> simp [fst1, h6, h7, h8, h9, wipeE, lk, sizeLine_eq, hkl, hix, lo, hne, encL, e0, encR, hol]
end
end K81
end
section
set_option maxHeartbeats 2000000
namespace K81
open PySem PySem.Spec PyProof.Rows L2 Q
section
variable (C : Addr)
theorem had_lc {many : Nat} {left : List (List Int)} {a : At} {rows : List (List Int)} {ρ : Q.Env} {sl : Nat} {e : Q.Env → Option (Bool × Q.Env)}
    (hT : ∀ r : List Int, lcL (dName sl) e (dMove sl) [sl] [encR r] ρ = some (if canHave left a.2 r = true then [encR r] else [], ρ)) : lcL (dName sl) e (dMove sl) [sl] (rows.map encR) ρ = some ((had left a.2 rows).map encR, ρ) := by
  rw [lcL_map encR (fun r => if canHave left a.2 r = true then [encR r] else []) fun r _ => hT r, flat_if]
  rfl
theorem next_strike {s many : Nat} {ts : List T3} {as : List At} {left : List (List Int)} (b : Bool) (hs : s ≤ 4) (h : OkW ts many as) (hl : OkL s many left) :
    phi_next_strike C [.val (bookD C s ts), .val (wD b many as), .own (lvD left)] = some (match nextS s ts left as with | none => .val .non | some z => .val (encR z), [.val (bookD C s ts), .val (wD b many as), .own (lvD left)]) := by
  have main := forL_first (g := dGtup 2 (dGcons (dName 3) (dGcons (dName 4) (dGnil)))) (b := sSeq (sSet 5 (dLc (iSeq (oFz (dMeth C "rows" 2 (phi_Book_rows C) (oVar 0) (aCons (oFz (dOp hIx (oVar 4) (oFz (dC (.int 1))))) (aNil))))) (dName 10) (dTst (dCal 3 (phi_can_have C) (aCons (oVar 2) (aCons (oVar 4) (aCons (oFz (dVar 10)) (aNil)))))) (dMove 10) [10])) (sFor (iEnm (aCons (oFz (dOp hIx (oVar 4) (oFz (dC (.int 2))))) (aNil))) (dGtup 2 (dGcons (dName 6) (dGcons (dName 7) (dGnil)))) (sSeq (sSet 8 (dLc (iSeq (oFz (dVar 5))) (dName 10) (tTrue) (dOp hIx (oVar 10) (oVar 6)) [10])) (sSeq (sSet 9 (dLc (iSeq (oFz (dOp hIx (oVar 2) (oVar 7)))) (dName 11) (dTst (dOp hNotIn (oVar 11) (oVar 8))) (dMove 11) [11])) (sIf (dTst (dOp hNe (oVar 9) (oFz (dLst (aNil))))) (sRet (dTup (aCons (oFz (dVar 7)) (aCons (oFz (dOp hIx (oVar 9) (oFz (dC (.int 0))))) (aCons (oFz (dVar 3)) (aNil)))))) (sPass))))))
    (fun p : At × Nat => D.tup [.int (p.2 : Nat), encA p.1]) (fun p => (nextA s ts left p).map encR)
    (fun ρ => ∃ x3 x4 x5 x6 x7 x8 x9, ρ = [some (.val (bookD C s ts)), some (.val (wD b many as)), some (.par 2 (lvD left)), x3, x4, x5, x6, x7, x8, x9, none, none] ∧ okS (some x3) = true ∧ okS (some x4) = true ∧ okS (some x5) = true ∧ okS (some x6) = true ∧ okS (some x7) = true ∧ okS (some x8) = true ∧ okS (some x9) = true)
    (l := as.zipIdx) (ρ := [some (.val (bookD C s ts)), some (.val (wD b many as)), some (.par 2 (lvD left)), none, none, none, none, none, none, none, none, none]) ?_ ⟨_, _, _, _, _, _, _, rfl, rfl, rfl, rfl, rfl, rfl, rfl, rfl⟩
  · obtain ⟨ρ', ⟨x3, x4, x5, x6, x7, x8, x9, rfl, _⟩, e⟩ := main
    rw [← enum_map] at e
    have hf : ∀ l : List (At × Nat), (l.findSome? fun p => (nextA s ts left p).map encR) = (l.findSome? (nextA s ts left)).map encR := fun l => by
      induction l with
      | nil => rfl
      | cons p l ih =>
        rw [List.findSome?_cons, List.findSome?_cons]
        cases nextA s ts left p with
        | none => exact ih
        | some z => rfl
    rw [hf] at e
    simp only [phi_next_strike, g_next_strike]
    unfold nextS
    cases hz : as.zipIdx.findSome? (nextA s ts left) with
    | none =>
      rw [hz] at e
      cases b
      · simp only [wD, seqB, if_false, Bool.false_eq_true, Option.map_none] at e ⊢
        simp [e]
      · simp only [wD, seqB, if_true, Option.map_none] at e ⊢
        simp [e]
    | some z =>
      rw [hz] at e
      cases b
      · simp only [wD, seqB, if_false, Bool.false_eq_true, Option.map_some] at e ⊢
        simp [e]
      · simp only [wD, seqB, if_true, Option.map_some] at e ⊢
        simp [e]
  · rintro ⟨a, i⟩ hai ρ ⟨x3, x4, x5, x6, x7, x8, x9, rfl, h3, h4, h5, h6, h7, h8, h9⟩
    obtain ⟨_, hi, ha0⟩ := List.mem_zipIdx hai
    have ha : a ∈ as := by rw [ha0]; exact List.getElem_mem _
    have hA := h.a a ha
    obtain ⟨hr, hrl, hrn⟩ := rows_of C (s := s) hs h.nd hA
    have hadl : (had left a.2 (rowsA s ts a)).length ≤ 64 := Nat.le_trans (List.length_filter_le _ _) hrn
    have hadl2 : (had left a.2 (rowsA s ts a)).length ≤ 16777216 := by omega
    obtain ⟨ρ', ⟨y5, y6, y7, y8, y9, rfl, hy5, hy6, hy7, hy8, hy9⟩, e⟩ := inner (s := s) (many := many) (i := i) (left := left) (a := a) (rs := had left a.2 (rowsA s ts a)) (bookD C s ts) (wD b many as) hl hA.pl hA.ln (fun r hr => (hrl r (List.mem_filter.mp hr).1).symm) hadl
      [some (.val (bookD C s ts)), some (.val (wD b many as)), some (.par 2 (lvD left)), some (.val (.int i)), some (.val (encA a)), some (.own (.lst ((had left a.2 (rowsA s ts a)).map encR))), x6, x7, x8, x9, none, none] ⟨_, _, _, _, _, rfl, .inl rfl, h6, h7, h8, h9⟩
    have hlc := had_lc (many := many) (left := left) (a := a) (rows := rowsA s ts a) (sl := 10) (e := dTst (dCal 3 (phi_can_have C) (aCons (oVar 2) (aCons (oVar 4) (aCons (oFz (dVar 10)) (aNil))))))
      (ρ := [some (.val (bookD C s ts)), some (.val (wD b many as)), some (.par 2 (lvD left)), some (.val (.int i)), some (.val (encA a)), x5, x6, x7, x8, x9, none, none]) fun r => by
        have hc := can_have C (left := left) (row := r) hl.ln hA.pl hA.ln (.own (lvD left)) (.inl rfl)
        rw [lcL_one]
        cases hcr : canHave left a.2 r <;> (rw [hcr] at hc; simp [wipeE, hc])
    refine ⟨_, ⟨some (.val (.int i)), some (.val (encA a)), y5, y6, y7, y8, y9, rfl, rfl, rfl, ?_, hy6, hy7, hy8, hy9⟩, ?_⟩
    · rcases hy5 with rfl | rfl <;> rfl
    · change _ = some (match nextA s ts left (a, i) with | none => Out.nx _ | some z => Out.rt (.val (encR z)) _) at e
      simp only [bookD] at hr hlc e ⊢
      simp only [encA, encR] at hlc e ⊢
      cases hz : nextA s ts left (a, i) <;> (rw [hz] at e; simp [fst1, h3, h4, h5, lo6, hr, wipeE, hlc, sizeLine_eq, hadl2, e, encR])
end
end K81
end
section
set_option maxHeartbeats 2000000
namespace K81
open PySem PySem.Spec PyProof.Rows L2 Q
/-! ### the plain law -/
section
variable (s : Nat) (ts : List T3)
def waysA (left : List (List Int)) (p : At × Nat) : List (List Int) := p.1.2.zipIdx.flatMap fun q => (outsP left (had left p.1.2 (rowsA s ts p.1)) q.2 q.1).map fun t => [q.1, t, (p.2 : Int)]
def ways (left : List (List Int)) (as : List At) : List (List Int) := as.zipIdx.flatMap (waysA s ts left)
theorem head_flat {α β : Type} (f : α → List β) (g : α → Option β) (h : ∀ a, g a = (f a).head?) : ∀ l : List α, l.findSome? g = (l.flatMap f).head?
  | [] => rfl
  | a :: l => by
    rw [List.findSome?_cons, List.flatMap_cons, h a, head_flat f g h l]
    cases f a <;> rfl
theorem nextS_head (left : List (List Int)) (as : List At) : nextS s ts left as = (ways s ts left as).head? := by
  refine head_flat _ _ (fun p => ?_) _
  refine head_flat _ _ (fun q => ?_) _
  unfold nextP
  cases outsP left (had left p.1.2 (rowsA s ts p.1)) q.2 q.1 <;> rfl
def strk (left : List (List Int)) (z : List Int) : List (List Int) := left.set (z.getD 0 0).toNat ((lt left (z.getD 0 0)).filter fun t => !decide (t = z.getD 1 0))
theorem lt_mem {left : List (List Int)} {x t : Int} (h : t ∈ lt left x) : ∃ hx : x.toNat < left.length, lt left x = left[x.toNat] := by
  unfold lt at h ⊢
  by_cases hx : x.toNat < left.length
  · exact ⟨hx, by simp [hx]⟩
  · rw [List.getD_eq_getElem?_getD, List.getElem?_eq_none (by omega)] at h
    simp at h
theorem strk_ok {many : Nat} {left : List (List Int)} {z : List Int} (h : OkL s many left) : OkL s many (strk left z) := by
  refine ⟨by simp [strk, h.ln], fun l hl x hx => ?_, fun l hl => ?_⟩
  · rcases List.mem_or_eq_of_mem_set hl with hl | rfl
    · exact h.el l hl x hx
    · have hx := (List.mem_filter.mp hx).1
      obtain ⟨hy, e⟩ := lt_mem hx
      rw [e] at hx
      exact h.el _ (List.getElem_mem _) x hx
  · rcases List.mem_or_eq_of_mem_set hl with hl | rfl
    · exact h.sz l hl
    · refine Nat.le_trans (List.length_filter_le _ _) ?_
      cases hq : lt left (z.getD 0 0) with
      | nil => simp
      | cons t r =>
        obtain ⟨hy, e⟩ := lt_mem (left := left) (x := z.getD 0 0) (t := t) (by rw [hq]; simp)
        rw [← hq, e]
        exact h.sz _ (List.getElem_mem _)
theorem ways_mem {left : List (List Int)} {as : List At} {z : List Int} : z ∈ ways s ts left as ↔ ∃ (x t : Int) (i c : Nat) (a : At), z = [x, t, (i : Int)] ∧ as[i]? = some a ∧ a.2[c]? = some x ∧ t ∈ lt left x ∧ t ∉ kept (had left a.2 (rowsA s ts a)) c := by
  unfold ways waysA
  simp only [List.mem_flatMap, List.mem_map]
  constructor
  · rintro ⟨⟨a, i⟩, ha, ⟨x, c⟩, hx, t, ht, rfl⟩
    obtain ⟨_, h1, h2⟩ := List.mem_zipIdx ha
    obtain ⟨_, h3, h4⟩ := List.mem_zipIdx hx
    unfold outsP at ht
    have ht := List.mem_filter.mp ht
    refine ⟨x, t, i, c, a, rfl, ?_, ?_, ht.1, ?_⟩
    · rw [h2]; simp at h1 ⊢

    · rw [h4]; simp at h3 ⊢

    · simpa using ht.2
  · rintro ⟨x, t, i, c, a, rfl, h1, h2, h3, h4⟩
    refine ⟨(a, i), ?_, (x, c), ?_, t, ?_, rfl⟩
    · exact List.mem_zipIdx_iff_getElem?.mpr h1
    · exact List.mem_zipIdx_iff_getElem?.mpr h2
    · unfold outsP
      exact List.mem_filter.mpr ⟨h3, by simpa using h4⟩
def tot (left : List (List Int)) : Nat := (left.map List.length).sum
theorem tot_set : ∀ {left : List (List Int)} {i : Nat} (hi : i < left.length) {m : List Int}, m.length < left[i].length → tot (left.set i m) < tot left
  | l :: left, 0, hi, m, h => by simp [tot] at *; omega
  | l :: left, i + 1, hi, m, h => by
    have := tot_set (left := left) (i := i) (by simpa using hi) (m := m) (by simpa using h)
    simp [tot] at *
    omega
theorem strk_tot {left : List (List Int)} {as : List At} {z : List Int} (h : z ∈ ways s ts left as) : tot (strk left z) < tot left := by
  obtain ⟨x, t, i, c, a, rfl, _, _, h3, _⟩ := (ways_mem s ts).mp h
  obtain ⟨hx, e⟩ := lt_mem h3
  unfold strk
  refine tot_set hx ?_
  show ((lt left x).filter fun u => !decide (u = t)).length < _
  rw [← e]
  have : ∃ u ∈ lt left x, ¬ ((fun u => !decide (u = t)) u = true) := ⟨t, h3, by simp⟩
  exact List.length_filter_lt_length_iff_exists.mpr this
/-- what is told, and what is left behind it -/
def struckN (as : List At) : Nat → List (List Int) → List (List Int) × List (List Int)
  | 0, left => (left, [])
  | n + 1, left => match (ways s ts left as).head? with
    | none => (left, [])
    | some z => ((struckN as n (strk left z)).1, z :: (struckN as n (strk left z)).2)
/-- how far a list of strikes is right -/
def beh (as : List At) : List (List Int) → List (List Int) → Option (List (List Int))
  | left, [] => some left
  | left, z :: zs => if z ∈ ways s ts left as then beh as (strk left z) zs else none
theorem struck_beh (as : List At) : ∀ (n : Nat) (left : List (List Int)), tot left < n → beh s ts as left (struckN s ts as n left).2 = some (struckN s ts as n left).1 ∧ ways s ts (struckN s ts as n left).1 as = [] ∧ (struckN s ts as n left).2.length ≤ tot left
  | 0, left, h => by omega
  | n + 1, left, h => by
    unfold struckN
    cases hw : (ways s ts left as).head? with
    | none =>
      refine ⟨rfl, ?_, by simp⟩
      cases hq : ways s ts left as with
      | nil => rfl
      | cons a l => rw [hq] at hw; cases hw
    | some z =>
      have hz : z ∈ ways s ts left as := List.mem_of_head? hw
      have h2 := strk_tot s ts hz
      obtain ⟨i1, i2, i3⟩ := struck_beh as n (strk left z) (by omega)
      refine ⟨?_, i2, ?_⟩
      · show (if z ∈ ways s ts left as then beh s ts as (strk left z) (struckN s ts as n (strk left z)).2 else none) = _
        rw [if_pos hz]
        exact i1
      · simp only [List.length_cons]
        omega
end
end K81
end
section
set_option maxHeartbeats 2000000
namespace K81
open PySem PySem.Spec PyProof.Rows L2 Q
section
@[simp] theorem isNN (a : D) : hIsNN a .non = some (.val (.bl (!isNonD a))) := rfl
@[simp] theorem isN1 (a : D) : hIsN a .non = some (.val (.bl (isNonD a))) := rfl
@[simp] theorem nn0 : isNonD .non = true := rfl
@[simp] theorem nn1 (l : List D) : isNonD (.tup l) = false := rfl
@[simp] theorem nn2 (l : List D) : isNonD (.lst l) = false := rfl
@[simp] theorem nn3 (l : List Int) : isNonD (encR l) = false := rfl
theorem neI (a b : Int) : hNe (.int a) (.int b) = some (.val (.bl (!decide (a = b)))) := ecI.ne (by omega) a b
theorem eqI (a b : Int) : hEq (.int a) (.int b) = some (.val (.bl (decide (a = b)))) := ecI.eq (by omega) a b
theorem ix3_0 (x t i : Int) : hIx (encR [x, t, i]) (.int 0) = some (.val (.int x)) := by simp [encR]
theorem ix3_1 (x t i : Int) : hIx (encR [x, t, i]) (.int 1) = some (.val (.int t)) := by simp [encR]
theorem ix3_2 (x t i : Int) : hIx (encR [x, t, i]) (.int 2) = some (.val (.int i)) := by simp [encR]
theorem set_lv {left : List (List Int)} {x : Int} {m : List Int} (h0 : 0 ≤ x) (h1 : x < left.length) : setD (lvD left) (.int x) (encL m) = some (lvD (left.set x.toNat m)) := by
  unfold lvD
  rw [setD_nn h0 (by simpa using h1), List.map_set]
theorem ways_rng {s many : Nat} {ts : List T3} {left : List (List Int)} {as : List At} {z : List Int} (h : OkW ts many as) (hz : z ∈ ways s ts left as) : ∃ x t i : Int, z = [x, t, i] ∧ 0 ≤ x ∧ x < many ∧ t ∈ lt left x ∧ 0 ≤ i ∧ i < as.length := by
  obtain ⟨x, t, i, c, a, rfl, h1, h2, h3, _⟩ := (ways_mem s ts).mp hz
  have hp := (h.a a (List.mem_of_getElem? h1)).pl x (List.mem_of_getElem? h2)
  have hi := (List.getElem?_eq_some_iff.mp h1).1
  exact ⟨x, t, i, rfl, hp.1, hp.2, h3, by omega, by omega⟩
def startL (s many : Nat) : List (List Int) := List.replicate many ((List.range s).map fun (t : Nat) => (t : Int))
theorem start_ok {s many : Nat} (hs : s ≤ 4) : OkL s many (startL s many) := by
  refine ⟨by simp [startL], fun l hl x hx => ?_, fun l hl => ?_⟩
  · rw [(List.mem_replicate.mp hl).2] at hx
    obtain ⟨t, ht, rfl⟩ := List.mem_map.mp hx
    have := List.mem_range.mp ht
    omega
  · rw [(List.mem_replicate.mp hl).2]
    simpa using hs
theorem start_tot {s many : Nat} (hs : s ≤ 4) (hm : many ≤ 6) : tot (startL s many) ≤ 24 := by
  unfold tot startL
  rw [List.map_replicate, List.sum_replicate_nat]
  simp
  exact Nat.mul_le_mul hm hs
variable (C : Addr)
theorem start_lc {s many : Nat} {sl : Nat} {ρ : Q.Env} {e : Q.Env → Option (Cell × Q.Env)} (hT : ∀ k : Nat, lcL (dName sl) tTrue e [sl] [.int (k : Nat)] ρ = some ([encL ((List.range s).map fun (t : Nat) => (t : Int))], ρ)) :
    lcL (dName sl) tTrue e [sl] (rgD 0 many) ρ = some ((startL s many).map encL, ρ) := by
  rw [rg0, Int.toNat_natCast, lcL_map (fun k : Nat => D.int (k : Nat)) (fun _ => [encL ((List.range s).map fun (t : Nat) => (t : Int))]) fun k _ => hT k, flat_one]
  unfold startL
  congr 2
  rw [List.map_const', List.length_range, List.map_replicate]
theorem strk_lc {left : List (List Int)} {x t : Int} {sl : Nat} {ρ : Q.Env} {e : Q.Env → Option (Bool × Q.Env)} (hT : ∀ u : Int, lcL (dName sl) e (dMove sl) [sl] [.int u] ρ = some (if (!decide (u = t)) = true then [.int u] else [], ρ)) :
    lcL (dName sl) e (dMove sl) [sl] ((lt left x).map D.int) ρ = some (((lt left x).filter fun u => !decide (u = t)).map D.int, ρ) := by
  rw [lcL_map D.int (fun u => if (!decide (u = t)) = true then [D.int u] else []) fun u _ => hT u, flat_if]
def nxtD (s : Nat) (ts : List T3) (left : List (List Int)) (as : List At) : D := match (ways s ts left as).head? with
  | none => .non
  | some z => encR z
theorem next_strike2 {s many : Nat} {ts : List T3} {as : List At} {left : List (List Int)} (b : Bool) (hs : s ≤ 4) (h : OkW ts many as) (hl : OkL s many left) :
    phi_next_strike C [.val (bookD C s ts), .val (wD b many as), .own (lvD left)] = some (.val (nxtD s ts left as), [.val (bookD C s ts), .val (wD b many as), .own (lvD left)]) := by
  rw [next_strike C b hs h hl, nextS_head]
  unfold nxtD
  cases (ways s ts left as).head? <;> rfl
theorem whl {s many : Nat} {ts : List T3} {as : List At} (b : Bool) (hs : s ≤ 4) (h : OkW ts many as) : ∀ (n : Nat) (left found : List (List Int)) (fu : Nat), OkL s many left → tot left < n → n ≤ fu → found.length + n ≤ 1000 →
    whileL (dTst (dOp hIsNN (oVar 4) (oFz (dC .non)))) (sSeq (sDrop (dMth hAppend 3 (aCons (oFz (dVar 4)) (aNil)))) (sSeq (sAsg (dSetI 2 (oFz (dOp hIx (oVar 4) (oFz (dC (.int 0)))))) (dLc (iSeq (oFz (dOp hIx (oVar 2) (oFz (dOp hIx (oVar 4) (oFz (dC (.int 0)))))))) (dName 6) (dTst (dOp hNe (oVar 6) (oFz (dOp hIx (oVar 4) (oFz (dC (.int 1))))))) (dMove 6) [6])) (sSet 4 (dCal 3 (phi_next_strike C) (aCons (oVar 0) (aCons (oVar 1) (aCons (oVar 2) (aNil))))))))
      fu [some (.val (bookD C s ts)), some (.val (wD b many as)), some (.own (lvD left)), some (.own (.lst (found.map encR))), some (.val (nxtD s ts left as)), none, none] =
    some (.nx [some (.val (bookD C s ts)), some (.val (wD b many as)), some (.own (lvD (struckN s ts as n left).1)), some (.own (.lst ((found ++ (struckN s ts as n left).2).map encR))), some (.val .non), none, none])
  | 0, left, found, fu, hl, ht, hf, hn => by omega
  | n + 1, left, found, 0, hl, ht, hf, hn => by omega
  | n + 1, left, found, fu + 1, hl, ht, hf, hn => by
    unfold whileL struckN
    unfold nxtD
    cases hw : (ways s ts left as).head? with
    | none => simp
    | some z =>
      have hz : z ∈ ways s ts left as := List.mem_of_head? hw
      have h2 := strk_tot s ts hz
      obtain ⟨x, t, i, rfl, x0, x1, htx, _, _⟩ := ways_rng h hz
      have hl' := strk_ok s (z := [x, t, i]) hl
      have ih := whl b hs h n (strk left [x, t, i]) (found ++ [[x, t, i]]) fu hl' (by omega) (by omega) (by simp; omega)
      have hx : hIx (lvD left) (.int x) = some (.val (.lst ((lt left x).map D.int))) := ixL x0 (by rw [hl.ln]; exact x1)
      have hset : setD (lvD left) (.int x) (encL ((lt left x).filter fun u => !decide (u = t))) = some (lvD (strk left [x, t, i])) := by
        rw [set_lv x0 (by rw [hl.ln]; exact x1)]
        rfl
      have hfl : found.length < 16777216 := by omega
      have hn2 := next_strike2 C b hs h hl'
      have lc := strk_lc (left := left) (x := x) (t := t) (sl := 6) (e := dTst (dOp hNe (oVar 6) (oFz (dOp hIx (oVar 4) (oFz (dC (.int 1)))))))
        (ρ := [some (.val (bookD C s ts)), some (.val (wD b many as)), some (.own (lvD left)), some (.own (.lst ((found ++ [[x, t, i]]).map encR))), some (.val (encR [x, t, i])), none, none]) fun u => by
          rw [lcL_one]
          by_cases hu : u = t <;> simp [wipeE, ix3_1, neI, hu]
      have hlen : ((lt left x).filter fun u => !decide (u = t)).length ≤ 16777216 := by
        have h3 : ((lt left x).filter fun u => !decide (u = t)).length ≤ (lt left x).length := List.length_filter_le _ _
        obtain ⟨hy, e⟩ := lt_mem htx
        have := hl.sz _ (List.getElem_mem hy)
        rw [e] at h3 ⊢
        omega
      simp only [List.map_append, List.map_cons, List.map_nil] at lc ih
      simp only [encL] at hset
      simp [hAppend, sizeLine_eq, hfl, ix3_0, hx, wipeE, lc, hlen, hset, hn2, ih]
end
end K81
end
section
set_option maxHeartbeats 2000000
namespace K81
open PySem PySem.Spec PyProof.Rows L2 Q
section
variable (C : Addr)
@[simp] theorem sWhile_ap (c : Q.Env → Option (Bool × Q.Env)) (b : Q.Env → Option Out) (ρ : Q.Env) : sWhile c b ρ = whileL c b fuel ρ := id rfl
@[simp] theorem sNx_ap (i : Nat) (g : Q.Env → Option Out) (ρ : Q.Env) : sNx i g ρ = (g ρ).bind fun o => match o with
  | .nx ρ1 => (oVar i ρ1).bind fun _ => some (.nx ρ1)
  | _ => none := id rfl
theorem fuel_ge : 25 ≤ fuel := by unfold fuel; omega
def told (s many : Nat) (ts : List T3) (as : List At) : List (List Int) := (struckN s ts as 25 (startL s many)).2
theorem struck_list {s many : Nat} {ts : List T3} {as : List At} (b : Bool) (hs : s ≤ 4) (h : OkW ts many as) :
    phi_struck_list C [.val (bookD C s ts), .val (wD b many as)] = some (.own (.lst ((told s many ts as).map encR)), [.val (bookD C s ts), .val (wD b many as)]) := by
  have h0 := start_ok (many := many) hs
  have ht := start_tot hs h.m2
  have hw := whl C b hs h 25 (startL s many) [] fuel h0 (by omega) fuel_ge (by simp)
  have hn := next_strike2 C b hs h h0
  have hm : smI (many : Int) = true := smI_nn (by omega) (by have := h.m2; omega)
  have hr : smR (s : Int) = true := smR_nn (by omega) (by omega)
  have lc := start_lc (s := s) (many := many) (sl := 5) (e := dLr1 (oFz (dFld C "size" (oVar 0)))) (ρ := [some (.val (bookD C s ts)), some (.val (wD b many as)), none, none, none, none, none]) fun k => by
    rw [lcL_one]
    simp [wipeE, bookD, lo1, hr, rg0, encL, Function.comp_def]
  have hlen : (startL s many).length ≤ 16777216 := by rw [h0.ln]; have := h.m2; omega
  simp only [phi_struck_list, g_struck_list]
  simp only [lvD, List.map_nil, List.nil_append] at hw hn
  cases b
  · simp only [wD, seqB, if_false, Bool.false_eq_true] at lc hw hn ⊢
    simp [hm, wipeE, lc, sizeLine_eq, hlen, hn, hw]
    rfl
  · simp only [wD, seqB, if_true] at lc hw hn ⊢
    simp [hm, wipeE, lc, sizeLine_eq, hlen, hn, hw]
    rfl
theorem strikes {s many : Nat} {ts : List T3} {as : List At} (b : Bool) (hs : s ≤ 4) (h : OkW ts many as) :
    phi_strikes C [.val (bookD C s ts), .val (wD b many as)] = some (.own (.lst ((told s many ts as).map encR)), [.val (bookD C s ts), .val (wD b many as)]) := by
  have h1 := check_wishes C (s := s) b h
  have h2 := struck_list C (s := s) b hs h
  simp [phi_strikes, g_strikes, h1, h2]
end
end K81
end
section
set_option maxHeartbeats 4000000
namespace K81
open PySem PySem.Spec PyProof.Rows L2 Q
section
variable (C : Addr)
def placesOf (pl : List Int) (x : Int) : List Nat := (pl.zipIdx.filter fun q => decide (q.1 = x)).map (·.2)
theorem any_bl {α : Type} (f : α → Bool) (l : List α) : hAny [.lst (l.map fun a => D.bl (f a))] = some (.val (.bl (l.any f))) := by
  have : blsD (l.map fun a => D.bl (f a)) = some (l.map f) := by
    induction l with
    | nil => rfl
    | cons p l ih => simp only [List.map_cons, blsD, ih]; rfl
  show (blsD _).bind _ = _
  rw [this]
  simp [List.any_map]
theorem seq_len (b : Bool) (l : List D) : hLen [seqB b l] = some (.val (.int l.length)) := by cases b <;> simp [seqB]
theorem seq_ix (b : Bool) (l : List D) (i : Int) : hIx (seqB b l) (.int i) = (atI l i).bind fun d => some (.val d) := by cases b <;> simp [seqB]
theorem ways_iff {s : Nat} {ts : List T3} {left : List (List Int)} {as : List At} {x t i : Int} {a : At} (h0 : 0 ≤ i) (ha : as[i.toNat]? = some a) : [x, t, i] ∈ ways s ts left as ↔ t ∈ lt left x ∧ ((placesOf a.2 x).any fun c => !decide (t ∈ kept (had left a.2 (rowsA s ts a)) c)) = true := by
  rw [ways_mem]
  simp only [List.any_eq_true, placesOf, List.mem_map, List.mem_filter, decide_eq_true_eq]
  constructor
  · rintro ⟨x', t', j, c, a', e, h1, h2, h3, h4⟩
    simp only [List.cons.injEq, and_true] at e
    obtain ⟨rfl, rfl, rfl⟩ := e
    rw [Int.toNat_natCast, h1] at ha
    cases ha
    exact ⟨h3, c, ⟨(x, c), ⟨List.mem_zipIdx_iff_getElem?.mpr h2, rfl⟩, rfl⟩, by simpa using h4⟩
  · rintro ⟨h3, c, ⟨⟨y, c'⟩, ⟨h2, rfl⟩, rfl⟩, h4⟩
    exact ⟨y, t, i.toNat, c', a, by rw [Int.toNat_of_nonneg h0], ha, List.mem_zipIdx_iff_getElem?.mp h2, h3, by simpa using h4⟩
theorem ninPl (x : Int) (l : List Int) : hNotIn (.int x) (.tup (l.map D.int)) = some (.val (.bl (!decide (x ∈ l)))) := by
  have e0 : hNotIn (.int x) (.tup (l.map D.int)) = hInF true (.int x) (.tup (l.map D.int)) := rfl
  have e1 : hInF true (.int x) (.tup (l.map D.int)) = (fVs (l.map D.int)).bind fun xs => if (flatV (.int x) && xs.all flatV) = true then some (Cell.val (.bl (!inV (.int x) xs))) else none := rfl
  have e2 : ∀ l : List Int, fVs (l.map D.int) = some (l.map V.int) := fun l => by
    induction l with
    | nil => rfl
    | cons a l ih => show (fV (.int a)).bind _ = _; rw [ih]; rfl
  rw [e0, e1, e2]
  show (if (flatV (.int x) && (l.map V.int).all flatV) = true then some (Cell.val (.bl (!inV (.int x) (l.map V.int)))) else none) = _
  have h1 : (flatV (.int x) && (l.map V.int).all flatV) = true := by
    rw [Bool.and_eq_true]
    refine ⟨rfl, ?_⟩
    rw [List.all_eq_true]
    intro v hv
    obtain ⟨y, _, rfl⟩ := List.mem_map.mp hv
    rfl
  rw [if_pos h1]
  have h2 : inV (.int x) (l.map V.int) = decide (x ∈ l) := by
    unfold inV
    rw [Bool.eq_iff_iff, List.any_map, List.any_eq_true]
    simp [eqV]
  rw [h2]
theorem rows_lc {s many : Nat} {ts : List T3} {as : List At} {left : List (List Int)} {a : At} (hs : s ≤ 4) (nd : (ts.map (·.1)).Nodup) (hA : OkA ts many a) (hl : OkL s many left) (b : Bool) (v x4 x5 x6 x8 x9 : Option Cell) :
    lcL (dName 10) (dTst (dCal 3 (phi_can_have C) (aCons (oVar 2) (aCons (oVar 7) (aCons (oFz (dVar 10)) (aNil)))))) (dMove 10) [10] ((rowsA s ts a).map encR)
      [some (.val (bookD C s ts)), some (.val (wD b many as)), some (.par 2 (lvD left)), v, x4, x5, x6, some (.val (encA a)), x8, x9, none, none, none] = some ((had left a.2 (rowsA s ts a)).map encR, [some (.val (bookD C s ts)), some (.val (wD b many as)), some (.par 2 (lvD left)), v, x4, x5, x6, some (.val (encA a)), x8, x9, none, none, none]) :=
  had_lc (many := many) fun r => by
    have hc := can_have C (left := left) (row := r) hl.ln hA.pl hA.ln (.own (lvD left)) (.inl rfl)
    rw [lcL_one]
    cases hcr : canHave left a.2 r <;> (rw [hcr] at hc; simp [wipeE, hc])
theorem is_strike {s many : Nat} {ts : List T3} {as : List At} {left : List (List Int)} (b : Bool) (hs : s ≤ 4) (h : OkW ts many as) (hl : OkL s many left) (x t i : Int) :
    phi_is_strike C [.val (bookD C s ts), .val (wD b many as), .own (lvD left), .val (encR [x, t, i])] = some (.val (.bl (decide ([x, t, i] ∈ ways s ts left as))), [.val (bookD C s ts), .val (wD b many as), .own (lvD left), .val (encR [x, t, i])]) := by
  have w0 : hIx (wD b many as) (.int 0) = some (.val (.int many)) := by simp [wD]
  have w1 : hIx (wD b many as) (.int 1) = some (.val (seqB b (as.map encA))) := by simp [wD]
  have w2 := seq_len b (as.map encA)
  rw [List.length_map] at w2
  have w3 := seq_ix b (as.map encA) i
  have b0 : ∀ f : Q.Env → Option (Hd × Q.Env), True := fun _ => trivial
  have t3 : phi_is_tuple_of C [.val (encR [x, t, i]), .val (.int 3)] = some (.val (.bl true), [.val (encR [x, t, i]), .val (.int 3)]) := by
    show phi_is_tuple_of C [.val (.tup [.int x, .int t, .int i]), .val (.int 3)] = _
    rw [is_tuple_of_t]
    rfl
  by_cases c0 : (0 ≤ x ∧ x ≤ (many : Int) - 1) ∧ (0 ≤ t ∧ t ≤ (s : Int) - 1) ∧ (0 ≤ i ∧ i ≤ (as.length : Int) - 1)
  · obtain ⟨⟨x0, x1⟩, ⟨t0, t1⟩, ⟨i0, i1⟩⟩ := c0
    have hi : i.toNat < as.length := by omega
    have ha : as[i.toNat]? = some as[i.toNat] := by simp [hi]
    generalize as[i.toNat] = a at ha
    have hA := h.a a (List.mem_of_getElem? ha)
    rw [atI_nn (x := encA a) i0 (by rw [List.getElem?_map, ha]; rfl)] at w3
    have hiff := ways_iff (s := s) (ts := ts) (left := left) (x := x) (t := t) i0 ha
    have n1 := ninPl x a.2
    have n2 : hNotIn (.int t) (encL (lt left x)) = some (.val (.bl (!decide (t ∈ lt left x)))) := ninLeft t _
    have hx : hIx (lvD left) (.int x) = some (.val (encL (lt left x))) := ixL x0 (by rw [hl.ln]; omega)
    by_cases hxa : x ∈ a.2
    · by_cases htx : t ∈ lt left x
      · obtain ⟨hr, hrl, hrn⟩ := rows_of C (s := s) hs h.nd hA
        have hadl : (had left a.2 (rowsA s ts a)).length ≤ 16777216 := by
          have h1 : (had left a.2 (rowsA s ts a)).length ≤ (rowsA s ts a).length := List.length_filter_le _ _
          omega
        have hkl : ∀ c, (kept (had left a.2 (rowsA s ts a)) c).length ≤ 16777216 := fun c => by unfold kept; simpa using hadl
        have lr := rows_lc C (as := as) (left := left) hs h.nd hA hl b (some (.val (encR [x, t, i]))) (some (.val (.int x))) (some (.val (.int t))) (some (.val (.int i))) none none
        let ρ2 : Q.Env := [some (.val (bookD C s ts)), some (.val (wD b many as)), some (.par 2 (lvD left)), some (.val (encR [x, t, i])), some (.val (.int x)), some (.val (.int t)), some (.val (.int i)), some (.val (encA a)), some (.own (.lst ((had left a.2 (rowsA s ts a)).map encR))), none, none, none, none]
        have lp : lcL (dGtup 2 (dGcons (dName 11) (dGcons (dName 12) (dGnil)))) (dTst (dOp hEq (oVar 12) (oVar 4))) (dMove 11) [11, 12] (enumD (a.2.map D.int)) ρ2 = some ((placesOf a.2 x).map fun c : Nat => D.int (c : Nat), ρ2) := by
          rw [enum_map, lcL_map (fun p : Int × Nat => D.tup [.int (p.2 : Nat), .int p.1]) (fun p => if decide (p.1 = x) = true then [D.int (p.2 : Nat)] else []), flat_if]
          · unfold placesOf
            rw [List.map_map]
            rfl
          · rintro ⟨y, c⟩ _
            rw [lcL_one]
            by_cases hy : y = x <;> simp [ρ2, wipeE, eqI, hy]
        have hpl : (placesOf a.2 x).length ≤ 16777216 := by
          unfold placesOf
          rw [List.length_map]
          refine Nat.le_trans (List.length_filter_le _ _) ?_
          rw [List.length_zipIdx]
          have := hA.ln
          omega
        let ρ3 (c8 : Cell) : Q.Env := [some (.val (bookD C s ts)), some (.val (wD b many as)), some (.par 2 (lvD left)), some (.val (encR [x, t, i])), some (.val (.int x)), some (.val (.int t)), some (.val (.int i)), some (.val (encA a)), some c8, some (.val (.lst ((placesOf a.2 x).map fun c : Nat => D.int (c : Nat)))), none, none, none]
        have hcl : ∀ c ∈ placesOf a.2 x, c < a.2.length := fun c hc => by
          unfold placesOf at hc
          obtain ⟨⟨y, c'⟩, h1, rfl⟩ := List.mem_map.mp hc
          have := (List.mem_zipIdx (List.mem_filter.mp h1).1).2.1
          simpa using this
        have step : ∀ c ∈ placesOf a.2 x, ∀ c8 : Cell, (c8 = .own (.lst ((had left a.2 (rowsA s ts a)).map encR)) ∨ c8 = .val (.lst ((had left a.2 (rowsA s ts a)).map encR))) → lcL (dName 11) tTrue (dOp hNotIn (oVar 5) (oFz (dLc (iSeq (oFz (dVar 8))) (dName 10) (tTrue) (dOp hIx (oVar 10) (oVar 11)) [10]))) [11] [D.int (c : Nat)] (ρ3 c8) = some ([D.bl (!decide (t ∈ kept (had left a.2 (rowsA s ts a)) c))], ρ3 (.val (.lst ((had left a.2 (rowsA s ts a)).map encR)))) := by
          intro c hc c8 h8
          have lk := kept_lc (rs := had left a.2 (rowsA s ts a)) (c := c) (k := a.2.length) (sl := 10) (si := 11) (ρ := [some (.val (bookD C s ts)), some (.val (wD b many as)), some (.par 2 (lvD left)), some (.val (encR [x, t, i])), some (.val (.int x)), some (.val (.int t)), some (.val (.int i)), some (.val (encA a)), some (.val (.lst ((had left a.2 (rowsA s ts a)).map encR))), some (.val (.lst ((placesOf a.2 x).map fun c : Nat => D.int (c : Nat)))), none, some (.val (.int (c : Nat))), none]) (fun r hr => (hrl r (List.mem_filter.mp hr).1).symm) (hcl c hc) fun d => by
            rw [lcL_one]
            simp [wipeE]
            cases hIx d (.int (c : Int)) with
            | none => rfl
            | some z => cases z <;> rfl
          have hk := hkl c
          have n3 := ninLeft t (kept (had left a.2 (rowsA s ts a)) c)
          simp only [encL] at n3
          rw [lcL_one]
          rcases h8 with rfl | rfl <;> simp [ρ3, wipeE, lk, sizeLine_eq, hk, n3]
        have lq : placesOf a.2 x ≠ [] → lcL (dName 11) tTrue (dOp hNotIn (oVar 5) (oFz (dLc (iSeq (oFz (dVar 8))) (dName 10) (tTrue) (dOp hIx (oVar 10) (oVar 11)) [10]))) [11] ((placesOf a.2 x).map fun c : Nat => D.int (c : Nat)) (ρ3 (.own (.lst ((had left a.2 (rowsA s ts a)).map encR)))) = some ((placesOf a.2 x).map fun c => D.bl (!decide (t ∈ kept (had left a.2 (rowsA s ts a)) c)), ρ3 (.val (.lst ((had left a.2 (rowsA s ts a)).map encR)))) := by
          intro hne
          clear lp hpl
          cases hq : placesOf a.2 x with
          | nil => exact absurd hq hne
          | cons c cs =>
            rw [hq] at step
            rw [List.map_cons, lcL_cons]
            have s1 := step c List.mem_cons_self _ (.inl rfl)
            have s2 := lcL_map (g := dName 11) (tt := tTrue) (te := dOp hNotIn (oVar 5) (oFz (dLc (iSeq (oFz (dVar 8))) (dName 10) (tTrue) (dOp hIx (oVar 10) (oVar 11)) [10]))) (vs := [11]) (fun c : Nat => D.int (c : Nat)) (fun c => [D.bl (!decide (t ∈ kept (had left a.2 (rowsA s ts a)) c))])
              (ρ := ρ3 (.val (.lst ((had left a.2 (rowsA s ts a)).map encR)))) (l := cs) fun c hc => step c (List.mem_cons_of_mem _ hc) _ (.inr rfl)
            rw [flat_one] at s2
            rw [s1]
            simp only [Option.bind_some]
            rw [s2]
            rfl
        have hpne : placesOf a.2 x ≠ [] := by
          obtain ⟨c, hc, e⟩ := List.mem_iff_getElem.mp hxa
          intro z
          have : c ∈ placesOf a.2 x := by
            unfold placesOf
            exact List.mem_map.mpr ⟨(x, c), List.mem_filter.mpr ⟨List.mem_zipIdx_iff_getElem?.mpr (by simp [hc, e]), by simp⟩, rfl⟩
          rw [z] at this
          cases this
        have lq := lq hpne
        have hany := any_bl (fun c => !decide (t ∈ kept (had left a.2 (rowsA s ts a)) c)) (placesOf a.2 x)
        have hres : decide ([x, t, i] ∈ ways s ts left as) = (placesOf a.2 x).any fun c => !decide (t ∈ kept (had left a.2 (rowsA s ts a)) c) := by
          rw [Bool.eq_iff_iff, decide_eq_true_eq, hiff]
          exact ⟨fun z => z.2, fun z => ⟨htx, z⟩⟩
        rw [hres]
        simp only [phi_is_strike, g_is_strike]
        simp only [ρ2, ρ3, bookD, encA, encR, List.map_cons, List.map_nil] at lr lp lq hr
        simp [w0, w1, w2, w3, t3, ix3_0, ix3_1, ix3_2, x0, x1, t0, t1, i0, i1, encA, encR, n1, hxa, hx, n2, htx, bookD, lo1, lo6, hr, wipeE, lr, lp, lq, sizeLine_eq, hadl, hpl, hany]
      · have hf : decide ([x, t, i] ∈ ways s ts left as) = false := decide_eq_false fun z => htx (hiff.mp z).1
        rw [hf]
        simp only [phi_is_strike, g_is_strike]
        simp [w0, w1, w2, w3, t3, ix3_0, ix3_1, ix3_2, x0, x1, t0, t1, i0, i1, encA, encR, n1, hxa, hx, n2, htx, bookD, lo1]
    · have hf : decide ([x, t, i] ∈ ways s ts left as) = false := decide_eq_false fun z => by
        obtain ⟨x', t', j, c, a', e, h1, h2, _⟩ := (ways_mem s ts).mp z
        simp only [List.cons.injEq, and_true] at e
        obtain ⟨rfl, rfl, rfl⟩ := e
        rw [Int.toNat_natCast, h1] at ha
        cases ha
        exact hxa (List.mem_of_getElem? h2)
      rw [hf]
      simp only [phi_is_strike, g_is_strike]
      simp [w0, w1, w2, w3, t3, ix3_0, ix3_1, ix3_2, x0, x1, t0, t1, i0, i1, encA, encR, n1, hxa, bookD, lo1]
  · have hf : decide ([x, t, i] ∈ ways s ts left as) = false := decide_eq_false fun z => by
      obtain ⟨x', t', i', e, p1, p2, p3, p4, p5⟩ := ways_rng h z
      simp only [List.cons.injEq, and_true] at e
      obtain ⟨rfl, rfl, rfl⟩ := e
      obtain ⟨hy, e⟩ := lt_mem p3
      have p3' := p3
      rw [e] at p3'
      have := hl.el _ (List.getElem_mem hy) t p3'
      exact c0 ⟨⟨p1, by omega⟩, ⟨this.1, by omega⟩, ⟨p4, by omega⟩⟩
    rw [hf]
    simp only [phi_is_strike, g_is_strike]
    by_cases x0 : 0 ≤ x
    · by_cases x1 : x ≤ (many : Int) - 1
      · by_cases t0 : 0 ≤ t
        · by_cases t1 : t ≤ (s : Int) - 1
          · by_cases i0 : 0 ≤ i
            · have i1 : ¬ (i ≤ (as.length : Int) - 1) := fun z => c0 ⟨⟨x0, x1⟩, ⟨t0, t1⟩, i0, z⟩
              simp [w0, w1, w2, t3, ix3_0, ix3_1, ix3_2, x0, x1, t0, t1, i0, i1, bookD, lo1]
            · simp [w0, w1, w2, t3, ix3_0, ix3_1, ix3_2, x0, x1, t0, t1, i0, bookD, lo1]
          · simp [w0, w1, w2, t3, ix3_0, ix3_1, ix3_2, x0, x1, t0, t1, bookD, lo1]
        · simp [w0, w1, w2, t3, ix3_0, ix3_1, ix3_2, x0, x1, t0, bookD, lo1]
      · simp [w0, w1, w2, t3, ix3_0, ix3_1, ix3_2, x0, x1]
    · simp [w0, w1, w2, t3, ix3_0, ix3_1, ix3_2, x0]
end
end K81
end
section
set_option maxHeartbeats 4000000
namespace K81
open PySem PySem.Spec PyProof.Rows L2 Q
inductive BadD : D → Prop
  | lst (l : List D) : BadD (.lst l)
  | tup (l : List D) (h : (l.length : Int) ≠ 3) : BadD (.tup l)
  | bl (b : Bool) (x y : Int) : BadD (.tup [.bl b, .int x, .int y])
inductive El where
  | g (x t i : Int)
  | b (d : D)
def El.d : El → D
  | .g x t i => encR [x, t, i]
  | .b d => d
def El.ok : El → Prop
  | .g _ _ _ => True
  | .b d => BadD d
def behE (s : Nat) (ts : List T3) (as : List At) : List (List Int) → List El → Option (List (List Int))
  | left, [] => some left
  | left, .g x t i :: es => if [x, t, i] ∈ ways s ts left as then behE s ts as (strk left [x, t, i]) es else none
  | _, .b _ :: _ => none
section
variable (C : Addr)
theorem is_strike_bad {s many : Nat} {ts : List T3} {as : List At} {left : List (List Int)} (b : Bool) {d : D} (hd : BadD d) :
    phi_is_strike C [.val (bookD C s ts), .val (wD b many as), .own (lvD left), .val d] = some (.val (.bl false), [.val (bookD C s ts), .val (wD b many as), .own (lvD left), .val d]) := by
  have w0 : hIx (wD b many as) (.int 0) = some (.val (.int many)) := by simp [wD]
  simp only [phi_is_strike, g_is_strike]
  cases hd with
  | lst l => simp
  | tup l h => simp [h]
  | bl k x y =>
    have t3 : phi_is_tuple_of C [.val (.tup [.bl k, .int x, .int y]), .val (.int 3)] = some (.val (.bl true), [.val (.tup [.bl k, .int x, .int y]), .val (.int 3)]) := by
      rw [is_tuple_of_t]
      rfl
    simp [t3, w0]
theorem isl {s many : Nat} {ts : List T3} {as : List At} (b : Bool) (v : D) (hs : s ≤ 4) (h : OkW ts many as) : ∀ (es : List El) (left : List (List Int)) (x4 : Option Cell), (∀ e ∈ es, e.ok) → OkL s many left → okS (some x4) = true →
    ∃ left' y4, OkL s many left' ∧ okS (some y4) = true ∧ forL (dName 4) (sSeq (sIf (dNot (dTst (dCal 4 (phi_is_strike C) (aCons (oVar 0) (aCons (oVar 1) (aCons (oVar 3) (aCons (oVar 4) (aNil)))))))) (sRet (dC (.bl false))) (sPass)) (sAsg (dSetI 3 (oFz (dOp hIx (oVar 4) (oFz (dC (.int 0)))))) (dLc (iSeq (oFz (dOp hIx (oVar 3) (oFz (dOp hIx (oVar 4) (oFz (dC (.int 0)))))))) (dName 6) (dTst (dOp hNe (oVar 6) (oFz (dOp hIx (oVar 4) (oFz (dC (.int 1))))))) (dMove 6) [6])))
      (es.map El.d) [some (.val (bookD C s ts)), some (.val (wD b many as)), some (.val v), some (.own (lvD left)), x4, none, none] =
      some (match behE s ts as left es with
        | some _ => .nx [some (.val (bookD C s ts)), some (.val (wD b many as)), some (.val v), some (.own (lvD left')), y4, none, none]
        | none => .rt (.val (.bl false)) [some (.val (bookD C s ts)), some (.val (wD b many as)), some (.val v), some (.own (lvD left')), y4, none, none])
  | [], left, x4, _, hl, h4 => ⟨left, x4, hl, h4, rfl⟩
  | .b d :: es, left, x4, he, hl, h4 => by
    have hb := is_strike_bad C (s := s) (many := many) (ts := ts) (as := as) (left := left) b (he _ List.mem_cons_self : BadD d)
    refine ⟨left, some (.val d), hl, rfl, ?_⟩
    rw [List.map_cons, forL_cons]
    simp [fst1, El.d, h4, hb, behE]
  | .g x t i :: es, left, x4, he, hl, h4 => by
    have hb := is_strike C b hs h hl x t i
    by_cases hz : [x, t, i] ∈ ways s ts left as
    · obtain ⟨x', t', i', e, x0, x1, htx, _, _⟩ := ways_rng h hz
      simp only [List.cons.injEq, and_true] at e
      obtain ⟨rfl, rfl, rfl⟩ := e
      have hl' := strk_ok s (z := [x, t, i]) hl
      obtain ⟨left', y4, hl2, hy, ih⟩ := isl b v hs h es (strk left [x, t, i]) (some (.val (encR [x, t, i]))) (fun e he' => he e (List.mem_cons_of_mem _ he')) hl' rfl
      refine ⟨left', y4, hl2, hy, ?_⟩
      have hx : hIx (lvD left) (.int x) = some (.val (.lst ((lt left x).map D.int))) := ixL x0 (by rw [hl.ln]; exact x1)
      have hset : setD (lvD left) (.int x) (encL ((lt left x).filter fun u => !decide (u = t))) = some (lvD (strk left [x, t, i])) := by
        rw [set_lv x0 (by rw [hl.ln]; exact x1)]
        rfl
      have lc := strk_lc (left := left) (x := x) (t := t) (sl := 6) (e := dTst (dOp hNe (oVar 6) (oFz (dOp hIx (oVar 4) (oFz (dC (.int 1)))))))
        (ρ := [some (.val (bookD C s ts)), some (.val (wD b many as)), some (.val v), some (.own (lvD left)), some (.val (encR [x, t, i])), none, none]) fun u => by
          rw [lcL_one]
          by_cases hu : u = t <;> simp [wipeE, ix3_1, neI, hu]
      have hlen : ((lt left x).filter fun u => !decide (u = t)).length ≤ 16777216 := by
        have h3 : ((lt left x).filter fun u => !decide (u = t)).length ≤ (lt left x).length := List.length_filter_le _ _
        obtain ⟨hy, e⟩ := lt_mem htx
        have := hl.sz _ (List.getElem_mem hy)
        rw [e] at h3 ⊢
        omega
      rw [List.map_cons, forL_cons]
      simp only [encL] at hset
      have hbe : behE s ts as left (.g x t i :: es) = behE s ts as (strk left [x, t, i]) es := if_pos hz
      rw [hbe]
      simp [fst1, El.d, h4, hb, hz, ix3_0, hx, wipeE, lc, sizeLine_eq, hlen, hset, ih]
    · refine ⟨left, some (.val (encR [x, t, i])), hl, rfl, ?_⟩
      rw [List.map_cons, forL_cons]
      have hbe : behE s ts as left (.g x t i :: es) = none := if_neg hz
      rw [hbe]
      simp [fst1, El.d, h4, hb, hz]
theorem is_strikes {s many : Nat} {ts : List T3} {as : List At} (b c : Bool) (hs : s ≤ 4) (h : OkW ts many as) {es : List El} (he : ∀ e ∈ es, e.ok) :
    phi_is_strikes C [.val (bookD C s ts), .val (wD b many as), .val (seqB c (es.map El.d))] = some (.val (.bl (behE s ts as (startL s many) es).isSome), [.val (bookD C s ts), .val (wD b many as), .val (seqB c (es.map El.d))]) := by
  have h0 := start_ok (many := many) hs
  have hc := check_wishes C (s := s) b h
  have hm : smI (many : Int) = true := smI_nn (by omega) (by have := h.m2; omega)
  have hr : smR (s : Int) = true := smR_nn (by omega) (by omega)
  have lc := start_lc (s := s) (many := many) (sl := 5) (e := dLr1 (oFz (dFld C "size" (oVar 0)))) (ρ := [some (.val (bookD C s ts)), some (.val (wD b many as)), some (.val (seqB c (es.map El.d))), none, none, none, none]) fun k => by
    rw [lcL_one]
    simp [wipeE, bookD, lo1, hr, rg0, encL, Function.comp_def]
  have hlen : (startL s many).length ≤ 16777216 := by rw [h0.ln]; have := h.m2; omega
  have w0 : hIx (wD b many as) (.int 0) = some (.val (.int many)) := by simp [wD]
  have sq : seqD (seqB c (es.map El.d)) = some (es.map El.d) := by cases c <;> rfl
  have il : phi_is_list C [.val (seqB c (es.map El.d))] = some (.val (.bl true), [.val (seqB c (es.map El.d))]) := by cases c <;> simp [seqB]
  obtain ⟨left', y4, _, _, e⟩ := isl C b (seqB c (es.map El.d)) hs h es (startL s many) none he h0 rfl
  simp only [phi_is_strikes, g_is_strikes]
  simp only [lvD] at e
  cases hz : behE s ts as (startL s many) es with
  | none => rw [hz] at e; simp [hc, il, hm, w0, wipeE, lc, sizeLine_eq, hlen, sq, e]
  | some l => rw [hz] at e; simp [hc, il, hm, w0, wipeE, lc, sizeLine_eq, hlen, sq, e]
theorem is_strikes_n {s many : Nat} {ts : List T3} {as : List At} (b : Bool) (h : OkW ts many as) :
    phi_is_strikes C [.val (bookD C s ts), .val (wD b many as), .val .non] = some (.val (.bl false), [.val (bookD C s ts), .val (wD b many as), .val .non]) := by
  have hc := check_wishes C (s := s) b h
  simp [phi_is_strikes, g_is_strikes, hc]
theorem is_strikes_i {s many : Nat} {ts : List T3} {as : List At} (b : Bool) (h : OkW ts many as) (i : Int) :
    phi_is_strikes C [.val (bookD C s ts), .val (wD b many as), .val (.int i)] = some (.val (.bl false), [.val (bookD C s ts), .val (wD b many as), .val (.int i)]) := by
  have hc := check_wishes C (s := s) b h
  simp [phi_is_strikes, g_is_strikes, hc]
end
end K81
end
section
set_option maxHeartbeats 1000000
namespace Q
open PySem PySem.Spec PyProof.Rows L2
/-! ### the end: the script as data, the law's True -/
def scD (b : Bool) (s : List Int) : D := if b = true then .klst (s.map D.int) else .lst (s.map D.int)
theorem rps_ints {K : PySem.W.Frag} {F : Hp} : ∀ ns : List Int, Rps K F (ns.map V.int) (ns.map D.int)
  | [] => .nil
  | n :: ns => .cons (.int n) (rps_ints ns)
theorem sp_end {K : PySem.W.Frag} {H : Hp} {a : Addr} {ns : List Int} {φ : Fn} {E : XK} (hl : ns.length ≤ 63) (hS : SqL K H a (ns.map V.int)) (h : ∀ (b : Bool) (sc : List Int), sc.length ≤ 63 → ∃ cs, φ [.val (scD b sc)] = some (.val (.bl true), cs)) :
    spF K 1 φ [.ref a] H (fun v _ => v = .bl true) E := by
  have z : (ns.map D.int).length ≤ sizeLine := by rw [sizeLine_eq, List.length_map]; omega
  have hR : ∃ b, Rp K H (.ref a) (scD b ns) := by
    rcases hS with h1 | h1
    · exact ⟨false, .lst h1 (rps_ints ns) z⟩
    · exact ⟨true, .klst (.inr h1) (rps_ints ns) z⟩
  obtain ⟨b, hR⟩ := hR
  obtain ⟨cs, e⟩ := h b ns hl
  refine ⟨rfl, fun _ => none, H, [.val (scD b ns)], .val (.bl true), cs, ?_, e, fun z => (by cases z), fun F' H' v r _ => ?_⟩
  · refine ⟨Ex.refl H, (fun a o e => nomatch (show (none : Option HO) = some o from e)), Le.refl H, (fun a o e => nomatch (show (none : Option HO) = some o from e)), rfl, fun i c e => ?_, fun i j a o1 o2 => ?_, fun i a o => rfl⟩
    · cases i with
      | zero => simp at e; subst e; exact ⟨_, rfl, hR⟩
      | succ i => simp at e
    · obtain ⟨_, c, e, co⟩ := o1
      cases i with
      | zero => simp at e; subst e; cases co
      | succ i => simp at e
  · obtain ⟨v', ev, hc⟩ := r.at_ 0 _ rfl
    simp at ev
    subst ev
    cases hc
    rfl
end Q
end
section
set_option maxHeartbeats 1000000
namespace K81
open PySem PySem.Spec PyProof.Rows L2 Q
section
variable (C : Addr)
/-! ### the script -/
theorem sc_len (b : Bool) (s : List Int) : hLen [scD b s] = some (.val (.int s.length)) := by cases b <;> simp [scD]
theorem sc_ix (b : Bool) (s : List Int) (i : Int) : hIx (scD b s) (.int i) = (atI (s.map D.int) i).bind fun d => some (.val d) := by cases b <;> simp [scD]
theorem sc_cut (b : Bool) (s : List Int) : hSl (scD b s) none (some 1) = some (.own (.lst ((s.take 1).map D.int))) := by
  have e : cutD (s.map D.int) none (some 1) = (s.take 1).map D.int := by
    rw [cut_hi (by omega), List.map_take]
    rfl
  cases b
  · show some (Cell.own (.lst (cutD (s.map D.int) none (some 1)))) = _
    rw [e]
  · show some (Cell.own (.lst (cutD (s.map D.int) none (some 1)))) = _
    rw [e]
theorem ints_map : ∀ l : List Int, intsD (l.map D.int) = some l
  | [] => rfl
  | a :: l => by
    simp [intsD, ints_map l]
theorem sum_map (l : List Int) : hSum [.lst (l.map D.int)] = some (.val (.int l.sum)) := by
  show (intsD (l.map D.int)).bind _ = _
  rw [ints_map]
  rfl
theorem law_cell (b : Bool) (s : List Int) {i : Nat} (hi : i < 3) : ∃ x, phi__law_cell C [.val (scD b s), .val (.int (i : Nat))] = some (.val (.int x), [.val (scD b s), .val (.int (i : Nat))]) := by
  by_cases h : i < s.length
  · refine ⟨s[i], ?_⟩
    have h1 : atI (s.map D.int) (i : Int) = some (.int s[i]) := Q.atI_nat (by simp [h])
    simp [phi__law_cell, g__law_cell, sc_len, sc_ix, h, h1]
  · have h2 : pMul 10063 (i : Int) = true := pMul_ok (by decide) (by omega)
    refine ⟨10063 * (i : Int) + (s.take 1).sum % 1000003, ?_⟩
    have h3 : ¬ ((i : Int) < (s.length : Int)) := by omega
    have h4 := sum_map (s.take 1)
    rw [List.map_take] at h4
    simp only [phi__law_cell, g__law_cell]
    simp [sc_len, sc_cut, h, vMul h2, h4, vMod]
end
end K81
end
section
set_option maxHeartbeats 1000000
namespace K81
open PySem PySem.Spec PyProof.Rows L2 Q
section
variable (C : Addr)
/-! ### sorted rows -/
theorem pyR (r : List Int) : pyOr (encR r) = .tuple (r.map PyData.int) := by
  have := ecR.py r
  simp [pyOr, this]
theorem okSort_rows {l : List (List Int)} {c : Nat} (h0 : 1 ≤ c) (h : ∀ r ∈ l, r.length = c) : okSort (l.map encR) = true := by
  unfold okSort
  simp only [Bool.and_eq_true, List.all_eq_true]
  have al : ∀ a b : List Int, PySem.W.alike (.tuple (a.map PyData.int)) (.tuple (b.map PyData.int)) = true := by
    intro a
    induction a with
    | nil => intro b; simp [PySem.W.alike, PySem.W.alikeAll]
    | cons x a ih => intro b; cases b with
      | nil => simp [PySem.W.alike, PySem.W.alikeAll]
      | cons y b => have := ih b; simp [PySem.W.alike, PySem.W.alikeAll] at this ⊢; exact this
  refine ⟨?_, ?_, ?_, ?_⟩
  · intro d hd
    obtain ⟨x, _, rfl⟩ := List.mem_map.mp hd
    rw [ecR.py x]
    rfl
  · unfold allAlikeB
    simp only [List.all_eq_true]
    intro d hd e he
    obtain ⟨x, hx, rfl⟩ := List.mem_map.mp hd
    obtain ⟨y, hy, rfl⟩ := List.mem_map.mp he
    obtain ⟨x', _, rfl⟩ := List.mem_map.mp hx
    obtain ⟨y', _, rfl⟩ := List.mem_map.mp hy
    rw [pyR, pyR]
    exact al _ _
  · unfold sortableB
    rw [Bool.or_eq_true]
    refine .inl ?_
    simp only [List.all_eq_true]
    intro d hd
    obtain ⟨x, hx, rfl⟩ := List.mem_map.mp hd
    obtain ⟨x', hx', rfl⟩ := List.mem_map.mp hx
    rw [pyR]
    have := h x' hx'
    cases x' with
    | nil => simp at this; omega
    | cons a b => rfl
  · intro d hd
    obtain ⟨x, hx, rfl⟩ := List.mem_map.mp hd
    rw [pyR]
    exact decide_eq_true (Nat.le_trans (ecR.dep x) (by omega))
def decR : D → List Int
  | .tup l => (intsD l).getD []
  | _ => []
theorem dec_enc (r : List Int) : decR (encR r) = r := by
  show (intsD (r.map D.int)).getD [] = r
  rw [ints_map]
  rfl
/-- what is a change of places of coded rows codes a change of places -/
theorem perm_rows {m : List D} {l : List (List Int)} (p : m.Perm (l.map encR)) : ∃ q : List (List Int), m = q.map encR ∧ q.Perm l := by
  refine ⟨m.map decR, ?_, ?_⟩
  · rw [List.map_map]
    have : ∀ d ∈ m, (encR ∘ decR) d = id d := by
      intro d hd
      obtain ⟨r, _, rfl⟩ := List.mem_map.mp (p.mem_iff.mp hd)
      show encR (decR (encR r)) = encR r
      rw [dec_enc]
    rw [List.map_congr_left this, List.map_id]
  · have := p.map decR
    rw [List.map_map] at this
    have e : l.map (decR ∘ encR) = l := by
      rw [List.map_congr_left (f := decR ∘ encR) (g := id) fun r _ => dec_enc r, List.map_id]
    rw [e] at this
    exact this
theorem sort_rows {l : List (List Int)} {c : Nat} (h0 : 1 ≤ c) (h : ∀ r ∈ l, r.length = c) : ∃ m : List (List Int), (hOrC hSorted hSortedD) [.lst (l.map encR)] = some (.own (.lst (m.map encR))) ∧ m.Perm l := by
  obtain ⟨m, hm, p⟩ := perm_rows (l := l) (m := (l.map encR).mergeSort leD) (List.mergeSort_perm _ _)
  refine ⟨m, ?_, p⟩
  unfold hOrC hSorted
  simp only [okSort_rows h0 h, if_true, hm]
end
end K81
end
section
set_option maxHeartbeats 1000000
namespace K81
open PySem PySem.Spec PyProof.Rows L2 Q
section
variable (C : Addr)
def decS : D → Str
  | .str x => x
  | _ => ""
theorem perm_strs {m : List D} {l : List Str} (p : m.Perm (l.map D.str)) : ∃ q : List Str, m = q.map D.str ∧ q.Perm l := by
  refine ⟨m.map decS, ?_, ?_⟩
  · rw [List.map_map]
    have : ∀ d ∈ m, (D.str ∘ decS) d = id d := by
      intro d hd
      obtain ⟨r, _, rfl⟩ := List.mem_map.mp (p.mem_iff.mp hd)
      rfl
    rw [List.map_congr_left this, List.map_id]
  · have := p.map decS
    rw [List.map_map] at this
    have e : l.map (decS ∘ D.str) = l := by
      rw [List.map_congr_left (f := decS ∘ D.str) (g := id) fun r _ => rfl, List.map_id]
    rw [e] at this
    exact this
theorem putP_at {tabs : List T3} {x : Str} {p : Nat × List (List Int)} (h : x ∈ tabs.map (·.1)) : putP key1 (encFs tabs) (.inr x) (.str x) (vF (x, p)) = encFs (tabs.map fun t => if t.1 = x then (t.1, p) else t) := by
  unfold putP
  have hk : ∀ t : T3, key1 (D.str t.1) = some (Sum.inr t.1) := fun _ => rfl
  rw [if_pos]
  · unfold encFs
    rw [List.map_map, List.map_map]
    refine List.map_congr_left fun t ht => ?_
    by_cases e : t.1 = x
    · have := hk t
      rw [e] at this
      simp [Function.comp, this, e, vF]
    · simp [Function.comp, hk, e]
  · obtain ⟨t, ht, e⟩ := List.mem_map.mp h
    rw [List.any_eq_true]
    refine ⟨(D.str t.1, vF t), List.mem_map.mpr ⟨t, ht, rfl⟩, ?_⟩
    have := hk t
    rw [e] at this
    simp [this, e]
theorem four_ix {x : Int} (h0 : 0 ≤ x) (h1 : x < 4) : ∃ c : Nat, atI [D.int 1, .int 2, .int 2, .int 3] x = some (.int (c : Nat)) ∧ 1 ≤ c ∧ c ≤ 3 := by
  have h : x = 0 ∨ x = 1 ∨ x = 2 ∨ x = 3 := by omega
  rcases h with rfl | rfl | rfl | rfl
  · exact ⟨1, rfl, by omega, by omega⟩
  · exact ⟨2, rfl, by omega, by omega⟩
  · exact ⟨2, rfl, by omega, by omega⟩
  · exact ⟨3, rfl, by omega, by omega⟩
noncomputable def fieldB : Q.Env → Option Out := sSeq (sSet 6 (dOp hIx (oFz (dLst (aCons (oFz (dC (.int 1))) (aCons (oFz (dC (.int 2))) (aCons (oFz (dC (.int 2))) (aCons (oFz (dC (.int 3))) (aNil))))))) (oFz (dCal 2 (phi__law_take C) (aCons (oVar 0) (aCons (oFz (dC (.int 4))) (aNil))))))) (sAsg (dSetI 3 (oVar 5)) (dLst (aCons (oFz (dVar 6)) (aCons (oFz (dCall (hOrC hSorted hSortedD) (aCons (oFz (dSl (oFz (dCal 2 (phi__law_mixed C) (aCons (oVar 0) (aCons (oFz (dCal 2 (phi__law_every C) (aCons (oVar 1) (aCons (oVar 6) (aNil))))) (aNil))))) (nPart) (sPart (oFz (dCal 2 (phi__law_take C) (aCons (oVar 0) (aCons (oFz (dC (.int 6))) (aNil)))))))) (aNil)))) (aNil)))))
theorem pow64 {s c : Nat} (hs : s ≤ 4) (hc : c ≤ 3) : s ^ c ≤ 64 := by
  have h1 : s ^ c ≤ 4 ^ c := Nat.pow_le_pow_left hs c
  have h2 : 4 ^ c ≤ 4 ^ 3 := Nat.pow_le_pow_right (by omega) hc
  omega
theorem field_step {s n : Nat} {box : D} {tabs : List T3} {x : Str} {x5 x6 : Option Cell} {mv nv : D} (hs : s ≤ 4) (hx : x ∈ five) (hn : x ∉ tabs.map (·.1)) (hl : tabs.length ≤ 5) (hb : Bx (n + 70) box) (h5 : okS (some x5) = true) (h6 : okS (some x6) = true) :
    ∃ box' t x6', fst1 (dName 5) (fieldB C) (.str x) [some (.par 0 box), some (.val (.int s)), some (.val mv), some (.own (.dct false (encFs tabs))), some (.val nv), x5, x6] = some (.nx [some (.par 0 box'), some (.val (.int s)), some (.val mv), some (.own (.dct false (encFs (tabs ++ [t])))), some (.val nv), some (.val (.str x)), x6']) ∧ okS (some x6') = true ∧ Bx n box' ∧ t.1 = x ∧ OkT s t := by
  obtain ⟨box1, y, e1, b1, y0, y1⟩ := law_take C (n := n + 69) (many := 4) hb (by omega) (by omega)
  obtain ⟨c, hc, c0, c1⟩ := four_ix y0 y1
  have he := law_every C hs c1
  have hle := allRows_len s c
  have h64 := pow64 hs c1
  obtain ⟨box2, out, e2, b2, p2⟩ := law_mixed C (n := n + 1) (items := (allRows s c).map encR) (b1.mono (m := n + 1 + ((allRows s c).map encR).length) (by simp; omega)) (by simp; omega)
  obtain ⟨q, rfl, p3⟩ := perm_rows p2
  obtain ⟨box3, z, e3, b3, z0, z1⟩ := law_take C (n := n) (many := 6) b2 (by omega) (by omega)
  have hrows : ∀ r ∈ q.take z.toNat, r ∈ allRows s c := fun r hr => p3.mem_iff.mp (List.mem_of_mem_take hr)
  obtain ⟨m, e4, p4⟩ := sort_rows (l := q.take z.toNat) (c := c) c0 fun r hr => (allRows_mem.mp (hrows r hr)).1
  have hcut : hSl (.lst (q.map encR)) none (some z) = some (.own (.lst ((q.take z.toNat).map encR))) := by
    show some (Cell.own (.lst (cutD (q.map encR) none (some z)))) = _
    rw [cut_hi z0, List.map_take]
  rw [List.map_take] at hcut e4
  refine ⟨box3, (x, c, m), some (.val (.int c)), ?_, rfl, b3, rfl, hx, c0, c1, fun r hr => hrows r (p4.mem_iff.mp hr), ?_⟩
  · have hput : putP key1 (encFs tabs) (.inr x) (.str x) (vF (x, c, m)) = encFs (tabs ++ [(x, c, m)]) := by
      rw [putP_new]
      · simp [encFs]
      · intro p hp e
        obtain ⟨t, ht, rfl⟩ := List.mem_map.mp hp
        have e : some (Sum.inr t.1 : Key) = some (.inr x) := e
        exact hn (List.mem_map.mpr ⟨t, ht, by simpa using e⟩)
    have hlt : (encFs tabs).length < sizeLine := by rw [sizeLine_eq]; unfold encFs; simp; omega
    simp only [vF] at hput
    have z4 : 4 ≤ sizeLine := by rw [sizeLine_eq]; omega
    have z2 : 2 ≤ sizeLine := by rw [sizeLine_eq]; omega
    simp [fst1, fieldB, h5, h6, e1, hc, he, e2, e3, hcut, e4, setD, putD, key1, hlt, hput, z4, z2]
  · have := p4.length_eq
    have := p3.length_eq
    simp at *
    omega
end
end K81
end
section
set_option maxHeartbeats 1000000
namespace K81
open PySem PySem.Spec PyProof.Rows L2 Q
section
variable (C : Addr)
def fieldD (s : Nat) (tabs : List T3) : D := .lst [.int s, .dct false (encFs tabs)]
theorem five_nd : five.Nodup := by decide
theorem law_field {s many n : Nat} {box : D} (hs : s ≤ 4) (h1 : 1 ≤ many) (h5 : many ≤ 5) (hb : Bx (n + 400) box) :
    ∃ box' tabs, phi__law_field C [.own box, .val (.int s), .val (.int many)] = some (.own (fieldD s tabs), [.own box', .val (.int s), .val (.int many)]) ∧ Bx n box' ∧ OkTs s tabs ∧ tabs ≠ [] := by
  obtain ⟨box1, out, e1, b1, p1⟩ := law_mixed C (n := n + 395) (items := five.map D.str) (hb.mono (m := n + 395 + (five.map D.str).length) (by simp [five])) (by simp [five])
  obtain ⟨q, rfl, p2⟩ := perm_strs p1
  have hql : q.length = 5 := p2.length_eq
  have hqn : q.Nodup := p2.nodup_iff.mpr five_nd
  have hcut : hSl (.lst (q.map D.str)) none (some (many : Int)) = some (.own (.lst ((q.take many).map D.str))) := by
    show some (Cell.own (.lst (cutD (q.map D.str) none (some (many : Int))))) = _
    rw [cut_hi (by omega), List.map_take]
    rfl
  have hN : ∀ x ∈ q.take many, x ∈ five := fun x hx => p2.mem_iff.mp (List.mem_of_mem_take hx)
  have hNd : (q.take many).Nodup := hqn.sublist (List.take_sublist _ _)
  have hNl : (q.take many).length = many := by rw [List.length_take]; omega
  generalize q.take many = N at hcut hN hNd hNl
  have inv := forL_inv (g := dName 5) (b := fieldB C)
    (fun i ρ => i ≤ N.length ∧ ∃ box tabs x5 x6, ρ = [some (.par 0 box), some (.val (.int s)), some (.val (.int many)), some (.own (.dct false (encFs tabs))), some (.val (.lst (N.map D.str))), x5, x6] ∧ okS (some x5) = true ∧ okS (some x6) = true ∧ Bx (n + 1 + (N.length - i) * 70) box ∧ tabs.map (·.1) = N.take i ∧ ∀ t ∈ tabs, OkT s t)
    (ds := N.map D.str) (n := 0) (ρ := [some (.par 0 box1), some (.val (.int s)), some (.val (.int many)), some (.own (.dct false [])), some (.val (.lst (N.map D.str))), none, none]) ?_ ⟨by omega, box1, [], none, none, rfl, rfl, rfl, b1.mono (by omega), rfl, by simp⟩
  · obtain ⟨ρ', e, _, box2, tabs, x5, x6, rfl, h5', h6', b2, hn, hT⟩ := inv
    have hle : 0 + (N.map D.str).length = N.length := by simp
    rw [hle] at b2 hn
    rw [List.take_length] at hn
    rw [Nat.sub_self, Nat.zero_mul] at b2
    have htl : tabs.length = many := by rw [← hNl, ← hn, List.length_map]
    obtain ⟨box3, y, e3, b3, y0, y1⟩ := law_take C (n := n) (many := 3) b2 (by omega) (by omega)
    have z2 : 2 ≤ sizeLine := by rw [sizeLine_eq]; omega
    have hme : (Cell.own (D.lst (five.map D.str))) = .own (.lst [.str "a", .str "b", .str "edge", .str "m", .str "way"]) := rfl
    have z5 : 5 ≤ sizeLine := by rw [sizeLine_eq]; omega
    simp only [five, List.map_cons, List.map_nil] at e1
    simp only [fieldB] at e
    by_cases hm : 1 < many
    · subst hn
      have hm' : (1 : Int) < many := by omega
      match tabs, htl with
      | t0 :: t1 :: tr, htl =>
      have hne : t0.1 ≠ t1.1 := by
        have := hNd
        simp only [List.map_cons, List.nodup_cons, List.mem_cons, not_or] at this
        exact this.1.1
      by_cases hy : y = 0
      · subst hy
        have l0 : lookP key1 (encFs (t0 :: t1 :: tr)) (.inr t0.1) = some (vF t0) := lookP_map (fun t : T3 => t.1) vF hNd List.mem_cons_self
        have pa := putP_at (tabs := t0 :: t1 :: tr) (x := t1.1) (p := t0.2) (by simp)
        have hlt : (encFs (t0 :: t1 :: tr)).length < sizeLine := by rw [sizeLine_eq]; unfold encFs; simp at *; omega
        refine ⟨box3, (t0 :: t1 :: tr).map fun t => if t.1 = t1.1 then (t.1, t0.2) else t, ?_, b3, ⟨?_, ?_, by rw [List.length_map]; omega⟩, by simp⟩
        · have v0 : hIx (vF t0) (.int 0) = some (.val (.int t0.2.1)) := by simp [vF]
          have v1 : hIx (vF t0) (.int 1) = some (.val (.lst (t0.2.2.map encR))) := by simp [vF]
          have a0 : ∀ l : List D, atI (.str t0.1 :: .str t1.1 :: l) 0 = some (.str t0.1) := fun l => Q.atI_nat (i := 0) rfl
          have a1 : ∀ l : List D, atI (.str t0.1 :: .str t1.1 :: l) 1 = some (.str t1.1) := fun l => Q.atI_nat (i := 1) rfl
          simp only [vF] at pa
          simp only [phi__law_field, g__law_field]
          simp only [List.map_cons] at hcut e
          generalize (List.map D.str (List.map (fun x : T3 => x.fst) tr)) = L at hcut e
          generalize (List.map (fun t : T3 => if t.fst = t1.fst then (t.fst, t0.snd) else t) (t0 :: t1 :: tr)) = T at pa ⊢
          simp [e1, hcut, e, z5, z2, hm', hm, fieldD, e3, l0, v0, v1, a0, a1, setD, putD, key1, hlt, pa]
        · intro t ht
          obtain ⟨u, hu, rfl⟩ := List.mem_map.mp ht
          by_cases e : u.1 = t1.1
          · rw [if_pos e]
            have h0 := hT t0 List.mem_cons_self
            exact ⟨(hT u hu).nm, h0.c0, h0.c1, h0.rw, h0.ln⟩
          · rw [if_neg e]
            exact hT u hu
        · rw [List.map_map]
          have : (Prod.fst ∘ fun t : T3 => if t.1 = t1.1 then (t.1, t0.2) else t) = Prod.fst := by
            funext t
            simp only [Function.comp]
            split <;> rfl
          rw [this]
          exact hNd
      · refine ⟨box3, t0 :: t1 :: tr, ?_, b3, ⟨hT, hNd, by omega⟩, by simp⟩
        simp only [phi__law_field, g__law_field]
        simp only [List.map_cons] at hcut e
        generalize (List.map D.str (List.map (fun x : T3 => x.fst) tr)) = L at hcut e
        simp [e1, hcut, e, z5, z2, hm', hm, fieldD, e3, hy]
      | [t0], htl => simp at htl; omega
      | [], htl => simp at htl; omega
    · refine ⟨box2, tabs, ?_, b2.mono (by omega), ⟨hT, by rw [hn]; exact hNd, by omega⟩, ?_⟩
      · have hm' : ¬ ((1 : Int) < many) := by omega
        simp only [phi__law_field, g__law_field]
        simp [e1, hcut, e, z5, z2, hm', hm, fieldD]
      · rintro rfl
        simp at htl
        omega
  · rintro i d ρ hd ⟨hi, box, tabs, x5, x6, rfl, h5', h6', b2, hn, hT⟩
    rw [Nat.zero_add] at hi b2 hn ⊢
    rw [List.getElem?_map] at hd
    obtain ⟨x, hx, rfl⟩ := Option.map_eq_some_iff.mp hd
    have hil : i < N.length := (List.getElem?_eq_some_iff.mp hx).1
    have hx' : x = N[i] := ((List.getElem?_eq_some_iff.mp hx).2).symm
    have htl : tabs.length = i := by have := congrArg List.length hn; simp at this; omega
    have hnx : x ∉ tabs.map (·.1) := by
      rw [hn, hx']
      intro hmem
      obtain ⟨j, hj, e⟩ := List.mem_take_iff_getElem.mp hmem
      exact List.pairwise_iff_getElem.mp hNd j i (by omega) hil (by omega) e
    obtain ⟨box', t, x6', e, h6'', b', ht, hO⟩ := field_step C (n := n + 1 + (N.length - (i + 1)) * 70) (mv := .int many) (nv := .lst (N.map D.str)) hs (hN x (List.mem_of_getElem? hx)) hnx (by omega) (b2.mono (by omega)) h5' h6'
    refine ⟨_, e, by omega, box', tabs ++ [t], _, _, rfl, rfl, h6'', b', ?_, ?_⟩
    · rw [List.map_append, hn, List.take_add_one, hx]
      simp [ht]
    · intro u hu
      rcases List.mem_append.mp hu with hu | hu
      · exact hT u hu
      · have : u = t := by simpa using hu
        exact this ▸ hO
end
end K81
end
section
set_option maxHeartbeats 1000000
namespace K81
open PySem PySem.Spec PyProof.Rows L2 Q
section
variable (C : Addr)
theorem strs_map : ∀ l : List Str, strsD (l.map D.str) = some l
  | [] => rfl
  | a :: l => by simp [strsD, strs_map l]
/-- the names of a field, sorted -/
def namesT (tabs : List T3) : List Str := (tabs.map (·.1)).mergeSort leS
theorem names_perm (tabs : List T3) : (namesT tabs).Perm (tabs.map (·.1)) := List.mergeSort_perm _ _
theorem sort_field {tabs : List T3} (h : tabs.length ≤ 5) : (hOrC hSorted hSortedD) [.dct false (encFs tabs)] = some (.own (.lst ((namesT tabs).map D.str))) := by
  have hk : (encFs tabs).map (·.1) = (tabs.map (·.1)).map D.str := by unfold encFs; rw [List.map_map, List.map_map]; rfl
  have : hSortedD [.dct false (encFs tabs)] = some (.own (.lst ((namesT tabs).map D.str))) := by
    show ((strsD ((encFs tabs).map (·.1))).bind fun xs => if xs.length < 64 then some (Cell.own (.lst (((encFs tabs).map (·.1)).mergeSort leD))) else none) = _
    rw [hk, strs_map]
    simp only [Option.bind_some]
    rw [if_pos (by simp; omega), sort_str]
    rfl
  have h0 : hSorted [.dct false (encFs tabs)] = none := rfl
  unfold hOrC
  rw [h0]
  exact this
/-- the same tables, rows in any order -/
structure Like (tabs ts : List T3) : Prop where
  nm : (ts.map (·.1)).Perm (tabs.map (·.1))
  rw : ∀ u ∈ ts, ∃ t ∈ tabs, t.1 = u.1 ∧ t.2.1 = u.2.1 ∧ u.2.2.Perm t.2.2
theorem Like.ok {s : Nat} {tabs ts : List T3} (h : Like tabs ts) (o : OkTs s tabs) : OkTs s ts := by
  refine ⟨fun u hu => ?_, h.nm.nodup_iff.mpr o.nd, by have := h.nm.length_eq; have := o.ln; simp at *; omega⟩
  obtain ⟨t, ht, e1, e2, e3⟩ := h.rw u hu
  have := o.t t ht
  exact ⟨e1 ▸ this.nm, e2 ▸ this.c0, e2 ▸ this.c1, fun r hr => e2 ▸ this.rw r (e3.mem_iff.mp hr), by rw [e3.length_eq]; exact this.ln⟩
theorem Like.sort {tabs ts : List T3} (h : Like tabs ts) : Like tabs (sortT ts) :=
  ⟨((sortT_perm ts).map _).trans h.nm, fun u hu => h.rw u ((sortT_perm ts).mem_iff.mp hu)⟩
theorem foldP_names {α : Type} (nm : α → Str) (v : α → D) : ∀ (l : List α) (acc : List (D × D)), (l.map nm).Nodup → (∀ a ∈ l, ∀ p ∈ acc, key1 p.1 ≠ some (.inr (nm a))) →
    foldP key1 (l.map fun a => D.tup [.str (nm a), v a]) acc = some (acc ++ l.map fun a => (D.str (nm a), v a))
  | [], acc, _, _ => by simp [foldP]
  | a :: l, acc, nd, hn => by
    rw [List.map_cons]
    show ((key1 (D.str (nm a))).bind fun k => foldP key1 (l.map fun a => D.tup [.str (nm a), v a]) (putP key1 acc k (.str (nm a)) (v a))) = _
    show foldP key1 (l.map fun a => D.tup [.str (nm a), v a]) (putP key1 acc (.inr (nm a)) (.str (nm a)) (v a)) = _
    rw [putP_new (hn a List.mem_cons_self)]
    rw [List.map_cons, List.nodup_cons] at nd
    rw [foldP_names nm v l _ nd.2 ?_]
    · simp
    · intro b hb p hp
      rcases List.mem_append.mp hp with hp | hp
      · exact hn b (List.mem_cons_of_mem _ hb) p hp
      · have : p = (D.str (nm a), v a) := by simpa using hp
        subst this
        intro e
        have e : some (Sum.inr (nm a) : Key) = some (.inr (nm b)) := e
        have e : nm a = nm b := by simpa using e
        exact nd.1 (e ▸ List.mem_map.mpr ⟨b, hb, rfl⟩)
noncomputable def builtE : Q.Env → Option (Cell × Q.Env) := dTup (aCons (oFz (dVar 2)) (aCons (oFz (dTup (aCons (oFz (dOp hIx (oFz (dOp hIx (oFz (dOp hIx (oVar 1) (oFz (dC (.int 1))))) (oVar 2))) (oFz (dC (.int 0))))) (aCons (oFz (dCal 2 (phi__law_mixed C) (aCons (oVar 0) (aCons (oFz (dOp hIx (oFz (dOp hIx (oFz (dOp hIx (oVar 1) (oFz (dC (.int 1))))) (oVar 2))) (oFz (dC (.int 1))))) (aNil))))) (aNil))))) (aNil)))
theorem built_lc {s : Nat} {tabs : List T3} (o : OkTs s tabs) (hs : s ≤ 4) : ∀ (N : List Str) (n : Nat) (box : D), (∀ x ∈ N, x ∈ tabs.map (·.1)) → Bx (n + 64 * N.length) box →
    ∃ (box' : D) (ts : List T3), lcL (dName 2) tTrue (builtE C) [2] (N.map D.str) [some (.par 0 box), some (.par 1 (fieldD s tabs)), none] = some (ts.map fun t : T3 => D.tup [.str t.1, vB t], [some (.par 0 box'), some (.par 1 (fieldD s tabs)), none]) ∧ Bx n box' ∧ ts.map (·.1) = N ∧ ∀ u ∈ ts, ∃ t ∈ tabs, t.1 = u.1 ∧ t.2.1 = u.2.1 ∧ u.2.2.Perm t.2.2
  | [], n, box, _, hb => ⟨box, [], rfl, by simpa using hb, rfl, by simp⟩
  | x :: N, n, box, hN, hb => by
    obtain ⟨t, ht, rfl⟩ := List.mem_map.mp (hN x List.mem_cons_self)
    have hO := o.t t ht
    obtain ⟨box1, out, e1, b1, p1⟩ := law_mixed C (n := n + 64 * N.length) (items := t.2.2.map encR) (hb.mono (m := n + 64 * N.length + (t.2.2.map encR).length) (by have := hO.ln; simp; omega)) (by have := hO.ln; simp; omega)
    obtain ⟨q, rfl, p2⟩ := perm_rows p1
    obtain ⟨box2, ts, e2, b2, hn, hr⟩ := built_lc o hs N n box1 (fun y hy => hN y (List.mem_cons_of_mem _ hy)) b1
    have l0 : lookP key1 (encFs tabs) (.inr t.1) = some (vF t) := lookP_map (fun t : T3 => t.1) vF o.nd ht
    have f1 : hIx (fieldD s tabs) (.int 1) = some (.val (.dct false (encFs tabs))) := by simp [fieldD]
    have v0 : hIx (vF t) (.int 0) = some (.val (.int t.2.1)) := by simp [vF]
    have v1 : hIx (vF t) (.int 1) = some (.val (.lst (t.2.2.map encR))) := by simp [vF]
    refine ⟨box2, (t.1, t.2.1, q) :: ts, ?_, b2, by simp [hn], ?_⟩
    · rw [List.map_cons, lcL_cons, lcL_one]
      have z2 : 2 ≤ sizeLine := by rw [sizeLine_eq]; omega
      simp [builtE, f1, l0, v0, v1, e1, wipeE, z2]
      simp only [builtE] at e2
      simp [e2, vB]
    · intro u hu
      rcases List.mem_cons.mp hu with rfl | hu
      · exact ⟨t, ht, rfl, rfl, p2⟩
      · exact hr u hu
theorem law_built {s n : Nat} {box : D} {tabs : List T3} (h1 : 1 ≤ s) (hs : s ≤ 4) (o : OkTs s tabs) (hb : Bx (n + 400) box) :
    ∃ (box' : D) (ts : List T3), phi__law_built C [.own box, .own (fieldD s tabs)] = some (.own (bookD C s ts), [.own box', .own (fieldD s tabs)]) ∧ Bx n box' ∧ Like tabs ts := by
  have hl := o.ln
  have hnl : (namesT tabs).length = tabs.length := by rw [(names_perm tabs).length_eq, List.length_map]
  obtain ⟨box1, out, e1, b1, p1⟩ := law_mixed C (n := n + 330) (items := (namesT tabs).map D.str) (hb.mono (m := n + 330 + ((namesT tabs).map D.str).length) (by simp; omega)) (by simp; omega)
  obtain ⟨N, rfl, p2⟩ := perm_strs p1
  have hNl : N.length = tabs.length := by rw [p2.length_eq, hnl]
  obtain ⟨box2, ts, e2, b2, hn, hr⟩ := built_lc C o hs N n box1 (fun x hx => (names_perm tabs).mem_iff.mp (p2.mem_iff.mp hx)) (b1.mono (by omega))
  have lk : Like tabs ts := ⟨by rw [hn]; exact p2.trans (names_perm tabs), hr⟩
  have o2 := lk.ok o
  have hf := foldP_names (fun t : T3 => t.1) vB ts [] o2.nd (by simp)
  rw [List.nil_append] at hf
  have hi := book_init C h1 hs o2
  have hso := sort_field hl
  have f0 : hIx (fieldD s tabs) (.int 0) = some (.val (.int s)) := by simp [fieldD]
  have f1 : hIx (fieldD s tabs) (.int 1) = some (.val (.dct false (encFs tabs))) := by simp [fieldD]
  have hts : ts.length ≤ sizeLine := by rw [sizeLine_eq]; have := o2.ln; omega
  have hd : hDictK [.lst (ts.map fun t : T3 => D.tup [.str t.1, vB t])] = some (.own (.dct false (encBs ts))) := by
    show (foldP key1 (ts.map fun t : T3 => D.tup [.str t.1, vB t]) []).bind _ = _
    rw [hf]
    rfl
  refine ⟨box2, sortT ts, ?_, b2, lk.sort⟩
  simp only [builtE] at e2
  simp only [phi__law_built, g__law_built]
  simp [f0, f1, hso, e1, wipeE, e2, hts, hd, hi]
end
end K81
end
section
set_option maxHeartbeats 1000000
namespace K81
open PySem PySem.Spec PyProof.Rows L2 Q
section
variable (C : Addr)
abbrev Str5 : Type := {x : Str // x ∈ five}
theorem five_ok (x : Str) (h : x ∈ five) : PyData.strOk x = true := by
  have h : x = "a" ∨ x = "b" ∨ x = "edge" ∨ x = "m" ∨ x = "way" := by simpa [five] using h
  rcases h with rfl | rfl | rfl | rfl | rfl <;> kernel_rfl
theorem ecS : Ec (fun a : Str5 => D.str a.1) (fun a => PyData.str a.1) 0 := ⟨fun a => by simp [D.py], fun a => by simp [PyData.canLay0, five_ok a.1 a.2], fun a => by simp [PyData.depth], fun a b => by rw [Bool.eq_iff_iff]; simp [PyData.eqv, Subtype.ext_iff]⟩
theorem neN {N : List Str} (h : ∀ x ∈ N, x ∈ five) : hNe (.lst (N.map D.str)) (.lst []) = some (.val (.bl (!decide (N = [])))) := by
  have e := ecS.list.ne (by omega) (N.pmap Subtype.mk h) []
  have e1 : (N.pmap Subtype.mk h).map (fun a : Str5 => D.str a.1) = N.map D.str := by
    rw [List.map_pmap]
    exact List.pmap_eq_map _
  simp only [e1, List.map_nil] at e
  rw [e]
  cases N <;> simp
theorem ints_of {p : Int → Prop} : ∀ {L : List D}, (∀ d ∈ L, ∃ i : Int, d = .int i ∧ p i) → ∃ m : List Int, L = m.map D.int ∧ ∀ i ∈ m, p i
  | [], _ => ⟨[], rfl, by simp⟩
  | d :: L, h => by
    obtain ⟨i, rfl, hi⟩ := h d List.mem_cons_self
    obtain ⟨m, rfl, hm⟩ := ints_of fun d hd => h d (List.mem_cons_of_mem _ hd)
    refine ⟨i :: m, rfl, fun j hj => ?_⟩
    rcases List.mem_cons.mp hj with rfl | hj
    · exact hi
    · exact hm j hj
theorem rep_one (i : Int) : ∀ n : Nat, repD n [D.int i] = (List.replicate n i).map D.int
  | 0 => rfl
  | n + 1 => by
    have := rep_one i n
    unfold repD at this ⊢
    rw [List.replicate_succ, List.flatten_cons, this, List.replicate_succ]
    rfl
noncomputable def wishB : Q.Env → Option Out := (sSeq (sSet 7 (dOp hIx (oVar 4) (oFz (dCal 2 (phi__law_take C) (aCons (oVar 0) (aCons (oFz (dCall hLen (aCons (oVar 4) (aNil)))) (aNil))))))) (sSeq (sSet 8 (dLc (iRange1 (aCons (oFz (dOp hIx (oFz (dOp hIx (oFz (dOp hIx (oVar 1) (oFz (dC (.int 1))))) (oVar 7))) (oFz (dC (.int 0))))) (aNil))) (dName 9) (tTrue) (dCal 2 (phi__law_take C) (aCons (oVar 0) (aCons (oVar 2) (aNil)))) [9])) (sSeq (sIf (dTst (dOp hEq (oFz (dCal 2 (phi__law_take C) (aCons (oVar 0) (aCons (oFz (dC (.int 4))) (aNil))))) (oFz (dC (.int 0))))) (sSet 8 (dOp (hOr hMulI hRep) (oFz (dSl (oVar 8) (nPart) (sPart (oFz (dC (.int 1)))))) (oFz (dCall hLen (aCons (oVar 8) (aNil)))))) (sPass)) (sDrop (dMth hAppend 5 (aCons (oFz (dTup (aCons (oFz (dC (.str "in"))) (aCons (oFz (dVar 7)) (aCons (oFz (dCall hTuple (aCons (oVar 8) (aNil)))) (aNil)))))) (aNil)))))))
theorem wish_step {s many n : Nat} {box d nv : D} {tabs : List T3} {N : List Str} {as : List At} {x6 x7 x8 : Option Cell} (o : OkTs s tabs) (m1 : 1 ≤ many) (m2 : many ≤ 6) (hN : ∀ x ∈ N, x ∈ tabs.map (·.1)) (h0 : N ≠ []) (hl : N.length ≤ 5) (ha : as.length ≤ 60) (hb : Bx (n + 5) box) (h6 : okS (some x6) = true) (h7 : okS (some x7) = true) (h8 : okS (some x8) = true) :
    ∃ box' a x7' x8', fst1 (dName 6) (wishB C) d [some (.par 0 box), some (.par 1 (fieldD s tabs)), some (.val (.int many)), some (.val nv), some (.own (.lst (N.map D.str))), some (.own (.lst (as.map encA))), x6, x7, x8, none] =
      some (.nx [some (.par 0 box'), some (.par 1 (fieldD s tabs)), some (.val (.int many)), some (.val nv), some (.own (.lst (N.map D.str))), some (.own (.lst ((as ++ [a]).map encA))), some (.val d), x7', x8', none]) ∧ okS (some x7') = true ∧ okS (some x8') = true ∧ Bx n box' ∧ OkA tabs many a := by
  have hNp : 0 < N.length := List.length_pos_iff.mpr h0
  obtain ⟨box1, y, e1, b1, y0, y1⟩ := law_take C (n := n + 4) (many := (N.length : Int)) hb (by omega) (by omega)
  have hyl : y.toNat < N.length := by omega
  have hx : N[y.toNat] ∈ tabs.map (·.1) := hN _ (List.getElem_mem hyl)
  have hat : atI (N.map D.str) y = some (.str N[y.toNat]) := atI_nn y0 (by simp [hyl])
  generalize N[y.toNat] = x at hx hat
  obtain ⟨t, ht, rfl⟩ := List.mem_map.mp hx
  have hO := o.t t ht
  have c0 := hO.c0
  have c1 := hO.c1
  have f1 : hIx (fieldD s tabs) (.int 1) = some (.val (.dct false (encFs tabs))) := by simp [fieldD]
  have l0 : lookP key1 (encFs tabs) (.inr t.1) = some (vF t) := lookP_map (fun t : T3 => t.1) vF o.nd ht
  have v0 : hIx (vF t) (.int 0) = some (.val (.int t.2.1)) := by simp [vF]
  have hr : smI (t.2.1 : Int) = true := smI_nn (by omega) (by omega)
  have inv := lcL_inv (g := dName 9) (tt := tTrue) (te := dCal 2 (phi__law_take C) (aCons (oVar 0) (aCons (oVar 2) (aNil)))) (vs := [9])
    (fun k ρ => ∃ box, ρ = [some (.par 0 box), some (.par 1 (fieldD s tabs)), some (.val (.int many)), some (.val nv), some (.own (.lst (N.map D.str))), some (.own (.lst (as.map encA))), some (.val d), some (.val (.str t.1)), x8, none] ∧ Bx (n + 1 + k) box)
    (fun d => ∃ i : Int, d = .int i ∧ 0 ≤ i ∧ i < many) (ds := rgD 0 t.2.1) (n := 0)
    (ρ := [some (.par 0 box1), some (.par 1 (fieldD s tabs)), some (.val (.int many)), some (.val nv), some (.own (.lst (N.map D.str))), some (.own (.lst (as.map encA))), some (.val d), some (.val (.str t.1)), x8, none]) ?_ ⟨box1, rfl, b1.mono (by rw [rg0]; simp; omega)⟩
  · obtain ⟨out, ρ', e2, ⟨box2, rfl, b2⟩, hR, hol⟩ := inv
    obtain ⟨pl, rfl, hpl⟩ := ints_of hR
    have hpc : pl.length = t.2.1 := by rw [rg0] at hol; simpa using hol
    obtain ⟨box3, z, e3, b3, z0, z1⟩ := law_take C (n := n) (many := 4) b2 (by omega) (by omega)
    have hpz : pl.length ≤ sizeLine := by rw [sizeLine_eq]; omega
    have hal : as.length < sizeLine := by rw [sizeLine_eq]; omega
    have z3 : 3 ≤ sizeLine := by rw [sizeLine_eq]; omega
    have hcut : hSl (.lst (pl.map D.int)) none (some 1) = some (.own (.lst ((pl.take 1).map D.int))) := by
      show some (Cell.own (.lst (cutD (pl.map D.int) none (some 1)))) = _
      rw [cut_hi (by omega), List.map_take]
      rfl
    by_cases hz : z = 0
    · subst hz
      match pl, hpc, hcut, e2, hpl, hpz with
      | [], hpc, _, _, _, _ => simp at hpc; omega
      | i :: pl, hpc, hcut, e2, hpl, hpz =>
      have hi := hpl i List.mem_cons_self
      have hrep : hRep (.lst [D.int i]) (.int ((pl.length : Int) + 1)) = some (.own (.lst ((List.replicate t.2.1 i).map D.int))) := by
        have e4 : ((pl.length : Int) + 1).toNat = t.2.1 := by simp at hpc; omega
        show (if smI ((pl.length : Int) + 1) = true ∧ 1 * ((pl.length : Int) + 1).toNat ≤ sizeLine then some (Cell.own (.lst (repD ((pl.length : Int) + 1).toNat [D.int i]))) else none) = _
        rw [if_pos ⟨smI_nn (by omega) (by simp at hpc; omega), by rw [sizeLine_eq]; omega⟩, e4, rep_one]
      refine ⟨box3, (t.1, List.replicate t.2.1 i), some (.val (.str t.1)), some (.own (.lst ((List.replicate t.2.1 i).map D.int))), ?_, rfl, rfl, b3, ⟨t, ht, rfl, by simp⟩, fun x hx => ?_, by simp; omega⟩
      · simp only [List.map_cons] at hcut e2
        generalize hL : (List.replicate t.2.1 i).map D.int = L at hrep ⊢
        have hL2 : (List.replicate t.2.1 (D.int i)) = L := by rw [← hL, List.map_replicate]
        simp only [List.take_succ_cons, List.take_zero, List.map_cons, List.map_nil] at hcut
        simp at hpz
        simp [fst1, wishB, h6, h7, h8, e1, hat, f1, l0, v0, hr, wipeE, e2, hpz, e3, hcut, hrep, hal, z3, encA, encR, hAppend, hL2]
      · rw [List.eq_of_mem_replicate hx]
        exact hi
    · refine ⟨box3, (t.1, pl), some (.val (.str t.1)), some (.own (.lst (pl.map D.int))), ?_, rfl, rfl, b3, ⟨t, ht, rfl, hpc⟩, hpl, by simp; omega⟩
      simp [fst1, wishB, h6, h7, h8, e1, hat, f1, l0, v0, hr, wipeE, e2, hpz, e3, hz, hal, z3, encA, encR, hAppend]
  · rintro d' hd' k ρ ⟨box, rfl, b⟩
    obtain ⟨box', y, e, b', y0, y1⟩ := law_take C (n := n + 1 + k) (many := (many : Int)) (b.mono (by omega)) (by omega) (by omega)
    refine ⟨.int y, _, ?_, ⟨box', rfl, b'⟩, y, rfl, y0, y1⟩
    rw [lcL_one]
    simp [e, wipeE]
theorem law_wishes {s many num n : Nat} {box : D} {tabs : List T3} (o : OkTs s tabs) (ho : tabs ≠ []) (m1 : 1 ≤ many) (m2 : many ≤ 6) (h1 : 1 ≤ num) (h2 : num ≤ 10) (hb : Bx (n + 50) box) :
    ∃ box' as, phi__law_wishes C [.own box, .own (fieldD s tabs), .val (.int many), .val (.int num)] = some (.val (wD false many as), [.own box', .own (fieldD s tabs), .val (.int many), .val (.int num)]) ∧ Bx n box' ∧ as ≠ [] ∧ as.length ≤ 10 ∧ ∀ a ∈ as, OkA tabs many a := by
  have hso := sort_field o.ln
  have hp := names_perm tabs
  have hl := o.ln
  have hnl : (namesT tabs).length = tabs.length := by rw [hp.length_eq, List.length_map]
  have hN : ∀ x ∈ namesT tabs, x ∈ tabs.map (·.1) := fun x hx => hp.mem_iff.mp hx
  have h5 : ∀ x ∈ namesT tabs, x ∈ five := fun x hx => by
    obtain ⟨t, ht, rfl⟩ := List.mem_map.mp (hN x hx)
    exact (o.t t ht).nm
  have h0 : namesT tabs ≠ [] := by
    intro e
    rw [e] at hnl
    exact ho (List.length_eq_zero_iff.mp hnl.symm)
  have hne := neN h5
  generalize namesT tabs = N at hso hN h0 hne hnl
  have hr : smI (num : Int) = true := smI_nn (by omega) (by omega)
  have inv := forL_inv (g := dName 6) (b := wishB C)
    (fun i ρ => i ≤ num ∧ ∃ box as x6 x7 x8, ρ = [some (.par 0 box), some (.par 1 (fieldD s tabs)), some (.val (.int many)), some (.val (.int num)), some (.own (.lst (N.map D.str))), some (.own (.lst (as.map encA))), x6, x7, x8, none] ∧ okS (some x6) = true ∧ okS (some x7) = true ∧ okS (some x8) = true ∧ Bx (n + (num - i) * 5) box ∧ as.length = i ∧ ∀ a ∈ as, OkA tabs many a)
    (ds := rgD 0 num) (n := 0) (ρ := [some (.par 0 box), some (.par 1 (fieldD s tabs)), some (.val (.int many)), some (.val (.int num)), some (.own (.lst (N.map D.str))), some (.own (.lst [])), none, none, none, none]) ?_ ⟨by omega, box, [], none, none, none, rfl, rfl, rfl, rfl, hb.mono (by omega), rfl, by simp⟩
  · obtain ⟨ρ', e, _, box', as, x6, x7, x8, rfl, _, _, _, b', hal, hA⟩ := inv
    have hle : 0 + (rgD 0 (num : Int)).length = num := by rw [rg0]; simp
    rw [hle] at b' hal
    have f1 : hIx (fieldD s tabs) (.int 1) = some (.val (.dct false (encFs tabs))) := by simp [fieldD]
    have z2 : 2 ≤ sizeLine := by rw [sizeLine_eq]; omega
    refine ⟨box', as, ?_, by simpa using b', ?_, by omega, hA⟩
    · simp only [wishB] at e
      simp only [phi__law_wishes, g__law_wishes]
      simp [f1, hso, hne, h0, hr, e, z2, wD, seqB]
    · rintro rfl
      simp at hal
      omega
  · rintro i d ρ hd ⟨hi, box, as, x6, x7, x8, rfl, h6, h7, h8, b, hal, hA⟩
    rw [Nat.zero_add] at hi b hal ⊢
    have hil : i < num := by
      have := (List.getElem?_eq_some_iff.mp hd).1
      rw [rg0] at this
      simpa using this
    obtain ⟨box', a, x7', x8', e, h7', h8', b', ha⟩ := wish_step C (n := n + (num - (i + 1)) * 5) (d := d) (nv := .int num) (as := as) o m1 m2 hN h0 (by omega) (by omega) (b.mono (by omega)) h6 h7 h8
    refine ⟨_, e, by omega, box', as ++ [a], some (.val d), x7', x8', rfl, rfl, h7', h8', b', by simp [hal], fun u hu => ?_⟩
    rcases List.mem_append.mp hu with hu | hu
    · exact hA u hu
    · have : u = a := by simpa using hu
      exact this ▸ ha
end
end K81
end
section
set_option maxHeartbeats 1000000
namespace K81
open PySem PySem.Spec PyProof.Rows L2 Q
section
theorem lcL_two {α : Type} {g : Cell → Q.Env → Option Q.Env} {tt : Q.Env → Option (Bool × Q.Env)} {te : Q.Env → Option (Cell × Q.Env)} {vs : List Nat} (enc : α → D) (f : α → List D) {ρ0 ρ1 : Q.Env} {l : List α} (h0 : ∀ a ∈ l, lcL g tt te vs [enc a] ρ0 = some (f a, ρ1)) (h1 : ∀ a ∈ l, lcL g tt te vs [enc a] ρ1 = some (f a, ρ1)) :
    ∃ ρ', (ρ' = ρ0 ∨ ρ' = ρ1) ∧ lcL g tt te vs (l.map enc) ρ0 = some (l.flatMap f, ρ') := by
  cases l with
  | nil => exact ⟨ρ0, .inl rfl, rfl⟩
  | cons a l =>
    refine ⟨ρ1, .inr rfl, ?_⟩
    rw [List.map_cons, lcL_cons, h0 a List.mem_cons_self]
    simp only [Option.bind_some]
    rw [lcL_map enc f fun b hb => h1 b (List.mem_cons_of_mem _ hb)]
    rfl
variable (C : Addr)
theorem canHave_rng {left : List (List Int)} {pl row : List Int} (h : row.length = pl.length) :
    canHave left pl row = decide (((List.range row.length).filter fun i => !decide (row.getD i 0 ∈ lt left (pl.getD i 0))) = []) := by
  rw [Bool.eq_iff_iff]
  simp only [canHave, List.all_eq_true, decide_eq_true_eq, List.filter_eq_nil_iff, List.mem_range, Bool.not_eq_true', decide_eq_false_iff_not, Classical.not_not]
  constructor
  · intro hh i hi
    have h2 := hh (pl.getD i 0, row.getD i 0) (by
      rw [List.mem_iff_getElem]
      refine ⟨i, by rw [List.length_zip]; omega, ?_⟩
      rw [List.getElem_zip]
      simp [hi, h ▸ hi])
    exact h2
  · intro hh p hp
    obtain ⟨i, hi, rfl⟩ := List.mem_iff_getElem.mp hp
    rw [List.length_zip] at hi
    have := hh i (by omega)
    rw [List.getElem_zip]
    simpa [show i < row.length by omega, show i < pl.length by omega] using this
noncomputable def ixE : Q.Env → Option (Bool × Q.Env) := dTst (dOp hNotIn (oFz (dOp hIx (oVar 10) (oVar 9))) (oFz (dOp hIx (oVar 2) (oFz (dOp hIx (oVar 7) (oVar 9))))))
noncomputable def rowE : Q.Env → Option (Bool × Q.Env) := dTst (dOp hEq (oFz (dLc (iRange1 (aCons (oFz (dCall hLen (aCons (oVar 10) (aNil)))) (aNil))) (dName 9) ixE (dMove 9) [9])) (oFz (dLst (aNil))))
theorem ixP {pl : List Int} {c : Nat} (h : c < pl.length) : hIx (.tup (pl.map D.int)) (.int (c : Int)) = some (.val (.int (pl.getD c 0))) := ixR h
theorem eqL0 (l : List Int) : hEq (encL l) (.lst []) = some (.val (.bl (decide (l = [])))) := ecL.eq (by omega) l []
theorem lenR (l : List Int) : hLen [encR l] = some (.val (.int l.length)) := by simp [encR]
theorem row_one {s many : Nat} {left : List (List Int)} {pl row : List Int} {f w o i x5 x6 c8 c9 : Option Cell} (hl : OkL s many left) (hp : ∀ x ∈ pl, 0 ≤ x ∧ x < many) (hr : row.length = pl.length) (hn : pl.length ≤ 3) (h9 : okS (some c9) = true) :
    lcL (dName 10) rowE (dMove 10) [10] [encR row] [f, w, some (.par 2 (lvD left)), o, i, x5, x6, some (.val (encR pl)), c8, c9, none, none] =
      some (if canHave left pl row = true then [encR row] else [], [f, w, some (.par 2 (lvD left)), o, i, x5, x6, some (.val (encR pl)), c8, none, none, none]) := by
  have lc := lcL_map (g := dName 9) (tt := ixE) (te := dMove 9) (vs := [9]) (fun k : Nat => D.int (k : Nat)) (fun k => if (!decide (row.getD k 0 ∈ lt left (pl.getD k 0))) = true then [D.int (k : Nat)] else [])
    (ρ := [f, w, some (.par 2 (lvD left)), o, i, x5, x6, some (.val (encR pl)), c8, none, some (.val (encR row)), none]) (l := List.range row.length) ?_
  · rw [flat_if] at lc
    have hs : smI (row.length : Int) = true := smI_nn (by omega) (by omega)
    have e := eqL0 (((List.range row.length).filter fun i => !decide (row.getD i 0 ∈ lt left (pl.getD i 0))).map fun i : Nat => (i : Int))
    simp only [encL, List.map_map] at e
    have hd : decide (((List.range row.length).filter fun i => !decide (row.getD i 0 ∈ lt left (pl.getD i 0))).map (fun i : Nat => (i : Int)) = []) = canHave left pl row := by
      rw [canHave_rng hr]
      simp
    rw [hd] at e
    have e' : hEq (.lst (((List.range row.length).filter fun i => !decide (row.getD i 0 ∈ lt left (pl.getD i 0))).map fun i : Nat => D.int (i : Nat))) (.lst []) = some (.val (.bl (canHave left pl row))) := e
    have hlen : (((List.range row.length).filter fun i => !decide (row.getD i 0 ∈ lt left (pl.getD i 0))).map fun i : Nat => D.int (i : Nat)).length ≤ sizeLine := by
      rw [List.length_map, sizeLine_eq]
      have := List.length_filter_le (fun i => !decide (row.getD i 0 ∈ lt left (pl.getD i 0))) (List.range row.length)
      rw [List.length_range] at this
      omega
    generalize (((List.range row.length).filter fun i => !decide (row.getD i 0 ∈ lt left (pl.getD i 0))).map fun i : Nat => D.int (i : Nat)) = L at lc e' hlen
    rw [lcL_one]
    cases hc : canHave left pl row with
    | true => rw [hc] at e'; simp [rowE, lenR, hs, rg0, wipeE, lc, hlen, e']
    | false => rw [hc] at e'; simp [rowE, lenR, hs, rg0, wipeE, lc, hlen, e']
  · intro k hk
    have hk : k < row.length := by simpa using hk
    have h1 := hp (pl.getD k 0) (by rw [List.getD_eq_getElem?_getD, List.getElem?_eq_getElem (by omega)]; simp)
    have h2 := ixL (left := left) h1.1 (by rw [hl.ln]; exact h1.2)
    have h3 := ixR hk
    have h4 := ixR (r := pl) (c := k) (by omega)
    rw [lcL_one]
    by_cases hm : row.getD k 0 ∈ lt left (pl.getD k 0) <;> simp [ixE, h2, h3, h4, ninLeft, hm, wipeE, -List.getD_eq_getElem?_getD]
theorem row_lc {s many : Nat} {left : List (List Int)} {pl : List Int} {rows : List (List Int)} {f w o i x5 x6 c8 c9 : Option Cell} (hl : OkL s many left) (hp : ∀ x ∈ pl, 0 ≤ x ∧ x < many) (hr : ∀ row ∈ rows, row.length = pl.length) (hn : pl.length ≤ 3) (h9 : okS (some c9) = true) :
    ∃ c9', okS (some c9') = true ∧ lcL (dName 10) rowE (dMove 10) [10] (rows.map encR) [f, w, some (.par 2 (lvD left)), o, i, x5, x6, some (.val (encR pl)), c8, c9, none, none] =
      some ((had left pl rows).map encR, [f, w, some (.par 2 (lvD left)), o, i, x5, x6, some (.val (encR pl)), c8, c9', none, none]) := by
  obtain ⟨ρ', h, e⟩ := lcL_two encR (fun row => if canHave left pl row = true then [encR row] else []) (fun row hrow => row_one hl hp (hr row hrow) hn h9) (fun row hrow => row_one (c9 := none) hl hp (hr row hrow) hn rfl) (l := rows)
  rw [flat_if] at e
  rcases h with rfl | rfl
  · exact ⟨c9, h9, e⟩
  · exact ⟨none, rfl, e⟩
noncomputable def outT : Q.Env → Option (Bool × Q.Env) := dTst (dOp hEq (oFz (dLc (iSeq (oFz (dVar 8))) (dName 10) (dTst (dOp hEq (oFz (dOp hIx (oVar 10) (oVar 9))) (oVar 11))) (dMove 10) [10])) (oFz (dLst (aNil))))
def outE : Q.Env → Option (Cell × Q.Env) := dTup (aCons (oFz (dOp hIx (oVar 7) (oVar 9))) (aCons (oFz (dVar 11)) (aCons (oFz (dVar 4)) (aNil))))
theorem eqR0 (l : List (List Int)) : hEq (.lst (l.map encR)) (.lst []) = some (.val (.bl (decide (l = [])))) := ecR.list.eq (by omega) l []
theorem kept_flt (rows : List (List Int)) (c : Nat) (t : Int) : decide ((rows.filter fun r => decide (r.getD c 0 = t)) = []) = !decide (t ∈ kept rows c) := by
  rw [Bool.eq_iff_iff]
  simp only [decide_eq_true_eq, List.filter_eq_nil_iff, Bool.not_eq_true', decide_eq_false_iff_not, kept, List.mem_map, not_exists, not_and]
theorem out_one {pl : List Int} {rows : List (List Int)} {c num : Nat} {t : Int} {f w l3 o x5 x6 c8 : Option Cell} (hc : c < pl.length) (hr : ∀ row ∈ rows, row.length = pl.length) (hrn : rows.length ≤ 64) (h8 : c8 = some (.own (.lst (rows.map encR))) ∨ c8 = some (.val (.lst (rows.map encR)))) :
    lcL (dName 11) outT outE [11] [.int t] [f, w, l3, o, some (.val (.int num)), x5, x6, some (.val (encR pl)), c8, some (.val (.int c)), none, none] =
      some (if (!decide (t ∈ kept rows c)) = true then [encR [pl.getD c 0, t, num]] else [], [f, w, l3, o, some (.val (.int num)), x5, x6, some (.val (encR pl)), some (.val (.lst (rows.map encR))), some (.val (.int c)), none, none]) := by
  have lc := lcL_map (g := dName 10) (tt := dTst (dOp hEq (oFz (dOp hIx (oVar 10) (oVar 9))) (oVar 11))) (te := dMove 10) (vs := [10]) encR (fun r => if decide (r.getD c 0 = t) = true then [encR r] else [])
    (ρ := [f, w, l3, o, some (.val (.int num)), x5, x6, some (.val (encR pl)), some (.val (.lst (rows.map encR))), some (.val (.int c)), none, some (.val (.int t))]) (l := rows) ?_
  · rw [flat_if] at lc
    have e := eqR0 (rows.filter fun r => decide (r.getD c 0 = t))
    rw [kept_flt] at e
    have hlen : ((rows.filter fun r => decide (r.getD c 0 = t)).map encR).length ≤ sizeLine := by
      rw [List.length_map, sizeLine_eq]
      have := List.length_filter_le (fun r => decide (r.getD c 0 = t)) rows
      omega
    generalize ((rows.filter fun r => decide (r.getD c 0 = t)).map encR) = L at lc e hlen
    have hx := ixR hc
    have z3 : 3 ≤ sizeLine := by rw [sizeLine_eq]; omega
    rw [lcL_one]
    cases hk : decide (t ∈ kept rows c) with
    | true => rw [hk] at e; rcases h8 with rfl | rfl <;> simp [outT, outE, wipeE, lc, hlen, e]
    | false => rw [hk] at e; rcases h8 with rfl | rfl <;> simp [outT, outE, wipeE, lc, hlen, e, hx, z3, -List.getD_eq_getElem?_getD] <;> simp [encR]
  · intro r hrr
    have hx := ixR (r := r) (c := c) (by rw [hr r hrr]; exact hc)
    rw [lcL_one]
    by_cases he : r.getD c 0 = t <;> simp [hx, eqI, he, wipeE, -List.getD_eq_getElem?_getD]
theorem out_lc {pl l : List Int} {rows : List (List Int)} {c num : Nat} {f w l3 o x5 x6 c8 : Option Cell} (hc : c < pl.length) (hr : ∀ row ∈ rows, row.length = pl.length) (hrn : rows.length ≤ 64) (h8 : c8 = some (.own (.lst (rows.map encR))) ∨ c8 = some (.val (.lst (rows.map encR)))) :
    ∃ c8', (c8' = some (.own (.lst (rows.map encR))) ∨ c8' = some (.val (.lst (rows.map encR)))) ∧ lcL (dName 11) outT outE [11] (l.map D.int) [f, w, l3, o, some (.val (.int num)), x5, x6, some (.val (encR pl)), c8, some (.val (.int c)), none, none] =
      some (((l.filter fun t => !decide (t ∈ kept rows c)).map fun t => encR [pl.getD c 0, t, num]), [f, w, l3, o, some (.val (.int num)), x5, x6, some (.val (encR pl)), c8', some (.val (.int c)), none, none]) := by
  obtain ⟨ρ', h, e⟩ := lcL_two D.int (fun t => if (!decide (t ∈ kept rows c)) = true then [encR [pl.getD c 0, t, num]] else []) (fun t _ => out_one (f := f) (w := w) (l3 := l3) (o := o) (x5 := x5) (x6 := x6) hc hr hrn h8) (fun t _ => out_one hc hr hrn (.inr rfl)) (l := l)
  rw [flat_if] at e
  rcases h with rfl | rfl
  · exact ⟨c8, h8, e⟩
  · exact ⟨_, .inr rfl, e⟩
end
end K81
end
section
set_option maxHeartbeats 1000000
namespace K81
open PySem PySem.Spec PyProof.Rows L2 Q
section
theorem nd_eq {ts : List T3} {t u : T3} (nd : (ts.map (·.1)).Nodup) (ht : t ∈ ts) (hu : u ∈ ts) (e : t.1 = u.1) : t = u := by
  have h1 := find_t nd ht
  have h2 := find_t nd hu
  rw [e] at h1
  rw [h1] at h2
  exact Option.some.inj h2
theorem Like.find {s : Nat} {tabs ts : List T3} (h : Like tabs ts) (o : OkTs s tabs) {t : T3} (ht : t ∈ tabs) : ∃ u ∈ ts, u.1 = t.1 ∧ t.2.1 = u.2.1 ∧ u.2.2.Perm t.2.2 := by
  obtain ⟨u, hu, e⟩ := List.mem_map.mp (h.nm.mem_iff.mpr (List.mem_map.mpr ⟨t, ht, rfl⟩))
  obtain ⟨t', ht', e1, e2, e3⟩ := h.rw u hu
  have := nd_eq o.nd ht' ht (e1.trans e)
  subst this
  exact ⟨u, hu, e, e2, e3⟩
theorem Like.okA {s many : Nat} {tabs ts : List T3} (h : Like tabs ts) (o : OkTs s tabs) {a : At} (ha : OkA tabs many a) : OkA ts many a := by
  obtain ⟨t, ht, e1, e2⟩ := ha.ex
  obtain ⟨u, hu, f1, f2, _⟩ := h.find o ht
  exact ⟨⟨u, hu, f1.trans e1, e2.trans f2⟩, ha.pl, ha.ln⟩
theorem Like.rows {s : Nat} {tabs ts : List T3} (h : Like tabs ts) (o : OkTs s tabs) {a : At} {t : T3} (ht : t ∈ tabs) (e : t.1 = a.1) (r : List Int) : r ∈ rowsA s ts a ↔ r ∈ t.2.2 := by
  obtain ⟨u, hu, f1, f2, f3⟩ := h.find o ht
  have o2 := h.ok o
  have hr : rowsA s ts a = tRows s u := by
    unfold rowsA
    rw [← e, ← f1, find_t o2.nd hu]
  rw [hr]
  unfold tRows
  rw [List.mem_filter]
  simp only [decide_eq_true_eq]
  exact ⟨fun h => f3.mem_iff.mp h.2, fun h => ⟨(o2.t u hu).rw r (f3.mem_iff.mpr h), f3.mem_iff.mpr h⟩⟩
theorem outs_congr {left r1 r2 : List (List Int)} (h : ∀ r, r ∈ r1 ↔ r ∈ r2) (pl : List Int) (c : Nat) (x : Int) : outsP left (had left pl r1) c x = outsP left (had left pl r2) c x := by
  have e : ∀ t, t ∈ kept (had left pl r1) c ↔ t ∈ kept (had left pl r2) c := by
    intro t
    simp only [kept, had, List.mem_map, List.mem_filter, h]
  unfold outsP
  exact List.filter_congr fun t _ => by rw [decide_eq_decide.mpr (e t)]
theorem zip_rng (pl : List Int) : pl.zipIdx = (List.range pl.length).map fun c => (pl.getD c 0, c) := by
  refine List.ext_getElem (by simp) fun i h1 h2 => ?_
  have hi : i < pl.length := by simpa using h1
  simp [hi]
variable (C : Addr)
noncomputable def wayB : Q.Env → Option Out := sDrop (dMth hExtend 3 (aCons (oFz (dLc (iSeq (oFz (dOp hIx (oVar 2) (oFz (dOp hIx (oVar 7) (oVar 9)))))) (dName 11) outT outE [11])) (aNil)))
theorem wayB_for {s many num : Nat} {left rows : List (List Int)} {pl : List Int} {f w x5 x6 c8 c9 : Option Cell} {out : List (List Int)} (hl : OkL s many left) (hp : ∀ x ∈ pl, 0 ≤ x ∧ x < many) (hn : pl.length ≤ 3) (hr : ∀ row ∈ rows, row.length = pl.length) (hrn : rows.length ≤ 64) (h8 : c8 = some (.own (.lst (rows.map encR))) ∨ c8 = some (.val (.lst (rows.map encR)))) (h9 : okS (some c9) = true) (ho : out.length ≤ 1000) :
    ∃ c8' c9', okS (some c8') = true ∧ okS (some c9') = true ∧ forL (dName 9) wayB (rgD 0 pl.length) [f, w, some (.par 2 (lvD left)), some (.own (.lst (out.map encR))), some (.val (.int num)), x5, x6, some (.val (encR pl)), c8, c9, none, none] =
      some (.nx [f, w, some (.par 2 (lvD left)), some (.own (.lst ((out ++ pl.zipIdx.flatMap fun q => (outsP left rows q.2 q.1).map fun t => [q.1, t, (num : Int)]).map encR))), some (.val (.int num)), x5, x6, some (.val (encR pl)), c8', c9', none, none]) := by
  have inv := forL_inv (g := dName 9) (b := wayB)
    (fun j ρ => j ≤ pl.length ∧ ∃ c8 c9 out2, ρ = [f, w, some (.par 2 (lvD left)), some (.own (.lst (out2.map encR))), some (.val (.int num)), x5, x6, some (.val (encR pl)), c8, c9, none, none] ∧ (c8 = some (.own (.lst (rows.map encR))) ∨ c8 = some (.val (.lst (rows.map encR)))) ∧ okS (some c9) = true ∧ out2.length ≤ 1000 + 4 * j ∧
      out2 = out ++ (List.range j).flatMap fun c => (outsP left rows c (pl.getD c 0)).map fun t => [pl.getD c 0, t, (num : Int)])
    (ds := rgD 0 pl.length) (n := 0) (ρ := [f, w, some (.par 2 (lvD left)), some (.own (.lst (out.map encR))), some (.val (.int num)), x5, x6, some (.val (encR pl)), c8, c9, none, none]) ?_ ⟨by omega, c8, c9, out, rfl, h8, h9, by omega, by simp⟩
  · obtain ⟨ρ', e, _, c8', c9', out2, rfl, h8', h9', _, ho2⟩ := inv
    have hle : 0 + (rgD 0 (pl.length : Int)).length = pl.length := by rw [rg0]; simp
    rw [hle] at ho2
    refine ⟨c8', c9', by rcases h8' with rfl | rfl <;> rfl, h9', ?_⟩
    rw [e, zip_rng, List.flatMap_map, ho2]
  · rintro j d ρ hd ⟨hj, c8, c9, out2, rfl, h8, h9, hol, ho2⟩
    rw [Nat.zero_add] at hj hol ho2 ⊢
    rw [rg0, List.getElem?_map] at hd
    obtain ⟨k, hk, rfl⟩ := Option.map_eq_some_iff.mp hd
    have hkj : j < pl.length ∧ k = j := by
      obtain ⟨h1, h2⟩ := List.getElem?_eq_some_iff.mp hk
      simp at h1 h2
      omega
    obtain ⟨hjl, rfl⟩ := hkj
    have h1 := hp (pl.getD k 0) (by rw [List.getD_eq_getElem?_getD, List.getElem?_eq_getElem hjl]; simp)
    have h2 := ixL (left := left) h1.1 (by rw [hl.ln]; exact h1.2)
    have h3 := ixR hjl
    obtain ⟨c8', h8', e⟩ := out_lc (l := lt left (pl.getD k 0)) (num := num) (f := f) (w := w) (l3 := some (.par 2 (lvD left))) (o := some (.own (.lst (out2.map encR)))) (x5 := x5) (x6 := x6) hjl hr hrn h8
    have hlt : ((lt left (pl.getD k 0)).filter fun t => !decide (t ∈ kept rows k)).length ≤ 4 := by
      have h4 := List.length_filter_le (fun t => !decide (t ∈ kept rows k)) (lt left (pl.getD k 0))
      have h5 : (lt left (pl.getD k 0)).length ≤ 4 := by
        by_cases h6 : lt left (pl.getD k 0) = []
        · rw [h6]; simp
        · obtain ⟨t, ht⟩ := List.exists_mem_of_ne_nil _ h6
          obtain ⟨hx, e⟩ := lt_mem ht
          rw [e]
          exact hl.sz _ (List.getElem_mem hx)
      omega
    have hmap : (((lt left (pl.getD k 0)).filter fun t => !decide (t ∈ kept rows k)).map fun t => encR [pl.getD k 0, t, (num : Int)]) = (((outsP left rows k (pl.getD k 0)).map fun t => [pl.getD k 0, t, (num : Int)])).map encR := by
      rw [List.map_map]
      rfl
    rw [hmap] at e
    have hlen : (((outsP left rows k (pl.getD k 0)).map fun t => [pl.getD k 0, t, (num : Int)])).length ≤ 4 := by rw [List.length_map]; exact hlt
    generalize hW : ((outsP left rows k (pl.getD k 0)).map fun t => [pl.getD k 0, t, (num : Int)]) = W at e hlen
    have hz : W.length ≤ sizeLine := by rw [sizeLine_eq]; omega
    have hz2 : out2.length + W.length ≤ sizeLine := by rw [sizeLine_eq]; omega
    refine ⟨[f, w, some (.par 2 (lvD left)), some (.own (.lst ((out2 ++ W).map encR))), some (.val (.int num)), x5, x6, some (.val (encR pl)), c8', some (.val (.int k)), none, none], ?_, by omega, c8', _, out2 ++ W, rfl, h8', rfl, by rw [List.length_append]; omega, ?_⟩
    · simp only [encL, List.map_append] at h2 ⊢
      simp [fst1, wayB, h9, h2, h3, wipeE, e, hz, hz2, hExtend, -List.getD_eq_getElem?_getD]
    · rw [ho2, List.range_succ, List.flatMap_append, List.append_assoc]
      simp [hW, -List.getD_eq_getElem?_getD]
def rowsF (tabs : List T3) (a : At) : List (List Int) := match tabs.find? fun t => decide (t.1 = a.1) with
  | some t => t.2.2
  | none => []
noncomputable def wayO : Q.Env → Option Out := (sSeq (sSet 8 (dLc (iSeq (oFz (dOp hIx (oFz (dOp hIx (oFz (dOp hIx (oVar 0) (oFz (dC (.int 1))))) (oVar 6))) (oFz (dC (.int 1)))))) (dName 10) rowE (dMove 10) [10])) (sFor (iRange1 (aCons (oFz (dCall hLen (aCons (oVar 7) (aNil)))) (aNil))) (dName 9) wayB))
theorem ways_step {s many num : Nat} {left : List (List Int)} {tabs ts : List T3} {a : At} {w x4 x5 x6 x7 c8 c9 : Option Cell} {out : List (List Int)} (o : OkTs s tabs) (lk : Like tabs ts) (hA : OkA tabs many a) (hl : OkL s many left) (h4 : okS (some x4) = true) (h5 : okS (some x5) = true) (h6 : okS (some x6) = true) (h7 : okS (some x7) = true) (h8 : okS (some c8) = true) (h9 : okS (some c9) = true) (ho : out.length ≤ 1000) :
    ∃ x4' x5' x6' x7' c8' c9', okS (some x4') = true ∧ okS (some x5') = true ∧ okS (some x6') = true ∧ okS (some x7') = true ∧ okS (some c8') = true ∧ okS (some c9') = true ∧ fst1 (dGtup 2 (dGcons (dName 4) (dGcons (dGtup 3 (dGcons (dName 5) (dGcons (dName 6) (dGcons (dName 7) (dGnil))))) (dGnil)))) wayO (.tup [.int num, encA a]) [some (.par 0 (fieldD s tabs)), w, some (.par 2 (lvD left)), some (.own (.lst (out.map encR))), x4, x5, x6, x7, c8, c9, none, none] =
      some (.nx [some (.par 0 (fieldD s tabs)), w, some (.par 2 (lvD left)), some (.own (.lst ((out ++ waysA s ts left (a, num)).map encR))), x4', x5', x6', x7', c8', c9', none, none]) := by
  obtain ⟨t, ht, e1, e2⟩ := hA.ex
  have hO := o.t t ht
  have hr : ∀ row ∈ t.2.2, row.length = a.2.length := fun row hrow => by rw [e2]; exact (allRows_mem.mp (hO.rw row hrow)).1
  have f1 : hIx (fieldD s tabs) (.int 1) = some (.val (.dct false (encFs tabs))) := by simp [fieldD]
  have l0 : lookP key1 (encFs tabs) (.inr a.1) = some (vF t) := e1 ▸ lookP_map (fun t : T3 => t.1) vF o.nd ht
  have v1 : hIx (vF t) (.int 1) = some (.val (.lst (t.2.2.map encR))) := by simp [vF]
  obtain ⟨c9', h9', lc⟩ := row_lc (rows := t.2.2) (f := some (.par 0 (fieldD s tabs))) (w := w) (o := some (.own (.lst (out.map encR)))) (i := some (.val (.int num))) (x5 := some (.val (.str "in"))) (x6 := some (.val (.str a.1))) (c8 := c8) hl hA.pl hr hA.ln h9
  have hhl : (had left a.2 t.2.2).length ≤ 64 := Nat.le_trans (List.length_filter_le _ _) hO.ln
  have hz : (had left a.2 t.2.2).length ≤ sizeLine := by rw [sizeLine_eq]; omega
  obtain ⟨c8'', c9'', h8'', h9'', e⟩ := wayB_for (num := num) (rows := had left a.2 t.2.2) (f := some (.par 0 (fieldD s tabs))) (w := w) (x5 := some (.val (.str "in"))) (x6 := some (.val (.str a.1))) (out := out) hl hA.pl hA.ln (fun row hrow => hr row (List.mem_filter.mp hrow).1) hhl (.inl rfl) h9' ho
  have hw : (a.2.zipIdx.flatMap fun q => (outsP left (had left a.2 t.2.2) q.2 q.1).map fun t => [q.1, t, (num : Int)]) = waysA s ts left (a, num) := by
    unfold waysA
    congr 1
    funext q
    rw [outs_congr (r1 := rowsA s ts a) (r2 := t.2.2) (fun r => lk.rows o ht e1 r)]
  rw [hw] at e
  have hs : smI (a.2.length : Int) = true := smI_nn (by omega) (by have := hA.ln; omega)
  have hln : hLen [encR a.2] = some (.val (.int a.2.length)) := by simp [encR]
  refine ⟨some (.val (.int num)), some (.val (.str "in")), some (.val (.str a.1)), some (.val (encR a.2)), c8'', c9'', rfl, rfl, rfl, rfl, h8'', h9'', ?_⟩
  simp only [List.map_append] at e ⊢
  simp [fst1, encA, wayO, h4, h5, h6, h7, h8, f1, l0, v1, wipeE, lc, hz, hln, hs, e]
theorem law_ways {s many : Nat} {left : List (List Int)} {tabs ts : List T3} {as : List At} (b : Bool) (o : OkTs s tabs) (lk : Like tabs ts) (hA : ∀ a ∈ as, OkA tabs many a) (hn : as.length ≤ 10) (hl : OkL s many left) :
    phi__law_ways C [.own (fieldD s tabs), .val (wD b many as), .own (lvD left)] = some (.own (.lst ((ways s ts left as).map encR)), [.own (fieldD s tabs), .val (wD b many as), .own (lvD left)]) := by
  have hlw : ∀ p : At × Nat, p.1 ∈ as → (waysA s ts left p).length ≤ 12 := by
    intro p hp
    have h1 : ∀ q ∈ p.1.2.zipIdx, ((outsP left (had left p.1.2 (rowsA s ts p.1)) q.2 q.1).map fun t => [q.1, t, (p.2 : Int)]).length ≤ 4 := by
      intro q hq
      rw [List.length_map]
      have h4 := List.length_filter_le (fun t => !decide (t ∈ kept (had left p.1.2 (rowsA s ts p.1)) q.2)) (lt left q.1)
      have h5 : (lt left q.1).length ≤ 4 := by
        by_cases h6 : lt left q.1 = []
        · rw [h6]; simp
        · obtain ⟨t, ht⟩ := List.exists_mem_of_ne_nil _ h6
          obtain ⟨hx, e⟩ := lt_mem ht
          rw [e]
          exact hl.sz _ (List.getElem_mem hx)
      exact Nat.le_trans h4 h5
    have h2 : ∀ l : List (Int × Nat), (∀ q ∈ l, q ∈ p.1.2.zipIdx) → (l.flatMap fun q => (outsP left (had left p.1.2 (rowsA s ts p.1)) q.2 q.1).map fun t => [q.1, t, (p.2 : Int)]).length ≤ 4 * l.length := by
      intro l
      induction l with
      | nil => intro _; simp
      | cons q l ih =>
        intro hq
        rw [List.flatMap_cons, List.length_append, List.length_cons]
        have := h1 q (hq q List.mem_cons_self)
        have := ih fun q' hq' => hq q' (List.mem_cons_of_mem _ hq')
        omega
    have h3 := h2 p.1.2.zipIdx fun q hq => hq
    have h4 := (hA p.1 hp).ln
    rw [List.length_zipIdx] at h3
    unfold waysA
    omega
  have inv := forL_inv (g := dGtup 2 (dGcons (dName 4) (dGcons (dGtup 3 (dGcons (dName 5) (dGcons (dName 6) (dGcons (dName 7) (dGnil))))) (dGnil)))) (b := wayO)
    (fun i ρ => i ≤ as.length ∧ ∃ x4 x5 x6 x7 c8 c9 out, ρ = [some (.par 0 (fieldD s tabs)), some (.val (wD b many as)), some (.par 2 (lvD left)), some (.own (.lst (out.map encR))), x4, x5, x6, x7, c8, c9, none, none] ∧ okS (some x4) = true ∧ okS (some x5) = true ∧ okS (some x6) = true ∧ okS (some x7) = true ∧ okS (some c8) = true ∧ okS (some c9) = true ∧ out.length ≤ 12 * i ∧ out = (as.zipIdx.take i).flatMap (waysA s ts left))
    (ds := enumD (as.map encA)) (n := 0) (ρ := [some (.par 0 (fieldD s tabs)), some (.val (wD b many as)), some (.par 2 (lvD left)), some (.own (.lst [])), none, none, none, none, none, none, none, none]) ?_ ⟨by omega, none, none, none, none, none, none, [], rfl, rfl, rfl, rfl, rfl, rfl, rfl, by simp, by simp⟩
  · obtain ⟨ρ', e, _, x4, x5, x6, x7, c8, c9, out, rfl, _, _, _, _, _, _, _, ho⟩ := inv
    have hle : 0 + (enumD (as.map encA)).length = as.length := by rw [enum_map]; simp
    rw [hle, List.take_of_length_le (by simp)] at ho
    have ho : out = ways s ts left as := ho
    subst ho
    have w1 : hIx (wD b many as) (.int 1) = some (.val (seqB b (as.map encA))) := by simp [wD]
    have sq : seqD (seqB b (as.map encA)) = some (as.map encA) := by cases b <;> rfl
    simp only [wayO, wayB, rowE, ixE, outT, outE] at e
    simp only [phi__law_ways, g__law_ways]
    simp [w1, sq, e]
  · rintro i d ρ hd ⟨hi, x4, x5, x6, x7, c8, c9, out, rfl, h4, h5, h6, h7, h8, h9, hol, ho⟩
    rw [Nat.zero_add] at hi hol ho ⊢
    rw [enum_map, List.getElem?_map] at hd
    obtain ⟨p, hp, rfl⟩ := Option.map_eq_some_iff.mp hd
    obtain ⟨hil, hp'⟩ := List.getElem?_eq_some_iff.mp hp
    have hil' : i < as.length := by simpa using hil
    rw [List.getElem_zipIdx] at hp'
    have hpa : p.1 ∈ as := by rw [← hp']; exact List.getElem_mem hil'
    obtain ⟨x4', x5', x6', x7', c8', c9', h4', h5', h6', h7', h8', h9', e⟩ := ways_step (num := p.2) (w := some (.val (wD b many as))) (out := out) o lk (hA p.1 hpa) hl h4 h5 h6 h7 h8 h9 (by omega)
    refine ⟨_, e, by omega, x4', x5', x6', x7', c8', c9', _, rfl, h4', h5', h6', h7', h8', h9', ?_, ?_⟩
    · rw [List.length_append]
      have := hlw (p.1, p.2) hpa
      omega
    · rw [List.take_add_one, hp, List.flatMap_append, ← ho]
      simp
end
end K81
end
section
set_option maxHeartbeats 1000000
namespace K81
open PySem PySem.Spec PyProof.Rows L2 Q
section
theorem lt_len {s many : Nat} {left : List (List Int)} (hl : OkL s many left) (x : Int) : (lt left x).length ≤ 4 := by
  by_cases h6 : lt left x = []
  · rw [h6]; simp
  · obtain ⟨t, ht⟩ := List.exists_mem_of_ne_nil _ h6
    obtain ⟨hx, e⟩ := lt_mem ht
    rw [e]
    exact hl.sz _ (List.getElem_mem hx)
theorem flat_len {α β : Type} (f : α → List β) (k : Nat) : ∀ l : List α, (∀ a ∈ l, (f a).length ≤ k) → (l.flatMap f).length ≤ k * l.length
  | [], _ => by simp
  | a :: l, h => by
    rw [List.flatMap_cons, List.length_append, List.length_cons, Nat.mul_succ]
    have := h a List.mem_cons_self
    have := flat_len f k l fun b hb => h b (List.mem_cons_of_mem _ hb)
    omega
theorem ways_len {s many : Nat} {ts : List T3} {left : List (List Int)} {as : List At} (h : OkW ts many as) (hl : OkL s many left) : (ways s ts left as).length ≤ 12 * as.length := by
  have h1 := flat_len (waysA s ts left) 12 as.zipIdx fun p hp => ?_
  · rw [List.length_zipIdx] at h1
    exact h1
  · have hpa : p.1 ∈ as := by
      obtain ⟨i, hi, e⟩ := List.mem_iff_getElem.mp hp
      rw [List.getElem_zipIdx] at e
      rw [← e]
      exact List.getElem_mem _
    have h2 := flat_len (fun q : Int × Nat => (outsP left (had left p.1.2 (rowsA s ts p.1)) q.2 q.1).map fun t => [q.1, t, (p.2 : Int)]) 4 p.1.2.zipIdx fun q _ => by
      rw [List.length_map]
      exact Nat.le_trans (List.length_filter_le _ _) (lt_len hl q.1)
    rw [List.length_zipIdx] at h2
    have := (h.a p.1 hpa).ln
    unfold waysA
    omega
variable (C : Addr)
noncomputable def allB : Q.Env → Option Out := (sSeq (sSet 6 (dCal 3 (phi__law_ways C) (aCons (oVar 1) (aCons (oVar 2) (aCons (oVar 3) (aNil)))))) (sSeq (sIf (dTst (dOp hEq (oVar 6) (oFz (dLst (aNil))))) (sBreak) (sPass)) (sSeq (sSet 7 (dOp hIx (oVar 6) (oFz (dCal 2 (phi__law_take C) (aCons (oVar 0) (aCons (oFz (dCall hLen (aCons (oVar 6) (aNil)))) (aNil))))))) (sSeq (sDrop (dMth hAppend 4 (aCons (oFz (dVar 7)) (aNil)))) (sAsg (dSetI 3 (oFz (dOp hIx (oVar 7) (oFz (dC (.int 0)))))) (dLc (iSeq (oFz (dOp hIx (oVar 3) (oFz (dOp hIx (oVar 7) (oFz (dC (.int 0)))))))) (dName 9) (dTst (dOp hNe (oVar 9) (oFz (dOp hIx (oVar 7) (oFz (dC (.int 1))))))) (dMove 9) [9]))))))
def G3 (z : List Int) : Prop := ∃ x t i : Int, z = [x, t, i]
theorem all_for {s many : Nat} {tabs ts : List T3} {as : List At} (b : Bool) (o : OkTs s tabs) (lk : Like tabs ts) (hA : ∀ a ∈ as, OkA tabs many a) (hW : OkW ts many as) (hn : as.length ≤ 10) : ∀ (ds : List D) (n : Nat) (box : D) (left found : List (List Int)) (x5 x6 x7 : Option Cell), Bx (n + ds.length) box → OkL s many left → (∀ z ∈ found, G3 z) → found.length + ds.length ≤ 1000 → okS (some x5) = true → okS (some x6) = true → okS (some x7) = true →
    ∃ (box' : D) (left' found' : List (List Int)) (x5' x6' x7' : Option Cell), forL (dName 5) (allB C) ds [some (.par 0 box), some (.par 1 (fieldD s tabs)), some (.val (wD b many as)), some (.own (lvD left)), some (.own (.lst (found.map encR))), x5, x6, x7, none, none] =
      some (.nx [some (.par 0 box'), some (.par 1 (fieldD s tabs)), some (.val (wD b many as)), some (.own (lvD left')), some (.own (.lst (found'.map encR))), x5', x6', x7', none, none]) ∧ Bx n box' ∧ OkL s many left' ∧ (∀ z ∈ found', G3 z) ∧ found'.length ≤ 1000
  | [], n, box, left, found, x5, x6, x7, hb, hl, hf, hk, h5, h6, h7 => ⟨box, left, found, x5, x6, x7, rfl, by simpa using hb, hl, hf, by simpa using hk⟩
  | d :: ds, n, box, left, found, x5, x6, x7, hb, hl, hf, hk, h5, h6, h7 => by
    have hw := law_ways C b o lk hA hn hl
    have hwl := ways_len hW hl
    have hq := eqR0 (ways s ts left as)
    rw [List.length_cons] at hb hk
    by_cases h0 : ways s ts left as = []
    · rw [h0] at hw
      refine ⟨box, left, found, some (.val d), some (.own (.lst [])), x7, ?_, hb.mono (by omega), hl, hf, by omega⟩
      rw [forL_cons]
      have hq0 : hEq (.lst []) (.lst []) = some (.val (.bl true)) := eqR0 []
      simp [fst1, allB, h5, h6, hw, hq0]
    · have hp : 0 < (ways s ts left as).length := List.length_pos_iff.mpr h0
      obtain ⟨box1, y, e1, b1, y0, y1⟩ := law_take C (n := n + ds.length) (many := ((ways s ts left as).length : Int)) (hb.mono (by omega)) (by omega) (by omega)
      have hyl : y.toNat < (ways s ts left as).length := by omega
      have hz : (ways s ts left as)[y.toNat] ∈ ways s ts left as := List.getElem_mem hyl
      have hat : atI ((ways s ts left as).map encR) y = some (encR (ways s ts left as)[y.toNat]) := atI_nn y0 (by simp [hyl])
      generalize (ways s ts left as)[y.toNat] = z at hz hat
      obtain ⟨x, t, i, rfl, x0, x1, ht, i0, i1⟩ := ways_rng hW hz
      have hl' := strk_ok s (z := [x, t, i]) hl
      obtain ⟨box', left', found', x5', x6', x7', e2, b2, hl2, hf2, hk2⟩ := all_for b o lk hA hW hn ds n box1 (strk left [x, t, i]) (found ++ [[x, t, i]]) (some (.val d)) (some (.own (.lst ((ways s ts left as).map encR)))) (some (.val (encR [x, t, i]))) b1 hl' (fun z hz => by
        rcases List.mem_append.mp hz with hz | hz
        · exact hf z hz
        · exact ⟨x, t, i, by simpa using hz⟩) (by simp; omega) rfl rfl rfl
      refine ⟨box', left', found', x5', x6', x7', ?_, b2, hl2, hf2, hk2⟩
      rw [forL_cons]
      have hx : hIx (lvD left) (.int x) = some (.val (.lst ((lt left x).map D.int))) := ixL x0 (by rw [hl.ln]; exact x1)
      have hset : setD (lvD left) (.int x) (encL ((lt left x).filter fun u => !decide (u = t))) = some (lvD (strk left [x, t, i])) := by
        rw [set_lv x0 (by rw [hl.ln]; exact x1)]
        rfl
      have lc := strk_lc (left := left) (x := x) (t := t) (sl := 9) (e := dTst (dOp hNe (oVar 9) (oFz (dOp hIx (oVar 7) (oFz (dC (.int 1)))))))
        (ρ := [some (.par 0 box1), some (.par 1 (fieldD s tabs)), some (.val (wD b many as)), some (.own (lvD left)), some (.own (.lst ((found ++ [[x, t, i]]).map encR))), some (.val d), some (.own (.lst ((ways s ts left as).map encR))), some (.val (encR [x, t, i])), none, none]) fun u => by
          rw [lcL_one]
          by_cases hu : u = t <;> simp [wipeE, ix3_1, neI, hu]
      have hlen : ((lt left x).filter fun u => !decide (u = t)).length ≤ 16777216 := by
        have h3 : ((lt left x).filter fun u => !decide (u = t)).length ≤ (lt left x).length := List.length_filter_le _ _
        have := lt_len hl x
        omega
      have hfl : found.length < 16777216 := by omega
      simp only [encL, List.map_append, List.map_cons, List.map_nil] at hset lc e2
      have hq' : decide (ways s ts left as = []) = false := decide_eq_false h0
      rw [hq'] at hq
      have hlw : hLen [.lst ((ways s ts left as).map encR)] = some (.val (.int (ways s ts left as).length)) := by simp
      generalize (ways s ts left as).length = wl at e1 hlw
      generalize (ways s ts left as).map encR = wm at hw hat lc e2 hq hlw
      simp only [allB] at e2
      simp [fst1, allB, h5, h6, h7, hw, hq, hat, e1, hlw, hAppend, hfl, ix3_0, hx, wipeE, lc, sizeLine_eq, hlen, hset, e2]
theorem law_all_struck {s many n : Nat} {box : D} {tabs ts : List T3} {as : List At} (b : Bool) (hs : s ≤ 4) (o : OkTs s tabs) (lk : Like tabs ts) (hA : ∀ a ∈ as, OkA tabs many a) (hW : OkW ts many as) (hn : as.length ≤ 10) (hb : Bx (n + 50) box) :
    ∃ (box' : D) (left found : List (List Int)), phi__law_all_struck C [.own box, .own (fieldD s tabs), .val (wD b many as)] = some (.val (.tup [.lst (found.map encR), lvD left]), [.own box', .own (fieldD s tabs), .val (wD b many as)]) ∧ Bx n box' ∧ (∀ z ∈ found, G3 z) ∧ found.length ≤ 1000 := by
  have h0 := start_ok (many := many) hs
  have m2 := hW.m2
  have hsm : s * many ≤ 4 * 6 := Nat.mul_le_mul hs m2
  have hr : smR (s : Int) = true := smR_nn (by omega) (by omega)
  have hm : smI (many : Int) = true := smI_nn (by omega) (by omega)
  have hmu : pMul (s : Int) (many : Int) = true := pMul_ok (by omega) (by omega)
  have e0 : (s : Int) * (many : Int) = ((s * many : Nat) : Int) := by simp
  have hmul := vMul hmu
  rw [e0] at hmul
  clear e0 hmu
  generalize s * many = sm at hmul hsm
  have hr1 : smI ((sm : Int) + 1) = true := smI_nn (by omega) (by omega)
  have f0 : hIx (fieldD s tabs) (.int 0) = some (.val (.int s)) := by simp [fieldD]
  have w0 : hIx (wD b many as) (.int 0) = some (.val (.int many)) := by simp [wD]
  have lc := start_lc (s := s) (many := many) (sl := 8) (e := dLr1 (oFz (dOp hIx (oVar 1) (oFz (dC (.int 0)))))) (ρ := [some (.par 0 box), some (.par 1 (fieldD s tabs)), some (.val (wD b many as)), none, none, none, none, none, none, none]) fun k => by
    rw [lcL_one]
    simp [wipeE, f0, hr, rg0, encL, Function.comp_def]
  have hlen : (startL s many).length ≤ 16777216 := by rw [h0.ln]; omega
  have hdl : (rgD 0 ((sm : Int) + 1)).length ≤ 25 := by rw [rg0]; simp; omega
  obtain ⟨box', left', found', x5', x6', x7', e, b', hl', hf', hk'⟩ := all_for C b o lk hA hW hn (rgD 0 ((sm : Int) + 1)) n box (startL s many) [] none none none (hb.mono (by omega)) h0 (by simp) (by simp; omega) rfl rfl rfl
  refine ⟨box', left', found', ?_, b', hf', hk'⟩
  have hfl : found'.length ≤ sizeLine := by rw [sizeLine_eq]; omega
  simp only [lvD, List.map_nil] at e
  simp only [allB] at e
  simp only [phi__law_all_struck, g__law_all_struck]
  simp [f0, w0, hm, wipeE, lc, sizeLine_eq, hlen, hmul, hr1, e, lvD]
end
end K81
end
section
set_option maxHeartbeats 1000000
namespace K81
open PySem PySem.Spec PyProof.Rows L2 Q
section
variable (C : Addr)
theorem beh_ok {s many : Nat} {ts : List T3} {as : List At} : ∀ (es : List El) (left l : List (List Int)), OkL s many left → behE s ts as left es = some l → OkL s many l
  | [], left, l, hl, h => by
    have : left = l := by simpa [behE] using h
    exact this ▸ hl
  | .b d :: es, left, l, hl, h => by simp [behE] at h
  | .g x t i :: es, left, l, hl, h => by
    unfold behE at h
    split at h
    · exact beh_ok es _ l (strk_ok s hl) h
    · cases h
noncomputable def behB : Q.Env → Option Out := (sSeq (sIf (dOr (dNot (dTst (dIsi "tuple" (oVar 4)))) (dOr (dTst (dOp hNe (oFz (dCall hLen (aCons (oVar 4) (aNil)))) (oFz (dC (.int 3))))) (dOr (dTst (dOp hNe (oFz (dLc (iSeq (oFz (dVar 4))) (dName 5) (dOr (dNot (dTst (dIsi "int" (oVar 5)))) (dTst (dIsi "bool" (oVar 5)))) (dMove 5) [5])) (oFz (dLst (aNil))))) (dTst (dOp hNotIn (oVar 4) (oFz (dCal 3 (phi__law_ways C) (aCons (oVar 0) (aCons (oVar 1) (aCons (oVar 3) (aNil))))))))))) (sRet (dC .non)) (sPass)) (sAsg (dSetI 3 (oFz (dOp hIx (oVar 4) (oFz (dC (.int 0)))))) (dLc (iSeq (oFz (dOp hIx (oVar 3) (oFz (dOp hIx (oVar 4) (oFz (dC (.int 0)))))))) (dName 6) (dTst (dOp hNe (oVar 6) (oFz (dOp hIx (oVar 4) (oFz (dC (.int 1))))))) (dMove 6) [6])))
theorem neB (k : Bool) : hNe (.lst [.bl k]) (.lst []) = some (.val (.bl true)) := by cases k <;> kernel_rfl
theorem neN0 : hNe (.lst []) (.lst []) = some (.val (.bl false)) := by kernel_rfl
theorem beh_for {s many : Nat} {tabs ts : List T3} {as : List At} (b : Bool) (v : D) (o : OkTs s tabs) (lk : Like tabs ts) (hA : ∀ a ∈ as, OkA tabs many a) (hW : OkW ts many as) (hn : as.length ≤ 10) : ∀ (es : List El) (left : List (List Int)) (x4 : Option Cell), (∀ e ∈ es, e.ok) → OkL s many left → okS (some x4) = true →
    ∃ (left' : List (List Int)) (y4 : Option Cell), okS (some y4) = true ∧ forL (dName 4) (behB C) (es.map El.d) [some (.par 0 (fieldD s tabs)), some (.val (wD b many as)), some (.val v), some (.own (lvD left)), x4, none, none] =
      some (match behE s ts as left es with
        | some l => .nx [some (.par 0 (fieldD s tabs)), some (.val (wD b many as)), some (.val v), some (.own (lvD l)), y4, none, none]
        | none => .rt (.val .non) [some (.par 0 (fieldD s tabs)), some (.val (wD b many as)), some (.val v), some (.own (lvD left')), y4, none, none])
  | [], left, x4, _, hl, h4 => ⟨left, x4, h4, rfl⟩
  | .b d :: es, left, x4, he, hl, h4 => by
    have hb : BadD d := he _ List.mem_cons_self
    refine ⟨left, some (.val d), rfl, ?_⟩
    rw [List.map_cons, forL_cons]
    cases hb with
    | lst l => simp [fst1, El.d, h4, behB, behE]
    | tup l h => simp [fst1, El.d, h4, behB, behE, neI, h]
    | bl k x y =>
      have lc : lcL (dName 5) (dOr (dNot (dTst (dIsi "int" (oVar 5)))) (dTst (dIsi "bool" (oVar 5)))) (dMove 5) [5] [.bl k, .int x, .int y] [some (.par 0 (fieldD s tabs)), some (.val (wD b many as)), some (.val v), some (.own (lvD left)), some (.val (.tup [.bl k, .int x, .int y])), none, none] =
        some ([.bl k], [some (.par 0 (fieldD s tabs)), some (.val (wD b many as)), some (.val v), some (.own (lvD left)), some (.val (.tup [.bl k, .int x, .int y])), none, none]) := by
        rw [lcL_cons, lcL_one]
        simp [wipeE]
        rw [lcL_cons, lcL_one]
        simp [wipeE, lcL_one]
      have z1 : 1 ≤ sizeLine := by rw [sizeLine_eq]; omega
      simp [fst1, El.d, h4, behB, behE, neI, wipeE, lc, neB, z1]
  | .g x t i :: es, left, x4, he, hl, h4 => by
    have hw := law_ways C b o lk hA hn hl
    have hni := ecR.ninL (by omega) [x, t, i] (ways s ts left as)
    have lc3 : lcL (dName 5) (dOr (dNot (dTst (dIsi "int" (oVar 5)))) (dTst (dIsi "bool" (oVar 5)))) (dMove 5) [5] [.int x, .int t, .int i] [some (.par 0 (fieldD s tabs)), some (.val (wD b many as)), some (.val v), some (.own (lvD left)), some (.val (encR [x, t, i])), none, none] =
        some ([], [some (.par 0 (fieldD s tabs)), some (.val (wD b many as)), some (.val v), some (.own (lvD left)), some (.val (encR [x, t, i])), none, none]) := by
        rw [lcL_cons, lcL_one]
        simp [wipeE]
        rw [lcL_cons, lcL_one]
        simp [wipeE, lcL_one]
    have hsq : seqD (encR [x, t, i]) = some [.int x, .int t, .int i] := by simp [encR]
    have hln : hLen [encR [x, t, i]] = some (.val (.int 3)) := by simp [encR]
    have hit : isiD "tuple" (encR [x, t, i]) = some true := by simp [encR]
    by_cases hz : [x, t, i] ∈ ways s ts left as
    · obtain ⟨x', t', i', e, x0, x1, htx, _, _⟩ := ways_rng hW hz
      simp only [List.cons.injEq, and_true] at e
      obtain ⟨rfl, rfl, rfl⟩ := e
      have hl' := strk_ok s (z := [x, t, i]) hl
      obtain ⟨left', y4, hy, ih⟩ := beh_for b v o lk hA hW hn es (strk left [x, t, i]) (some (.val (encR [x, t, i]))) (fun e he' => he e (List.mem_cons_of_mem _ he')) hl' rfl
      refine ⟨left', y4, hy, ?_⟩
      have hx : hIx (lvD left) (.int x) = some (.val (.lst ((lt left x).map D.int))) := ixL x0 (by rw [hl.ln]; exact x1)
      have hset : setD (lvD left) (.int x) (encL ((lt left x).filter fun u => !decide (u = t))) = some (lvD (strk left [x, t, i])) := by
        rw [set_lv x0 (by rw [hl.ln]; exact x1)]
        rfl
      have lc := strk_lc (left := left) (x := x) (t := t) (sl := 6) (e := dTst (dOp hNe (oVar 6) (oFz (dOp hIx (oVar 4) (oFz (dC (.int 1)))))))
        (ρ := [some (.par 0 (fieldD s tabs)), some (.val (wD b many as)), some (.val v), some (.own (lvD left)), some (.val (encR [x, t, i])), none, none]) fun u => by
          rw [lcL_one]
          by_cases hu : u = t <;> simp [wipeE, ix3_1, neI, hu]
      have hlen : ((lt left x).filter fun u => !decide (u = t)).length ≤ 16777216 := by
        have h3 : ((lt left x).filter fun u => !decide (u = t)).length ≤ (lt left x).length := List.length_filter_le _ _
        have := lt_len hl x
        omega
      rw [List.map_cons, forL_cons]
      simp only [encL] at hset
      have hbe : behE s ts as left (.g x t i :: es) = behE s ts as (strk left [x, t, i]) es := if_pos hz
      rw [hbe]
      simp only [behB] at ih
      simp only [hz, decide_true, Bool.not_true] at hni
      simp [fst1, El.d, behB, h4, hit, hln, neI, wipeE, hsq, lc3, neN0, hw, hni, ix3_0, hx, lc, sizeLine_eq, hlen, hset, ih]
    · refine ⟨left, some (.val (encR [x, t, i])), rfl, ?_⟩
      rw [List.map_cons, forL_cons]
      have hbe : behE s ts as left (.g x t i :: es) = none := if_neg hz
      rw [hbe]
      simp only [hz, decide_false, Bool.not_false] at hni
      simp [fst1, El.d, behB, h4, hit, hln, neI, wipeE, hsq, lc3, neN0, hw, hni, sizeLine_eq]
/-- what law_behind tells -/
def behC (r : Option (List (List Int))) : Cell := match r with
  | some l => .own (lvD l)
  | none => .val .non
theorem start_lcb {s many : Nat} {tabs : List T3} {as : List At} (b : Bool) (v : D) (hs : s ≤ 4) : lcL (dName 5) tTrue (dLr1 (oFz (dOp hIx (oVar 0) (oFz (dC (.int 0)))))) [5] (rgD 0 many) [some (.par 0 (fieldD s tabs)), some (.val (wD b many as)), some (.val v), none, none, none, none] = some ((startL s many).map encL, [some (.par 0 (fieldD s tabs)), some (.val (wD b many as)), some (.val v), none, none, none, none]) := by
  have f0 : hIx (fieldD s tabs) (.int 0) = some (.val (.int s)) := by simp [fieldD]
  have hr : smR (s : Int) = true := smR_nn (by omega) (by omega)
  refine start_lc fun k => ?_
  rw [lcL_one]
  simp [wipeE, f0, hr, rg0, encL, Function.comp_def]
theorem law_behind {s many : Nat} {tabs ts : List T3} {as : List At} (b c : Bool) (hs : s ≤ 4) (o : OkTs s tabs) (lk : Like tabs ts) (hA : ∀ a ∈ as, OkA tabs many a) (hW : OkW ts many as) (hn : as.length ≤ 10) {es : List El} (he : ∀ e ∈ es, e.ok) :
    phi__law_behind C [.own (fieldD s tabs), .val (wD b many as), .val (seqB c (es.map El.d))] = some (behC (behE s ts as (startL s many) es), [.own (fieldD s tabs), .val (wD b many as), .val (seqB c (es.map El.d))]) := by
  have h0 := start_ok (many := many) hs
  have hm : smI (many : Int) = true := smI_nn (by omega) (by have := hW.m2; omega)
  have w0 : hIx (wD b many as) (.int 0) = some (.val (.int many)) := by simp [wD]
  have lc := start_lcb (many := many) (tabs := tabs) (as := as) b (seqB c (es.map El.d)) hs
  have hlen : (startL s many).length ≤ 16777216 := by rw [h0.ln]; have := hW.m2; omega
  have sq : seqD (seqB c (es.map El.d)) = some (es.map El.d) := by cases c <;> rfl
  have il : isiD2 "list" "tuple" (seqB c (es.map El.d)) = some true := by cases c <;> simp [seqB]
  obtain ⟨left', y4, hy, e⟩ := beh_for C b (seqB c (es.map El.d)) o lk hA hW hn es (startL s many) none he h0 rfl
  simp only [behB, lvD] at e
  simp only [phi__law_behind, g__law_behind]
  cases hz : behE s ts as (startL s many) es with
  | none => rw [hz] at e; simp [w0, hm, wipeE, lc, sizeLine_eq, hlen, il, sq, e, behC]
  | some l => rw [hz] at e; simp [w0, hm, wipeE, lc, sizeLine_eq, hlen, il, sq, e, behC, lvD]
theorem law_behind_n {s many : Nat} {tabs ts : List T3} {as : List At} (b : Bool) (hs : s ≤ 4) (hW : OkW ts many as) :
    phi__law_behind C [.own (fieldD s tabs), .val (wD b many as), .val .non] = some (.val .non, [.own (fieldD s tabs), .val (wD b many as), .val .non]) := by
  have h0 := start_ok (many := many) hs
  have hm : smI (many : Int) = true := smI_nn (by omega) (by have := hW.m2; omega)
  have w0 : hIx (wD b many as) (.int 0) = some (.val (.int many)) := by simp [wD]
  have lc := start_lcb (many := many) (tabs := tabs) (as := as) b .non hs
  have hlen : (startL s many).length ≤ 16777216 := by rw [h0.ln]; have := hW.m2; omega
  simp only [phi__law_behind, g__law_behind]
  simp [w0, hm, wipeE, lc, sizeLine_eq, hlen]
theorem law_behind_i {s many : Nat} {tabs ts : List T3} {as : List At} (b : Bool) (hs : s ≤ 4) (hW : OkW ts many as) (i : Int) :
    phi__law_behind C [.own (fieldD s tabs), .val (wD b many as), .val (.int i)] = some (.val .non, [.own (fieldD s tabs), .val (wD b many as), .val (.int i)]) := by
  have h0 := start_ok (many := many) hs
  have hm : smI (many : Int) = true := smI_nn (by omega) (by have := hW.m2; omega)
  have w0 : hIx (wD b many as) (.int 0) = some (.val (.int many)) := by simp [wD]
  have lc := start_lcb (many := many) (tabs := tabs) (as := as) b (.int i) hs
  have hlen : (startL s many).length ≤ 16777216 := by rw [h0.ln]; have := hW.m2; omega
  simp only [phi__law_behind, g__law_behind]
  simp [w0, hm, wipeE, lc, sizeLine_eq, hlen]
end
end K81
end
section
set_option maxHeartbeats 1000000
namespace K81
open PySem PySem.Spec PyProof.Rows L2 Q
section
variable (C : Addr)
theorem isB (a b : Bool) : hIsB (.bl a) (.bl b) = some (.val (.bl (a == b))) := by cases a <;> cases b <;> kernel_rfl
theorem eqB (a b : Bool) : hEq (.bl a) (.bl b) = some (.val (.bl (a == b))) := by cases a <;> cases b <;> kernel_rfl
theorem neBB (a b : Bool) : hNe (.bl a) (.bl b) = some (.val (.bl (!(a == b)))) := by cases a <;> cases b <;> kernel_rfl
theorem same_b (n : Nat) (a b : Bool) : phi__law_same C (n + 1) [.val (.bl a), .val (.bl b)] = some (.val (.bl (a == b)), [.val (.bl a), .val (.bl b)]) := by
  simp only [phi__law_same, g__law_same]
  cases a <;> cases b <;> simp [isB, eqB, isNonD]
theorem same_i (n : Nat) (a : Int) : phi__law_same C (n + 1) [.val (.int a), .val (.int a)] = some (.val (.bl true), [.val (.int a), .val (.int a)]) := by
  simp only [phi__law_same, g__law_same]
  simp [isNonD]
theorem same_t (n : Nat) {l : List Int} (hl : l.length ≤ 1000) : phi__law_same C (n + 2) [.val (encR l), .val (encR l)] = some (.val (.bl true), [.val (encR l), .val (encR l)]) := by
  have lc := lcL_map (g := dName 2) (tt := dNot (dTst (dCal 2 (phi__law_same C (n + 1)) (aCons (oFz (dOp hIx (oVar 0) (oVar 2))) (aCons (oFz (dOp hIx (oVar 1) (oVar 2))) (aNil)))))) (te := dMove 2) (vs := [2]) (fun i : Nat => D.int (i : Nat)) (fun _ => [])
    (ρ := [some (.val (encR l)), some (.val (encR l)), none]) (l := List.range l.length) ?_
  · have hs : smI (l.length : Int) = true := smI_nn (by omega) (by omega)
    have hq : hEq (.lst []) (.lst []) = some (.val (.bl true)) := eqR0 []
    have hln : hLen [encR l] = some (.val (.int l.length)) := by simp [encR]
    have i1 : isiD "bool" (encR l) = some false := by simp [encR]
    have i2 : isiD "int" (encR l) = some false := by simp [encR]
    have i3 : isiD "str" (encR l) = some false := by simp [encR]
    have i4 : isiD "dict" (encR l) = some false := by simp [encR]
    have i5 : isiD2 "list" "tuple" (encR l) = some true := by simp [encR]
    have i6 : isiD "list" (encR l) = some false := by simp [encR]
    have i7 : isiD "tuple" (encR l) = some true := by simp [encR]
    have hf : (List.range l.length).flatMap (fun _ : Nat => ([] : List D)) = [] := by simp
    rw [hf] at lc
    show fnD 3 (g__law_same C (phi__law_same C (n + 1))) _ = _
    generalize phi__law_same C (n + 1) = r at lc ⊢
    simp only [g__law_same]
    simp [hln, i1, i2, i3, i4, i5, i6, i7, hs, rg0, wipeE, lc, hq, neBB, eqI]
  · intro i hi
    have hi : i < l.length := by simpa using hi
    have h3 := ixR hi
    have h4 := same_i C n (l.getD i 0)
    rw [lcL_one]
    simp [h3, h4, wipeE, -List.getD_eq_getElem?_getD]
theorem same_l {l : List (List Int)} (hl : l.length ≤ 1000) (h3 : ∀ r ∈ l, r.length ≤ 1000) : phi__law_same C 3 [.val (.lst (l.map encR)), .val (.lst (l.map encR))] = some (.val (.bl true), [.val (.lst (l.map encR)), .val (.lst (l.map encR))]) := by
  have lc := lcL_map (g := dName 2) (tt := dNot (dTst (dCal 2 (phi__law_same C 2) (aCons (oFz (dOp hIx (oVar 0) (oVar 2))) (aCons (oFz (dOp hIx (oVar 1) (oVar 2))) (aNil)))))) (te := dMove 2) (vs := [2]) (fun i : Nat => D.int (i : Nat)) (fun _ => [])
    (ρ := [some (.val (.lst (l.map encR))), some (.val (.lst (l.map encR))), none]) (l := List.range l.length) ?_
  · have hs : smI (l.length : Int) = true := smI_nn (by omega) (by omega)
    have hq : hEq (.lst []) (.lst []) = some (.val (.bl true)) := eqR0 []
    have hf : (List.range l.length).flatMap (fun _ : Nat => ([] : List D)) = [] := by simp
    rw [hf] at lc
    show fnD 3 (g__law_same C (phi__law_same C 2)) _ = _
    generalize phi__law_same C 2 = r at lc ⊢
    simp only [g__law_same]
    simp [hs, rg0, wipeE, lc, hq, neBB, eqI]
  · intro i hi
    have hi : i < l.length := by simpa using hi
    have h5 : hIx (.lst (l.map encR)) (.int (i : Int)) = some (.val (encR l[i])) := by
      rw [vIxL, Q.atI_nat (x := encR l[i]) (by simp [hi])]
      rfl
    have h4 := same_t C 0 (h3 l[i] (List.getElem_mem hi))
    rw [lcL_one]
    simp only [vIxL] at h5
    simp [h5, h4, wipeE]
end
end K81
end
section
set_option maxHeartbeats 1000000
namespace K81
open PySem PySem.Spec PyProof.Rows L2 Q
section
variable (C : Addr)
/-- a value that is judged -/
inductive Vl where
  | s (c : Bool) (es : List El)
  | n
  | i (k : Int)
def Vl.d : Vl → D
  | .s c es => seqB c (es.map El.d)
  | .n => .non
  | .i k => .int k
def Vl.ok : Vl → Prop
  | .s _ es => (∀ e ∈ es, e.ok) ∧ es.length ≤ 2000
  | _ => True
noncomputable def valB : Q.Env → Option Out := (sSeq (sSet 18 (dOp hIsNN (oFz (dCal 3 (phi__law_behind C) (aCons (oVar 5) (aCons (oVar 8) (aCons (oFz (dVar 17)) (aNil)))))) (oFz (dC .non)))) (sSeq (sSet 19 (dIf (dTst (dIsi "list" (oVar 17))) (dCall hList (aCons (oVar 17) (aNil))) (dMove 17))) (sSeq (sSet 20 (dIf (dTst (dVar 3)) (dCal 3 (phi_is_strikes C) (aCons (oVar 7) (aCons (oVar 8) (aCons (oFz (dVar 19)) (aNil))))) (dCallK 3 (phi_is_strikes C) 3 [2, 1, 0] (aCons (oFz (dVar 19)) (aCons (oVar 8) (aCons (oVar 7) (aNil))))))) (sSeq (sIf (dNot (dTst (dCal 2 (phi__law_same C 3) (aCons (oVar 20) (aCons (oVar 18) (aNil)))))) (sRet (dC (.bl false))) (sPass)) (sSet 3 (dNotV (dVar 3)))))))
theorem val_step {s many : Nat} {tabs ts : List T3} {as : List At} (hs : s ≤ 4) (o : OkTs s tabs) (lk : Like tabs ts) (hA : ∀ a ∈ as, OkA tabs many a) (hW : OkW ts many as) (hn : as.length ≤ 10) (v : Vl) (hv : v.ok) (w : Bool) {c0 c1 c2 cw c4 c6 c9 c10 c11 c12 c13 c14 c15 c16 c17 c18 c19 c20 c21 : Option Cell} (hw : cw = some (.val (.bl w)) ∨ cw = some (.old (.bl w))) (h17 : okS (some c17) = true) (h18 : okS (some c18) = true) (h19 : okS (some c19) = true) (h20 : okS (some c20) = true) :
    ∃ c17' c18' c19' c20', okS (some c17') = true ∧ okS (some c18') = true ∧ okS (some c19') = true ∧ okS (some c20') = true ∧ fst1 (dName 17) (valB C) v.d [c0, c1, c2, cw, c4, some (.own (fieldD s tabs)), c6, some (.old (bookD C s ts)), some (.old (wD false many as)), c9, c10, c11, c12, c13, c14, c15, c16, c17, c18, c19, c20, c21] =
      some (.nx [c0, c1, c2, some (.val (.bl (!w))), c4, some (.own (fieldD s tabs)), c6, some (.old (bookD C s ts)), some (.old (wD false many as)), c9, c10, c11, c12, c13, c14, c15, c16, c17', c18', c19', c20', c21]) := by
  have core : ∀ (d : D) (cb : Cell) (k : Bool), phi__law_behind C [.own (fieldD s tabs), .val (wD false many as), .val d] = some (cb, [.own (fieldD s tabs), .val (wD false many as), .val d]) → (cb = .own cb.d ∨ cb = .val cb.d) → isNonD cb.d = !k → phi_is_strikes C [.val (bookD C s ts), .val (wD false many as), .val d] = some (.val (.bl k), [.val (bookD C s ts), .val (wD false many as), .val d]) →
      ((isiD "list" d = some true ∧ hList [d] = some (.own d)) ∨ isiD "list" d = some false) →
      ∃ c17' c18' c19' c20', okS (some c17') = true ∧ okS (some c18') = true ∧ okS (some c19') = true ∧ okS (some c20') = true ∧ fst1 (dName 17) (valB C) d [c0, c1, c2, cw, c4, some (.own (fieldD s tabs)), c6, some (.old (bookD C s ts)), some (.old (wD false many as)), c9, c10, c11, c12, c13, c14, c15, c16, c17, c18, c19, c20, c21] =
      some (.nx [c0, c1, c2, some (.val (.bl (!w))), c4, some (.own (fieldD s tabs)), c6, some (.old (bookD C s ts)), some (.old (wD false many as)), c9, c10, c11, c12, c13, c14, c15, c16, c17', c18', c19', c20', c21]) := by
    intro d cb k e1 hc hk e2 hl
    refine ⟨some (.val d), some (.val (.bl k)), some (.val d), some (.val (.bl k)), rfl, rfl, rfl, rfl, ?_⟩
    have sb := same_b C 2 k k
    have hkk : (k == k) = true := by simp
    rw [hkk] at sb
    have e3 : phi__law_same C 3 [.val (.bl k), .val (.bl k)] = some (.val (.bl true), [.val (.bl k), .val (.bl k)]) := sb
    obtain ⟨x, hx⟩ : ∃ x, x = cb.d := ⟨_, rfl⟩
    rw [← hx] at hc hk
    clear hx
    rcases hl with ⟨l1, l2⟩ | l1
    · rcases hw with rfl | rfl <;> rcases hc with rfl | rfl <;> cases w <;>
        (simp [fst1, valB, h17, h18, h19, h20, e1, isNN, hk, l1, l2, e2, e3]; done)
    · rcases hw with rfl | rfl <;> rcases hc with rfl | rfl <;> cases w <;>
        (simp [fst1, valB, h17, h18, h19, h20, e1, isNN, hk, l1, e2, e3]; done)
  cases v with
  | s c es =>
    have e1 := law_behind C false c hs o lk hA hW hn hv.1
    have e2 := is_strikes C false c hs hW hv.1
    refine core _ _ _ e1 ?_ ?_ e2 ?_
    · cases behE s ts as (startL s many) es with
      | none => exact .inr rfl
      | some l => exact .inl rfl
    · cases behE s ts as (startL s many) es with
      | none => rfl
      | some l => rfl
    · cases c
      · exact .inl ⟨by simp [Vl.d, seqB], by simp [Vl.d, seqB]⟩
      · exact .inr (by simp [Vl.d, seqB])
  | n => exact core _ _ _ (law_behind_n C false hs hW) (.inr rfl) rfl (is_strikes_n C false hW) (.inr (by simp [Vl.d]))
  | i k => exact core _ _ _ (law_behind_i C false hs hW k) (.inr rfl) rfl (is_strikes_i C false hW k) (.inr (by simp [Vl.d]))
theorem val_for {s many : Nat} {tabs ts : List T3} {as : List At} (hs : s ≤ 4) (o : OkTs s tabs) (lk : Like tabs ts) (hA : ∀ a ∈ as, OkA tabs many a) (hW : OkW ts many as) (hn : as.length ≤ 10) {c0 c1 c2 c4 c6 c9 c10 c11 c12 c13 c14 c15 c16 c21 : Option Cell} : ∀ (vs : List Vl) (w : Bool) (cw c17 c18 c19 c20 : Option Cell), (∀ v ∈ vs, v.ok) → (cw = some (.val (.bl w)) ∨ cw = some (.old (.bl w))) → okS (some c17) = true → okS (some c18) = true → okS (some c19) = true → okS (some c20) = true →
    ∃ w' cw' c17' c18' c19' c20', (cw' = some (.val (.bl w')) ∨ cw' = some (.old (.bl w'))) ∧ okS (some c17') = true ∧ okS (some c18') = true ∧ okS (some c19') = true ∧ okS (some c20') = true ∧ forL (dName 17) (valB C) (vs.map Vl.d) [c0, c1, c2, cw, c4, some (.own (fieldD s tabs)), c6, some (.old (bookD C s ts)), some (.old (wD false many as)), c9, c10, c11, c12, c13, c14, c15, c16, c17, c18, c19, c20, c21] =
      some (.nx [c0, c1, c2, cw', c4, some (.own (fieldD s tabs)), c6, some (.old (bookD C s ts)), some (.old (wD false many as)), c9, c10, c11, c12, c13, c14, c15, c16, c17', c18', c19', c20', c21])
  | [], w, cw, c17, c18, c19, c20, _, hw, h17, h18, h19, h20 => ⟨w, cw, c17, c18, c19, c20, hw, h17, h18, h19, h20, rfl⟩
  | v :: vs, w, cw, c17, c18, c19, c20, hv, hw, h17, h18, h19, h20 => by
    obtain ⟨d17, d18, d19, d20, k17, k18, k19, k20, e⟩ := val_step C hs o lk hA hW hn v (hv v List.mem_cons_self) w (c0 := c0) (c1 := c1) (c2 := c2) (c4 := c4) (c6 := c6) (c9 := c9) (c10 := c10) (c11 := c11) (c12 := c12) (c13 := c13) (c14 := c14) (c15 := c15) (c16 := c16) (c21 := c21) hw h17 h18 h19 h20
    obtain ⟨w', cw', e17, e18, e19, e20, hw', l17, l18, l19, l20, e2⟩ := val_for hs o lk hA hW hn vs (!w) (some (.val (.bl (!w)))) d17 d18 d19 d20 (fun u hu => hv u (List.mem_cons_of_mem _ hu)) (.inl rfl) k17 k18 k19 k20
    refine ⟨w', cw', e17, e18, e19, e20, hw', l17, l18, l19, l20, ?_⟩
    rw [List.map_cons, forL_cons, e]
    exact e2
end
end K81
end
section
set_option maxHeartbeats 1000000
namespace K81
open PySem PySem.Spec PyProof.Rows L2 Q
section
def toEl (z : List Int) : El := .g (z.getD 0 0) (z.getD 1 0) (z.getD 2 0)
def gl (zs : List (List Int)) : Vl := .s false (zs.map toEl)
theorem toEl_d {z : List Int} (h : G3 z) : (toEl z).d = encR z := by
  obtain ⟨x, t, i, rfl⟩ := h
  rfl
theorem gl_d {zs : List (List Int)} (h : ∀ z ∈ zs, G3 z) : (gl zs).d = .lst (zs.map encR) := by
  show D.lst ((zs.map toEl).map El.d) = _
  rw [List.map_map]
  congr 1
  exact List.map_congr_left fun z hz => toEl_d (h z hz)
theorem gl_ok {zs : List (List Int)} (h : zs.length ≤ 2000) : (gl zs).ok := ⟨fun e he => by
  obtain ⟨z, _, rfl⟩ := List.mem_map.mp he
  trivial, by simpa using h⟩
theorem sl_hi (l : List (List Int)) {k : Int} (h : 0 ≤ k) : hSl (.lst (l.map encR)) none (some k) = some (.own (.lst ((l.take k.toNat).map encR))) := by
  show some (Cell.own (.lst (cutD (l.map encR) none (some k)))) = _
  rw [cut_hi h, List.map_take]
theorem sl_lo (l : List (List Int)) {k : Int} (h : 0 ≤ k) : hSl (.lst (l.map encR)) (some k) none = some (.own (.lst ((l.drop k.toNat).map encR))) := by
  show some (Cell.own (.lst (cutD (l.map encR) (some k) none))) = _
  rw [cut_lo h, List.map_drop]
theorem sl3_hi (x t i : Int) : hSl (encR [x, t, i]) none (some 2) = some (.val (.tup [.int x, .int t])) := by kernel_rfl
theorem sl3_lo (x t i : Int) : hSl (encR [x, t, i]) (some 1) none = some (.val (.tup [.int t, .int i])) := by kernel_rfl
theorem add_rows {l m : List (List Int)} (h : l.length + m.length ≤ 3000) : hAdd (.lst (l.map encR)) (.lst (m.map encR)) = some (.own (.lst ((l ++ m).map encR))) := by
  have : l.length + m.length ≤ 16777216 := by omega
  simp [sizeLine_eq, this]
theorem add1 {l : List (List Int)} {z : List Int} (h : l.length ≤ 2000) : hAdd (.lst (l.map encR)) (.lst [encR z]) = some (.own (.lst ((l ++ [z]).map encR))) := add_rows (l := l) (m := [z]) (by simp; omega)
theorem add2 {l : List (List Int)} {z : List Int} (h : l.length ≤ 2000) : hAdd (.lst [encR z]) (.lst (l.map encR)) = some (.own (.lst (([z] ++ l).map encR))) := add_rows (l := [z]) (m := l) (by simp; omega)
theorem cat21 (x t k : Int) : hAdd (.tup [.int x, .int t]) (.tup [.int k]) = some (.val (encR [x, t, k])) := by
  have : (3 : Nat) ≤ 16777216 := by omega
  simp [hCatT, sizeLine_eq, encR]
theorem cat12 (k t i : Int) : hAdd (.tup [.int k]) (.tup [.int t, .int i]) = some (.val (encR [k, t, i])) := by
  have : (3 : Nat) ≤ 16777216 := by omega
  simp [hCatT, sizeLine_eq, encR]
theorem neRows (l : List (List Int)) : hNe (.lst (l.map encR)) (.lst []) = some (.val (.bl (!decide (l = [])))) := ecR.list.ne (by omega) l []
variable (C : Addr)
noncomputable def timB : Q.Env → Option Out := (sSeq (sSet 13 (dOp hIx (oFz (dCal 3 (phi__law_all_struck C) (aCons (oVar 2) (aCons (oVar 5) (aCons (oVar 8) (aNil)))))) (oFz (dC (.int 0))))) (sSeq (sSet 14 (dSl (oVar 13) (nPart) (sPart (oFz (dCal 2 (phi__law_take C) (aCons (oVar 2) (aCons (oFz (dOp hAdd (oFz (dCall hLen (aCons (oVar 13) (aNil)))) (oFz (dC (.int 1))))) (aNil)))))))) (sSeq (sSet 15 (dTup (aCons (oFz (dCal 2 (phi__law_take C) (aCons (oVar 2) (aCons (oVar 6) (aNil))))) (aCons (oFz (dCal 2 (phi__law_take C) (aCons (oVar 2) (aCons (oFz (dOp hIx (oVar 5) (oFz (dC (.int 0))))) (aNil))))) (aCons (oFz (dCal 2 (phi__law_take C) (aCons (oVar 2) (aCons (oFz (dCall hLen (aCons (oFz (dOp hIx (oVar 8) (oFz (dC (.int 1))))) (aNil)))) (aNil))))) (aNil)))))) (sSeq (sDrop (dMth hExtend 11 (aCons (oFz (dLst (aCons (oFz (dVar 13)) (aCons (oFz (dVar 14)) (aCons (oFz (dOp hAdd (oVar 14) (oFz (dLst (aCons (oFz (dVar 15)) (aNil)))))) (aCons (oFz (dOp hAdd (oFz (dLst (aCons (oFz (dVar 15)) (aNil)))) (oVar 13))) (aCons (oFz (dOp hAdd (oFz (dSl (oVar 13) (sPart (oFz (dC (.int 1)))) (nPart))) (oFz (dSl (oVar 13) (nPart) (sPart (oFz (dC (.int 1)))))))) (aNil)))))))) (aNil)))) (sIf (dTst (dOp hNe (oVar 13) (oFz (dLst (aNil))))) (sSeq (sSet 16 (dCal 2 (phi__law_take C) (aCons (oVar 2) (aCons (oFz (dCall hLen (aCons (oVar 13) (aNil)))) (aNil))))) (sSeq (sDrop (dMth hAppend 11 (aCons (oFz (dOp hAdd (oFz (dOp hAdd (oFz (dSl (oVar 13) (nPart) (sPart (oVar 16)))) (oFz (dLst (aCons (oFz (dOp hAdd (oFz (dSl (oFz (dOp hIx (oVar 13) (oVar 16))) (nPart) (sPart (oFz (dC (.int 2)))))) (oFz (dTup (aCons (oFz (dOp hMod (oFz (dCall hInt (aCons (oFz (dOp hAdd (oFz (dOp hIx (oFz (dOp hIx (oVar 13) (oVar 16))) (oFz (dC (.int 2))))) (oFz (dC (.int 1))))) (aNil)))) (oFz (dCall hLen (aCons (oFz (dOp hIx (oVar 8) (oFz (dC (.int 1))))) (aNil)))))) (aNil)))))) (aNil)))))) (oFz (dSl (oVar 13) (sPart (oFz (dOp hAdd (oVar 16) (oFz (dC (.int 1)))))) (nPart))))) (aNil)))) (sDrop (dMth hAppend 11 (aCons (oFz (dOp hAdd (oFz (dOp hAdd (oFz (dSl (oVar 13) (nPart) (sPart (oVar 16)))) (oFz (dLst (aCons (oFz (dOp hAdd (oFz (dTup (aCons (oFz (dOp hMod (oFz (dCall hInt (aCons (oFz (dOp hAdd (oFz (dOp hIx (oFz (dOp hIx (oVar 13) (oVar 16))) (oFz (dC (.int 0))))) (oFz (dC (.int 1))))) (aNil)))) (oVar 6))) (aNil)))) (oFz (dSl (oFz (dOp hIx (oVar 13) (oVar 16))) (sPart (oFz (dC (.int 1)))) (nPart))))) (aNil)))))) (oFz (dSl (oVar 13) (sPart (oFz (dOp hAdd (oVar 16) (oFz (dC (.int 1)))))) (nPart))))) (aNil)))))) (sPass))))))
theorem time_step {s many n : Nat} {box d : D} {tabs ts : List T3} {as : List At} (h1 : 1 ≤ s) (hs : s ≤ 4) (o : OkTs s tabs) (lk : Like tabs ts) (hA : ∀ a ∈ as, OkA tabs many a) (hW : OkW ts many as) (hn : as.length ≤ 10) (h0 : as ≠ []) (hb : Bx (n + 60) box) {vs : List Vl} (hv : ∀ v ∈ vs, v.ok) (hvl : vs.length ≤ 1000)
    {c0 c1 cw c4 c7 c9 c10 c12 c13 c14 c15 c16 c17 c18 c19 c20 c21 : Option Cell} (h12 : okS (some c12) = true) (h13 : okS (some c13) = true) (h14 : okS (some c14) = true) (h15 : okS (some c15) = true) (h16 : okS (some c16) = true) :
    ∃ (box' : D) (ws : List Vl) (c13' c14' c15' c16' : Option Cell), okS (some c13') = true ∧ okS (some c14') = true ∧ okS (some c15') = true ∧ okS (some c16') = true ∧ fst1 (dName 12) (timB C) d [c0, c1, some (.own box), cw, c4, some (.own (fieldD s tabs)), some (.old (.int many)), c7, some (.old (wD false many as)), c9, c10, some (.own (.lst (vs.map Vl.d))), c12, c13, c14, c15, c16, c17, c18, c19, c20, c21] =
      some (.nx [c0, c1, some (.own box'), cw, c4, some (.own (fieldD s tabs)), some (.old (.int many)), c7, some (.old (wD false many as)), c9, c10, some (.own (.lst (ws.map Vl.d))), some (.val d), c13', c14', c15', c16', c17, c18, c19, c20, c21]) ∧ Bx n box' ∧ (∀ v ∈ ws, v.ok) ∧ ws.length ≤ vs.length + 7 := by
  have m1 := hW.m1
  have m2 := hW.m2
  have hap : 0 < as.length := List.length_pos_iff.mpr h0
  obtain ⟨b1, left, F, e1, B1, hF, hFl⟩ := law_all_struck C (n := n + 10) false hs o lk hA hW hn hb
  obtain ⟨b2, y, e2, B2, y0, y1⟩ := law_take C (n := n + 9) (many := (F.length : Int) + 1) (B1.mono (by omega)) (by omega) (by omega)
  obtain ⟨b3, u0, e3, B3, u00, u01⟩ := law_take C (n := n + 8) (many := (many : Int)) (B2.mono (by omega)) (by omega) (by omega)
  obtain ⟨b4, u1, e4, B4, u10, u11⟩ := law_take C (n := n + 7) (many := (s : Int)) (B3.mono (by omega)) (by omega) (by omega)
  obtain ⟨b5, u2, e5, B5, u20, u21⟩ := law_take C (n := n + 6) (many := (as.length : Int)) (B4.mono (by omega)) (by omega) (by omega)
  have f0 : hIx (fieldD s tabs) (.int 0) = some (.val (.int s)) := by simp [fieldD]
  have w1 : hIx (wD false many as) (.int 1) = some (.val (.lst (as.map encA))) := by simp [wD, seqB]
  have q1 := sl_hi F y0
  have q2 : hSl (.lst (F.map encR)) none (some 1) = some (.own (.lst ((F.take 1).map encR))) := sl_hi F (k := 1) (by omega)
  have q3 : hSl (.lst (F.map encR)) (some 1) none = some (.own (.lst ((F.drop 1).map encR))) := sl_lo F (k := 1) (by omega)
  have hln : hLen [.lst (F.map encR)] = some (.val (.int F.length)) := by simp
  have hyl : (F.take y.toNat).length ≤ 1000 := by rw [List.length_take]; omega
  have hyG : ∀ z ∈ F.take y.toNat, G3 z := fun z hz => hF z (List.mem_of_mem_take hz)
  have a1 := add1 (l := F.take y.toNat) (z := [u0, u1, u2]) (by omega)
  have a2 := add2 (l := F) (z := [u0, u1, u2]) (by omega)
  have a3 := add_rows (l := F.drop 1) (m := F.take 1) (by rw [List.length_drop, List.length_take]; omega)
  have z5 : (5 : Nat) ≤ sizeLine := by rw [sizeLine_eq]; omega
  have z3 : (3 : Nat) ≤ sizeLine := by rw [sizeLine_eq]; omega
  have z1 : (1 : Nat) ≤ sizeLine := by rw [sizeLine_eq]; omega
  have zv : vs.length + 5 ≤ sizeLine := by rw [sizeLine_eq]; omega
  have hne := neRows F
  have gfar : ∀ z ∈ [[u0, u1, u2]], G3 z := fun z hz => ⟨u0, u1, u2, by simpa using hz⟩
  have gapp : ∀ {l m : List (List Int)}, (∀ z ∈ l, G3 z) → (∀ z ∈ m, G3 z) → ∀ z ∈ l ++ m, G3 z := fun hl hm z hz => by
    rcases List.mem_append.mp hz with hz | hz
    · exact hl z hz
    · exact hm z hz
  have new5 : ∃ W : List Vl, W.map Vl.d = [.lst (F.map encR), .lst ((F.take y.toNat).map encR), .lst ((F.take y.toNat ++ [[u0, u1, u2]]).map encR), .lst (([[u0, u1, u2]] ++ F).map encR), .lst ((F.drop 1 ++ F.take 1).map encR)] ∧ (∀ v ∈ W, v.ok) ∧ W.length = 5 := by
    refine ⟨[gl F, gl (F.take y.toNat), gl (F.take y.toNat ++ [[u0, u1, u2]]), gl ([[u0, u1, u2]] ++ F), gl (F.drop 1 ++ F.take 1)], ?_, ?_, rfl⟩
    · simp only [List.map_cons, List.map_nil]
      rw [gl_d hF, gl_d hyG, gl_d (gapp hyG gfar), gl_d (gapp gfar hF), gl_d (gapp (fun z hz => hF z (List.mem_of_mem_drop hz)) (fun z hz => hF z (List.mem_of_mem_take hz)))]
    · intro v hv
      simp only [List.mem_cons, List.not_mem_nil, or_false] at hv
      rcases hv with rfl | rfl | rfl | rfl | rfl <;> refine gl_ok ?_
      · omega
      · omega
      · rw [List.length_append, List.length_singleton]; omega
      · rw [List.length_append, List.length_singleton]; omega
      · rw [List.length_append, List.length_drop, List.length_take]; omega
  obtain ⟨W, hWd, hWo, hWl⟩ := new5
  have okW : ∀ v ∈ vs ++ W, v.ok := fun v h => by
    rcases List.mem_append.mp h with h | h
    · exact hv v h
    · exact hWo v h
  have hcat : (vs ++ W).map Vl.d = vs.map Vl.d ++ [.lst (F.map encR), .lst ((F.take y.toNat).map encR), .lst ((F.take y.toNat ++ [[u0, u1, u2]]).map encR), .lst (([[u0, u1, u2]] ++ F).map encR), .lst ((F.drop 1 ++ F.take 1).map encR)] := by rw [List.map_append, hWd]
  have hFz : hEq (.lst []) (.lst []) = some (.val (.bl true)) := eqR0 []
  by_cases hF0 : F = []
  · refine ⟨b5, vs ++ W, some (.val (.lst (F.map encR))), some (.val (.lst ((F.take y.toNat).map encR))), some (.val (encR [u0, u1, u2])), c16, rfl, rfl, rfl, h16, ?_, B5.mono (by omega), okW, by rw [List.length_append]; omega⟩
    rw [hcat]
    have hne : hNe (.lst (F.map encR)) (.lst []) = some (.val (.bl false)) := by rw [hne]; simp [hF0]
    clear hF0 hcat hWd hF hyG hFl hyl
    generalize (F.drop 1 ++ F.take 1).map encR = A4 at a3 ⊢
    generalize ([[u0, u1, u2]] ++ F).map encR = A3 at a2 ⊢
    generalize (F.take y.toNat ++ [[u0, u1, u2]]).map encR = A2 at a1 ⊢
    generalize (F.take 1).map encR = T1 at q2 a3
    generalize (F.drop 1).map encR = T2 at q3 a3
    generalize (F.take y.toNat).map encR = A1 at q1 a1 ⊢
    generalize F.length = fl at hln e2
    generalize F.map encR = A0 at e1 q1 q2 q3 hln a2 hne ⊢
    simp only [encR, List.map_cons, List.map_nil] at a1 a2
    simp [fst1, timB, h12, h13, h14, h15, h16, e1, hln, e2, q1, e3, f0, e4, w1, e5, q2, q3, a1, a2, a3, z5, z3, z1, zv, hExtend, hne, encR, -vAddL, -vCatL]
  · obtain ⟨b6, p, e6, B6, p0, p1⟩ := law_take C (n := n + 5) (many := (F.length : Int)) (B5.mono (by omega)) (by have := List.length_pos_iff.mpr hF0; omega) (by omega)
    have hpl : p.toNat < F.length := by omega
    obtain ⟨x, t, i, hz⟩ := hF F[p.toNat] (List.getElem_mem hpl)
    have hat : hIx (.lst (F.map encR)) (.int p) = some (.val (encR [x, t, i])) := by
      rw [vIxL, atI_nn (x := encR [x, t, i]) p0 (by rw [List.getElem?_map, List.getElem?_eq_getElem hpl, hz]; rfl)]
      rfl
    have htl : (F.take p.toNat).length ≤ 1000 := by rw [List.length_take]; omega
    have hdl : (F.take p.toNat).length + (F.drop (p + 1).toNat).length ≤ 1000 := by rw [List.length_take, List.length_drop]; omega
    have r1 := sl_hi F p0
    have r2 := sl_lo F (k := p + 1) (by omega)
    have r3 := add1 (l := F.take p.toNat) (z := [x, t, (i + 1) % (as.length : Int)]) (by omega)
    have r4 := add_rows (l := F.take p.toNat ++ [[x, t, (i + 1) % (as.length : Int)]]) (m := F.drop (p + 1).toNat) (by rw [List.length_append, List.length_singleton]; omega)
    have r5 := add1 (l := F.take p.toNat) (z := [(x + 1) % (many : Int), t, i]) (by omega)
    have r6 := add_rows (l := F.take p.toNat ++ [[(x + 1) % (many : Int), t, i]]) (m := F.drop (p + 1).toNat) (by rw [List.length_append, List.length_singleton]; omega)
    have gT : ∀ z ∈ F.take p.toNat, G3 z := fun z hz => hF z (List.mem_of_mem_take hz)
    have gD : ∀ z ∈ F.drop (p + 1).toNat, G3 z := fun z hz => hF z (List.mem_of_mem_drop hz)
    have g1' : ∀ z ∈ F.take p.toNat ++ [[x, t, (i + 1) % (as.length : Int)]] ++ F.drop (p + 1).toNat, G3 z := gapp (gapp gT fun z hz => ⟨_, _, _, by simpa using hz⟩) gD
    have g2' : ∀ z ∈ F.take p.toNat ++ [[(x + 1) % (many : Int), t, i]] ++ F.drop (p + 1).toNat, G3 z := gapp (gapp gT fun z hz => ⟨_, _, _, by simpa using hz⟩) gD
    have new2 : ∃ U : List Vl, U.map Vl.d = [.lst ((F.take p.toNat ++ [[x, t, (i + 1) % (as.length : Int)]] ++ F.drop (p + 1).toNat).map encR), .lst ((F.take p.toNat ++ [[(x + 1) % (many : Int), t, i]] ++ F.drop (p + 1).toNat).map encR)] ∧ (∀ v ∈ U, v.ok) ∧ U.length = 2 := by
      refine ⟨[gl (F.take p.toNat ++ [[x, t, (i + 1) % (as.length : Int)]] ++ F.drop (p + 1).toNat), gl (F.take p.toNat ++ [[(x + 1) % (many : Int), t, i]] ++ F.drop (p + 1).toNat)], ?_, ?_, rfl⟩
      · simp only [List.map_cons, List.map_nil]
        rw [gl_d g1', gl_d g2']
      · intro v hv
        simp only [List.mem_cons, List.not_mem_nil, or_false] at hv
        rcases hv with rfl | rfl <;> refine gl_ok ?_ <;> rw [List.length_append, List.length_append, List.length_singleton] <;> omega
    obtain ⟨U, hUd, hUo, hUl⟩ := new2
    refine ⟨b6, vs ++ W ++ U, some (.val (.lst (F.map encR))), some (.val (.lst ((F.take y.toNat).map encR))), some (.val (encR [u0, u1, u2])), some (.val (.int p)), rfl, rfl, rfl, rfl, ?_, B6.mono (by omega), fun v h => ?_, by rw [List.length_append, List.length_append]; omega⟩
    · rw [List.map_append, hcat, hUd]
      simp only [hF0, decide_false, Bool.not_false] at hne
      clear hcat hWd hF hyG hUd g1' g2' gT gD
      generalize (F.drop 1 ++ F.take 1).map encR = A4 at a3 ⊢
      generalize ([[u0, u1, u2]] ++ F).map encR = A3 at a2 ⊢
      generalize (F.take y.toNat ++ [[u0, u1, u2]]).map encR = A2 at a1 ⊢
      generalize (F.take 1).map encR = T1 at q2 a3
      generalize (F.drop 1).map encR = T2 at q3 a3
      generalize (F.take y.toNat).map encR = A1 at q1 a1 ⊢
      generalize (F.take p.toNat ++ [[x, t, (i + 1) % (as.length : Int)]] ++ F.drop (p + 1).toNat).map encR = B4 at r4 ⊢
      generalize (F.take p.toNat ++ [[(x + 1) % (many : Int), t, i]] ++ F.drop (p + 1).toNat).map encR = B5 at r6 ⊢
      generalize (F.take p.toNat ++ [[x, t, (i + 1) % (as.length : Int)]]).map encR = B3 at r3 r4
      generalize (F.take p.toNat ++ [[(x + 1) % (many : Int), t, i]]).map encR = B6 at r5 r6
      generalize (F.take p.toNat).map encR = P1 at r1 r3 r5
      generalize (F.drop (p + 1).toNat).map encR = P2 at r2 r4 r6
      generalize F.length = fl at hln e2 e6
      generalize F.map encR = A0 at e1 q1 q2 q3 hln a2 hne hat r1 r2 ⊢
      have vm1 := vMod (i := i + 1) (j := (as.length : Int)) (by omega)
      have vm2 := vMod (i := x + 1) (j := (many : Int)) (by omega)
      have k1 := cat21 x t ((i + 1) % (as.length : Int))
      have k2 := cat12 ((x + 1) % (many : Int)) t i
      have s1 := sl3_hi x t i
      have s2 := sl3_lo x t i
      have s3 := ix3_0 x t i
      have s4 := ix3_2 x t i
      generalize (i + 1) % (as.length : Int) = g1 at vm1 k1 r3
      generalize (x + 1) % (many : Int) = g2 at vm2 k2 r5
      simp only [encR, List.map_cons, List.map_nil] at a1 a2 hat s1 s2 s3 s4 k1 k2 r3 r5
      have zw : vs.length + 6 < sizeLine := by rw [sizeLine_eq]; omega
      have zx : vs.length + 5 < sizeLine := by rw [sizeLine_eq]; omega
      simp [fst1, timB, h12, h13, h14, h15, h16, e1, hln, e2, q1, e3, f0, e4, w1, e5, q2, q3, a1, a2, a3, z5, z3, z1, zv, zx, zw, hExtend, hAppend, hne, e6, hat, r1, r2, r3, r4, r5, r6, vm1, vm2, k1, k2, s1, s2, s3, s4, encR, -vAddL, -vCatL, -vAddT]
    · rcases List.mem_append.mp h with h | h
      · exact okW v h
      · exact hUo v h
end
end K81
end
section
set_option maxHeartbeats 1000000
namespace K81
open PySem PySem.Spec PyProof.Rows L2 Q
section
theorem beh_E {s : Nat} {ts : List T3} {as : List At} : ∀ (zs left l : List (List Int)), beh s ts as left zs = some l → (∀ z ∈ zs, G3 z) ∧ behE s ts as left (zs.map toEl) = some l
  | [], left, l, h => ⟨by simp, h⟩
  | z :: zs, left, l, h => by
    unfold beh at h
    split at h
    · rename_i hz
      obtain ⟨x, t, i, c, a, rfl, _⟩ := (ways_mem s ts).mp hz
      obtain ⟨h1, h2⟩ := beh_E zs _ l h
      refine ⟨fun y hy => ?_, ?_⟩
      · rcases List.mem_cons.mp hy with rfl | hy
        · exact ⟨_, _, _, rfl⟩
        · exact h1 y hy
      · show (if [x, t, (i : Int)] ∈ ways s ts left as then behE s ts as (strk left [x, t, (i : Int)]) (zs.map toEl) else none) = _
        rw [if_pos hz]
        exact h2
    · cases h
theorem told_ok {s many : Nat} {ts : List T3} {as : List At} (hs : s ≤ 4) (hm : many ≤ 6) : (∀ z ∈ told s many ts as, G3 z) ∧ (told s many ts as).length ≤ 24 ∧ ∃ l, behE s ts as (startL s many) ((told s many ts as).map toEl) = some l ∧ ways s ts l as = [] ∧ OkL s many l := by
  have ht := start_tot hs hm
  obtain ⟨h1, h2, h3⟩ := struck_beh s ts as 25 (startL s many) (by omega)
  obtain ⟨g1, g2⟩ := beh_E _ _ _ h1
  exact ⟨g1, Nat.le_trans h3 ht, _, g2, h2, beh_ok _ _ _ (start_ok hs) g2⟩
variable (C : Addr)
theorem time_for {s many : Nat} {tabs ts : List T3} {as : List At} (h1 : 1 ≤ s) (hs : s ≤ 4) (o : OkTs s tabs) (lk : Like tabs ts) (hA : ∀ a ∈ as, OkA tabs many a) (hW : OkW ts many as) (hn : as.length ≤ 10) (h0 : as ≠ [])
    {c0 c1 cw c4 c7 c9 c10 c17 c18 c19 c20 c21 : Option Cell} : ∀ (ds : List D) (n : Nat) (box : D) (vs : List Vl) (c12 c13 c14 c15 c16 : Option Cell), Bx (n + 60 * ds.length) box → (∀ v ∈ vs, v.ok) → vs.length + 7 * ds.length ≤ 1000 → okS (some c12) = true → okS (some c13) = true → okS (some c14) = true → okS (some c15) = true → okS (some c16) = true →
    ∃ (box' : D) (ws : List Vl) (c12' c13' c14' c15' c16' : Option Cell), okS (some c12') = true ∧ okS (some c13') = true ∧ okS (some c14') = true ∧ okS (some c15') = true ∧ okS (some c16') = true ∧ forL (dName 12) (timB C) ds [c0, c1, some (.own box), cw, c4, some (.own (fieldD s tabs)), some (.old (.int many)), c7, some (.old (wD false many as)), c9, c10, some (.own (.lst (vs.map Vl.d))), c12, c13, c14, c15, c16, c17, c18, c19, c20, c21] =
      some (.nx [c0, c1, some (.own box'), cw, c4, some (.own (fieldD s tabs)), some (.old (.int many)), c7, some (.old (wD false many as)), c9, c10, some (.own (.lst (ws.map Vl.d))), c12', c13', c14', c15', c16', c17, c18, c19, c20, c21]) ∧ Bx n box' ∧ (∀ v ∈ ws, v.ok) ∧ ws.length ≤ 1000
  | [], n, box, vs, c12, c13, c14, c15, c16, hb, hv, hl, h12, h13, h14, h15, h16 => ⟨box, vs, c12, c13, c14, c15, c16, h12, h13, h14, h15, h16, rfl, by simpa using hb, hv, by simpa using hl⟩
  | d :: ds, n, box, vs, c12, c13, c14, c15, c16, hb, hv, hl, h12, h13, h14, h15, h16 => by
    rw [List.length_cons] at hb hl
    obtain ⟨b1, ws, d13, d14, d15, d16, k13, k14, k15, k16, e, B1, hv', hl'⟩ := time_step C (n := n + 60 * ds.length) (d := d) (c0 := c0) (c1 := c1) (cw := cw) (c4 := c4) (c7 := c7) (c9 := c9) (c10 := c10) (c17 := c17) (c18 := c18) (c19 := c19) (c20 := c20) (c21 := c21) h1 hs o lk hA hW hn h0 (hb.mono (by omega)) hv (by omega) h12 h13 h14 h15 h16
    obtain ⟨b2, us, e12, e13, e14, e15, e16, l12, l13, l14, l15, l16, e2, B2, hu, hul⟩ := time_for h1 hs o lk hA hW hn h0 ds n b1 ws (some (.val d)) d13 d14 d15 d16 B1 hv' (by omega) rfl k13 k14 k15 k16
    refine ⟨b2, us, e12, e13, e14, e15, e16, l12, l13, l14, l15, l16, ?_, B2, hu, hul⟩
    rw [forL_cons, e]
    exact e2
end
end K81
end
section
set_option maxHeartbeats 1000000
namespace K81
open PySem PySem.Spec PyProof.Rows L2 Q
section
/-- a slot outside any stretch: nothing of a caller, nothing old or lent -/
def plain : Option Cell → Bool
  | none => true
  | some (.val _) => true
  | some (.own _) => true
  | _ => false
def bO : Option Cell → Option Cell
  | some (.val d) => some (.old d)
  | c => c
theorem lendB_nil : lendB [] = some [] := rfl
theorem lendB_cons {c : Option Cell} (h : plain c = true) (r : Q.Env) : lendB (c :: r) = (lendB r).bind fun s => some (bO c :: s) := by
  cases c with
  | none => rfl
  | some c => cases c with
    | val d => rfl
    | own d => rfl
    | _ => cases h
theorem bO_ok {c : Option Cell} (h : plain c = true) : okS (some (bO c)) = true := by
  cases c with
  | none => rfl
  | some c => cases c with
    | val d => rfl
    | own d => rfl
    | _ => cases h
def eO (i k : Nat) : Option Cell → Option Cell
  | none => none
  | some (.val d) => if atomD d = true then some (.val d) else none
  | some (.old d) => some (.val d)
  | some (.own d) => if flatD d = true then some (.own d) else none
  | some (.lent d) => if k = i then some (.own d) else none
  | some (.par j d) => some (.par j d)
theorem lendE_nil (i k : Nat) : lendE i k [] = some [] := rfl
theorem lendE_cons {c : Option Cell} (h : okS (some c) = true) (i k : Nat) (r : Q.Env) : lendE i k (c :: r) = (lendE i (k + 1) r).bind fun s => some (eO i k c :: s) := by
  cases c with
  | none => rfl
  | some c => cases c with
    | val d => rfl
    | own d => rfl
    | old d => rfl
    | lent d => rfl
    | par j d => cases h
theorem eO_plain {c : Option Cell} (h : okS (some c) = true) (i k : Nat) : plain (eO i k c) = true := by
  cases c with
  | none => rfl
  | some c => cases c with
    | val d => show plain (if atomD d = true then some (.val d) else none) = true; split <;> rfl
    | own d => show plain (if flatD d = true then some (.own d) else none) = true; split <;> rfl
    | old d => rfl
    | lent d => show plain (if k = i then some (.own d) else none) = true; split <;> rfl
    | par j d => cases h
theorem plain_ok {c : Option Cell} (h : plain c = true) : okS (some c) = true := by
  cases c with
  | none => rfl
  | some c => cases c with
    | val d => rfl
    | own d => rfl
    | _ => cases h
end
end K81
end
section
set_option maxHeartbeats 1000000
namespace K81
open PySem PySem.Spec PyProof.Rows L2 Q
section
/-- the first values of a turn -/
def vals0 (T : List (List Int)) (many s len : Nat) : List Vl :=
  [gl T, .s true (T.map toEl), gl T.reverse, gl (T.drop 1), gl (T ++ T.take 1), .s false (T.map fun z => .b (encL z)), .n, .i 5, .s true [], .s false [.b (.tup [])], .s false [.b (.tup [.int 0, .int 0])],
    .s false [.b (.tup [.bl true, .int 0, .int 0])], gl [[many, 0, 0]], gl [[0, s, 0]], gl [[0, 0, len]]]
theorem vals0_ok {T : List (List Int)} (hl : T.length ≤ 24) (many s len : Nat) : ∀ v ∈ vals0 T many s len, v.ok := by
  intro v hv
  simp only [vals0, List.mem_cons, List.not_mem_nil, or_false] at hv
  rcases hv with rfl | rfl | rfl | rfl | rfl | rfl | rfl | rfl | rfl | rfl | rfl | rfl | rfl | rfl | rfl
  · exact gl_ok (by omega)
  · exact ⟨fun e he => by
      obtain ⟨z, _, rfl⟩ := List.mem_map.mp he
      trivial, by rw [List.length_map]; omega⟩
  · exact gl_ok (by rw [List.length_reverse]; omega)
  · exact gl_ok (by rw [List.length_drop]; omega)
  · exact gl_ok (by rw [List.length_append, List.length_take]; omega)
  · exact ⟨fun e he => by
      obtain ⟨z, _, rfl⟩ := List.mem_map.mp he
      exact BadD.lst _, by rw [List.length_map]; omega⟩
  · trivial
  · trivial
  · exact ⟨fun e he => by simp at he, by simp⟩
  · exact ⟨fun e he => by
      have : e = .b (.tup []) := by simpa using he
      subst this
      exact BadD.tup _ (by simp), by simp⟩
  · exact ⟨fun e he => by
      have : e = .b (.tup [.int 0, .int 0]) := by simpa using he
      subst this
      exact BadD.tup _ (by simp), by simp⟩
  · exact ⟨fun e he => by
      have : e = .b (.tup [.bl true, .int 0, .int 0]) := by simpa using he
      subst this
      exact BadD.bl _ _ _, by simp⟩
  · exact gl_ok (by simp)
  · exact gl_ok (by simp)
  · exact gl_ok (by simp)
theorem vals0_d {T : List (List Int)} (h : ∀ z ∈ T, G3 z) (many s len : Nat) : (vals0 T many s len).map Vl.d =
    [.lst (T.map encR), .tup (T.map encR), .lst (T.map encR).reverse, .lst ((T.drop 1).map encR), .lst ((T ++ T.take 1).map encR), .lst (T.map encL), .non, .int 5, .tup [], .lst [.tup []], .lst [.tup [.int 0, .int 0]],
      .lst [.tup [.bl true, .int 0, .int 0]], .lst [.tup [.int many, .int 0, .int 0]], .lst [.tup [.int 0, .int s, .int 0]], .lst [.tup [.int 0, .int 0, .int len]]] := by
  simp only [vals0, List.map_cons, List.map_nil]
  rw [gl_d h, gl_d (zs := T.reverse) (fun z hz => h z (List.mem_reverse.mp hz)), gl_d (zs := T.drop 1) (fun z hz => h z (List.mem_of_mem_drop hz)), gl_d (zs := T ++ T.take 1) (fun z hz => by
    rcases List.mem_append.mp hz with hz | hz
    · exact h z hz
    · exact h z (List.mem_of_mem_take hz))]
  have e1 : Vl.d (.s true (T.map toEl)) = .tup (T.map encR) := by
    show D.tup ((T.map toEl).map El.d) = _
    rw [List.map_map]
    congr 1
    exact List.map_congr_left fun z hz => toEl_d (h z hz)
  have e2 : Vl.d (.s false (T.map fun z => .b (encL z))) = .lst (T.map encL) := by
    show D.lst ((T.map fun z => El.b (encL z)).map El.d) = _
    rw [List.map_map]
    rfl
  rw [e1, e2, List.map_reverse]
  rfl
end
end K81
end
section
set_option maxHeartbeats 1000000
namespace K81
open PySem PySem.Spec PyProof.Rows L2 Q
section
variable (C : Addr)
theorem list_lc (T : List (List Int)) (ρ : Q.Env) (h : ∀ z : List Int, lcL (dName 21) tTrue (dCall hList (aCons (oVar 21) (aNil))) [21] [encR z] ρ = some ([encL z], ρ)) : lcL (dName 21) tTrue (dCall hList (aCons (oVar 21) (aNil))) [21] (T.map encR) ρ = some (T.map encL, ρ) := by
  rw [lcL_map encR (fun z => [encL z]) fun z _ => h z, flat_one]
theorem part1 {s many : Nat} {tabs ts : List T3} {as : List At} (hs : s ≤ 4) (o : OkTs s tabs) (lk : Like tabs ts) (hA : ∀ a ∈ as, OkA tabs many a) (hW : OkW ts many as) (hn : as.length ≤ 10) {T : List (List Int)} (hT : T = told s many ts as) (rest : Q.Env → Option Out)
    {c0 c1 c2 c3 c4 c7 c10 c11 c12 c13 c14 c15 c16 c17 c18 c19 c20 c21 : Option Cell} (h10 : okS (some c10) = true) (h11 : okS (some c11) = true) (h21 : okS (some c21) = true) :
    ∃ c10' c21', okS (some c10') = true ∧ okS (some c21') = true ∧ (sSeq (sSet 10 (dCal 3 (phi__law_behind C) (aCons (oVar 5) (aCons (oVar 8) (aCons (oFz (dVar 9)) (aNil)))))) (sSeq (sIf (dOr (dNot (dTst (dIsi "list" (oVar 9)))) (dOr (dTst (dOp hIsN (oVar 10) (oFz (dC .non)))) (dTst (dOp hNe (oFz (dCal 3 (phi__law_ways C) (aCons (oVar 5) (aCons (oVar 8) (aCons (oVar 10) (aNil)))))) (oFz (dLst (aNil))))))) (sRet (dC (.bl false))) (sPass)) (sSeq (sSet 11 (dLst (aCons (oFz (dVar 9)) (aCons (oFz (dCall hTuple (aCons (oVar 9) (aNil)))) (aCons (oFz (dRev (oVar 9))) (aCons (oFz (dSl (oVar 9) (sPart (oFz (dC (.int 1)))) (nPart))) (aCons (oFz (dOp hAdd (oVar 9) (oFz (dSl (oVar 9) (nPart) (sPart (oFz (dC (.int 1)))))))) (aCons (oFz (dLc (iSeq (oFz (dVar 9))) (dName 21) (tTrue) (dCall hList (aCons (oVar 21) (aNil))) [21])) (aCons (oFz (dC .non)) (aCons (oFz (dC (.int 5))) (aCons (oFz (dTup (aNil))) (aCons (oFz (dLst (aCons (oFz (dTup (aNil))) (aNil)))) (aCons (oFz (dLst (aCons (oFz (dTup (aCons (oFz (dC (.int 0))) (aCons (oFz (dC (.int 0))) (aNil))))) (aNil)))) (aNil)))))))))))))) (sSeq (sSet 11 (dOp hAdd (oVar 11) (oFz (dLst (aCons (oFz (dLst (aCons (oFz (dTup (aCons (oFz (dC (.bl true))) (aCons (oFz (dC (.int 0))) (aCons (oFz (dC (.int 0))) (aNil)))))) (aNil)))) (aCons (oFz (dLst (aCons (oFz (dTup (aCons (oFz (dVar 6)) (aCons (oFz (dC (.int 0))) (aCons (oFz (dC (.int 0))) (aNil)))))) (aNil)))) (aCons (oFz (dLst (aCons (oFz (dTup (aCons (oFz (dC (.int 0))) (aCons (oFz (dOp hIx (oVar 5) (oFz (dC (.int 0))))) (aCons (oFz (dC (.int 0))) (aNil)))))) (aNil)))) (aCons (oFz (dLst (aCons (oFz (dTup (aCons (oFz (dC (.int 0))) (aCons (oFz (dC (.int 0))) (aCons (oFz (dCall hLen (aCons (oFz (dOp hIx (oVar 8) (oFz (dC (.int 1))))) (aNil)))) (aNil)))))) (aNil)))) (aNil))))))))) rest)))) [c0, c1, c2, c3, c4, some (.own (fieldD s tabs)), some (.old (.int many)), c7, some (.old (wD false many as)), some (.lent (.lst (T.map encR))), c10, c11, c12, c13, c14, c15, c16, c17, c18, c19, c20, c21] =
      rest [c0, c1, c2, c3, c4, some (.own (fieldD s tabs)), some (.old (.int many)), c7, some (.old (wD false many as)), some (.lent (.lst (T.map encR))), c10', some (.own (.lst ((vals0 T many s as.length).map Vl.d))), c12, c13, c14, c15, c16, c17, c18, c19, c20, c21'] := by
  obtain ⟨tG, tl, l, tb, tw, tk⟩ := told_ok (s := s) (many := many) (ts := ts) (as := as) hs hW.m2
  rw [← hT] at tG tl tb
  have eb := law_behind C false false hs o lk hA hW hn (es := T.map toEl) fun e he => by
    obtain ⟨z, _, rfl⟩ := List.mem_map.mp he
    trivial
  have ed : seqB false ((T.map toEl).map El.d) = .lst (T.map encR) := gl_d tG
  rw [ed, tb] at eb
  have eb : phi__law_behind C [.own (fieldD s tabs), .val (wD false many as), .val (.lst (T.map encR))] = some (.own (lvD l), [.own (fieldD s tabs), .val (wD false many as), .val (.lst (T.map encR))]) := eb
  have ew := law_ways C false o lk hA hn tk
  rw [tw] at ew
  have f0 : hIx (fieldD s tabs) (.int 0) = some (.val (.int s)) := by simp [fieldD]
  have w1 : hIx (wD false many as) (.int 1) = some (.val (.lst (as.map encA))) := by simp [wD, seqB]
  have nl : isNonD (lvD l) = false := rfl
  have q2 : hSl (.lst (T.map encR)) none (some 1) = some (.own (.lst ((T.take 1).map encR))) := sl_hi T (k := 1) (by omega)
  have q3 : hSl (.lst (T.map encR)) (some 1) none = some (.own (.lst ((T.drop 1).map encR))) := sl_lo T (k := 1) (by omega)
  have a3 := add_rows (l := T) (m := T.take 1) (by rw [List.length_take]; omega)
  have vd := vals0_d tG many s as.length
  have zT : (T.map encL).length ≤ sizeLine := by rw [sizeLine_eq, List.length_map]; omega
  have zz : ∀ n : Nat, n ≤ 20 → n ≤ sizeLine := fun n hn => by rw [sizeLine_eq]; omega
  refine ⟨some (.own (lvD l)), none, rfl, rfl, ?_⟩
  rw [vd]
  have lc := fun c11 => list_lc T [c0, c1, c2, c3, c4, some (.own (fieldD s tabs)), some (.old (.int many)), c7, some (.old (wD false many as)), some (.lent (.lst (T.map encR))), some (.own (lvD l)), c11, c12, c13, c14, c15, c16, c17, c18, c19, c20, none] fun z => by
    rw [lcL_one]
    simp [encR, encL, wipeE]
  generalize (T ++ T.take 1).map encR = A4 at a3 ⊢
  generalize (T.take 1).map encR = T1 at q2 a3
  generalize (T.drop 1).map encR = T2 at q3 ⊢
  generalize T.map encL = T3' at lc zT ⊢
  generalize T.map encR = A0 at eb q2 q3 a3 lc ⊢
  simp only [List.map_nil] at ew
  have ac : ∀ l m : List D, l.length + m.length ≤ 20 → hAdd (.lst l) (.lst m) = some (.own (.lst (l ++ m))) := fun l m hlm => by
    rw [vAddL, vCatL, if_pos (zz _ hlm)]
  simp [h10, h11, h21, eb, ew, f0, w1, isN1, isNN, nl, neN0, q2, q3, a3, lc, zT, zz, ac, wipeE, -vAddL, -vCatL]
end
end K81
end
section
set_option maxHeartbeats 1000000
namespace K81
open PySem PySem.Spec PyProof.Rows L2 Q
section
variable (C : Addr)
/-- the two loops of the stretch -/
noncomputable def loops : Q.Env → Option Out := sSeq (sFor (iRange1 (aCons (oFz (dC (.int 4))) (aNil))) (dName 12) (timB C)) (sFor (iSeq (oFz (dVar 11))) (dName 17) (valB C))
theorem part2 {s many n : Nat} {box : D} {tabs ts : List T3} {as : List At} (h1 : 1 ≤ s) (hs : s ≤ 4) (o : OkTs s tabs) (lk : Like tabs ts) (hA : ∀ a ∈ as, OkA tabs many a) (hW : OkW ts many as) (hn : as.length ≤ 10) (h0 : as ≠ []) (hb : Bx (n + 240) box) {vs : List Vl} (hv : ∀ v ∈ vs, v.ok) (hvl : vs.length ≤ 500) (w : Bool)
    {c0 c1 c4 c9 c10 c12 c13 c14 c15 c16 c17 c18 c19 c20 c21 : Option Cell} (h12 : okS (some c12) = true) (h13 : okS (some c13) = true) (h14 : okS (some c14) = true) (h15 : okS (some c15) = true) (h16 : okS (some c16) = true) (h17 : okS (some c17) = true) (h18 : okS (some c18) = true) (h19 : okS (some c19) = true) (h20 : okS (some c20) = true) :
    ∃ (box' : D) (w' : Bool) (cw' d11 d12 d13 d14 d15 d16 d17 d18 d19 d20 : Option Cell), (cw' = some (.val (.bl w')) ∨ cw' = some (.old (.bl w'))) ∧ okS (some d11) = true ∧ okS (some d12) = true ∧ okS (some d13) = true ∧ okS (some d14) = true ∧ okS (some d15) = true ∧ okS (some d16) = true ∧ okS (some d17) = true ∧ okS (some d18) = true ∧ okS (some d19) = true ∧ okS (some d20) = true ∧ Bx n box' ∧
    loops C [c0, c1, some (.own box), some (.old (.bl w)), c4, some (.own (fieldD s tabs)), some (.old (.int many)), some (.old (bookD C s ts)), some (.old (wD false many as)), c9, c10, some (.own (.lst (vs.map Vl.d))), c12, c13, c14, c15, c16, c17, c18, c19, c20, c21] =
      some (.nx [c0, c1, some (.own box'), cw', c4, some (.own (fieldD s tabs)), some (.old (.int many)), some (.old (bookD C s ts)), some (.old (wD false many as)), c9, c10, d11, d12, d13, d14, d15, d16, d17, d18, d19, d20, c21]) := by
  have h4l : (rgD 0 4).length = 4 := by rw [rg0]; rfl
  obtain ⟨b1, ws, e12, e13, e14, e15, e16, k12, k13, k14, k15, k16, e, B1, hv1, hl1⟩ := time_for C h1 hs o lk hA hW hn h0 (c0 := c0) (c1 := c1) (cw := some (.old (.bl w))) (c4 := c4) (c7 := some (.old (bookD C s ts))) (c9 := c9) (c10 := c10) (c17 := c17) (c18 := c18) (c19 := c19) (c20 := c20) (c21 := c21) (rgD 0 4) n box vs c12 c13 c14 c15 c16 (by rw [h4l]; exact hb) hv (by rw [h4l]; omega) h12 h13 h14 h15 h16
  obtain ⟨w', cw', f17, f18, f19, f20, hw', l17, l18, l19, l20, e2⟩ := val_for C hs o lk hA hW hn (c0 := c0) (c1 := c1) (c2 := some (.own b1)) (c4 := c4) (c6 := some (.old (.int many))) (c9 := c9) (c10 := c10) (c11 := some (.val (.lst (ws.map Vl.d)))) (c12 := e12) (c13 := e13) (c14 := e14) (c15 := e15) (c16 := e16) (c21 := c21) ws w (some (.old (.bl w))) c17 c18 c19 c20 hv1 (.inr rfl) h17 h18 h19 h20
  have hsm : smI 4 = true := smI_nn (by omega) (by omega)
  refine ⟨b1, w', cw', some (.val (.lst (ws.map Vl.d))), e12, e13, e14, e15, e16, f17, f18, f19, f20, hw', rfl, k12, k13, k14, k15, k16, l17, l18, l19, l20, B1, ?_⟩
  generalize ws.map Vl.d = wd at e e2 ⊢
  generalize vs.map Vl.d = vd at e ⊢
  simp [loops, hsm, e, e2]
end
end K81
end
section
set_option maxHeartbeats 1000000
namespace K81
open PySem PySem.Spec PyProof.Rows L2 Q
section
variable (C : Addr)
noncomputable def stF : Q.Env → Option Out := sSeq (sSet 10 (dCal 3 (phi__law_behind C) (aCons (oVar 5) (aCons (oVar 8) (aCons (oFz (dVar 9)) (aNil)))))) (sSeq (sIf (dOr (dNot (dTst (dIsi "list" (oVar 9)))) (dOr (dTst (dOp hIsN (oVar 10) (oFz (dC .non)))) (dTst (dOp hNe (oFz (dCal 3 (phi__law_ways C) (aCons (oVar 5) (aCons (oVar 8) (aCons (oVar 10) (aNil)))))) (oFz (dLst (aNil))))))) (sRet (dC (.bl false))) (sPass)) (sSeq (sSet 11 (dLst (aCons (oFz (dVar 9)) (aCons (oFz (dCall hTuple (aCons (oVar 9) (aNil)))) (aCons (oFz (dRev (oVar 9))) (aCons (oFz (dSl (oVar 9) (sPart (oFz (dC (.int 1)))) (nPart))) (aCons (oFz (dOp hAdd (oVar 9) (oFz (dSl (oVar 9) (nPart) (sPart (oFz (dC (.int 1)))))))) (aCons (oFz (dLc (iSeq (oFz (dVar 9))) (dName 21) (tTrue) (dCall hList (aCons (oVar 21) (aNil))) [21])) (aCons (oFz (dC .non)) (aCons (oFz (dC (.int 5))) (aCons (oFz (dTup (aNil))) (aCons (oFz (dLst (aCons (oFz (dTup (aNil))) (aNil)))) (aCons (oFz (dLst (aCons (oFz (dTup (aCons (oFz (dC (.int 0))) (aCons (oFz (dC (.int 0))) (aNil))))) (aNil)))) (aNil)))))))))))))) (sSeq (sSet 11 (dOp hAdd (oVar 11) (oFz (dLst (aCons (oFz (dLst (aCons (oFz (dTup (aCons (oFz (dC (.bl true))) (aCons (oFz (dC (.int 0))) (aCons (oFz (dC (.int 0))) (aNil)))))) (aNil)))) (aCons (oFz (dLst (aCons (oFz (dTup (aCons (oFz (dVar 6)) (aCons (oFz (dC (.int 0))) (aCons (oFz (dC (.int 0))) (aNil)))))) (aNil)))) (aCons (oFz (dLst (aCons (oFz (dTup (aCons (oFz (dC (.int 0))) (aCons (oFz (dOp hIx (oVar 5) (oFz (dC (.int 0))))) (aCons (oFz (dC (.int 0))) (aNil)))))) (aNil)))) (aCons (oFz (dLst (aCons (oFz (dTup (aCons (oFz (dC (.int 0))) (aCons (oFz (dC (.int 0))) (aCons (oFz (dCall hLen (aCons (oFz (dOp hIx (oVar 8) (oFz (dC (.int 1))))) (aNil)))) (aNil)))))) (aNil)))) (aNil))))))))) (loops C))))
theorem stretch {s many n : Nat} {box scr kd turn : D} {tabs ts : List T3} {as : List At} (h1 : 1 ≤ s) (hs : s ≤ 4) (o : OkTs s tabs) (lk : Like tabs ts) (hA : ∀ a ∈ as, OkA tabs many a) (hW : OkW ts many as) (hn : as.length ≤ 10) (h0 : as ≠ []) (hb : Bx (n + 240) box) (w : Bool) {T : List (List Int)} (hT : T = told s many ts as)
    {c10 c11 c12 c13 c14 c15 c16 c17 c18 c19 c20 c21 : Option Cell} (h10 : plain c10 = true) (h11 : plain c11 = true) (h12 : plain c12 = true) (h13 : plain c13 = true) (h14 : plain c14 = true) (h15 : plain c15 = true) (h16 : plain c16 = true) (h17 : plain c17 = true) (h18 : plain c18 = true) (h19 : plain c19 = true) (h20 : plain c20 = true) (h21 : plain c21 = true) :
    ∃ (box' : D) (w' : Bool) (d5 d10 d11 d12 d13 d14 d15 d16 d17 d18 d19 d20 d21 : Option Cell), plain d5 = true ∧ plain d10 = true ∧ plain d11 = true ∧ plain d12 = true ∧ plain d13 = true ∧ plain d14 = true ∧ plain d15 = true ∧ plain d16 = true ∧ plain d17 = true ∧ plain d18 = true ∧ plain d19 = true ∧ plain d20 = true ∧ plain d21 = true ∧ Bx n box' ∧
    sLend 9 (stF C) [some (.val scr), some (.val kd), some (.own box), some (.val (.bl w)), some (.val turn), some (.own (fieldD s tabs)), some (.val (.int many)), some (.val (bookD C s ts)), some (.val (wD false many as)), some (.own (.lst (T.map encR))), c10, c11, c12, c13, c14, c15, c16, c17, c18, c19, c20, c21] =
      some (.nx [some (.val scr), some (.val kd), some (.own box'), some (.val (.bl w')), some (.val turn), d5, some (.val (.int many)), some (.val (bookD C s ts)), some (.val (wD false many as)), some (.own (.lst (T.map encR))), d10, d11, d12, d13, d14, d15, d16, d17, d18, d19, d20, d21]) := by
  obtain ⟨x10, x21, k10, k21, e1⟩ := part1 C hs o lk hA hW hn hT (loops C) (c0 := some (.old scr)) (c1 := some (.old kd)) (c2 := some (.own box)) (c3 := some (.old (.bl w))) (c4 := some (.old turn)) (c7 := some (.old (bookD C s ts))) (c12 := bO c12) (c13 := bO c13) (c14 := bO c14) (c15 := bO c15) (c16 := bO c16) (c17 := bO c17) (c18 := bO c18) (c19 := bO c19) (c20 := bO c20) (bO_ok h10) (bO_ok h11) (bO_ok h21)
  have tl : T.length ≤ 24 := by rw [hT]; exact (told_ok hs hW.m2).2.1
  obtain ⟨box', w', cw', x11, x12, x13, x14, x15, x16, x17, x18, x19, x20, hw, k11, k12, k13, k14, k15, k16, k17, k18, k19, k20, B', e2⟩ := part2 C h1 hs o lk hA hW hn h0 hb (vals0_ok tl many s as.length) (by simp [vals0]) w (c0 := some (.old scr)) (c1 := some (.old kd)) (c4 := some (.old turn)) (c9 := some (.lent (.lst (T.map encR)))) (c10 := x10) (c21 := x21) (bO_ok h12) (bO_ok h13) (bO_ok h14) (bO_ok h15) (bO_ok h16) (bO_ok h17) (bO_ok h18) (bO_ok h19) (bO_ok h20)
  rw [e2] at e1
  have hbx : flatD box' = true := by
    obtain ⟨a, b, m, k, rfl, _⟩ := B'
    rfl
  have hcw : eO 9 3 cw' = some (.val (.bl w')) ∧ okS (some cw') = true := by rcases hw with rfl | rfl <;> exact ⟨rfl, rfl⟩
  refine ⟨box', w', eO 9 5 (some (.own (fieldD s tabs))), eO 9 10 x10, eO 9 11 x11, eO 9 12 x12, eO 9 13 x13, eO 9 14 x14, eO 9 15 x15, eO 9 16 x16, eO 9 17 x17, eO 9 18 x18, eO 9 19 x19, eO 9 20 x20, eO 9 21 x21, eO_plain rfl _ _, eO_plain k10 _ _, eO_plain k11 _ _, eO_plain k12 _ _, eO_plain k13 _ _, eO_plain k14 _ _, eO_plain k15 _ _, eO_plain k16 _ _, eO_plain k17 _ _, eO_plain k18 _ _, eO_plain k19 _ _, eO_plain k20 _ _, eO_plain k21 _ _, B', ?_⟩
  have eb : beginE 9 [some (.val scr), some (.val kd), some (.own box), some (.val (.bl w)), some (.val turn), some (.own (fieldD s tabs)), some (.val (.int many)), some (.val (bookD C s ts)), some (.val (wD false many as)), some (.own (.lst (T.map encR))), c10, c11, c12, c13, c14, c15, c16, c17, c18, c19, c20, c21] =
      some [some (.old scr), some (.old kd), some (.own box), some (.old (.bl w)), some (.old turn), some (.own (fieldD s tabs)), some (.old (.int many)), some (.old (bookD C s ts)), some (.old (wD false many as)), some (.lent (.lst (T.map encR))), bO c10, bO c11, bO c12, bO c13, bO c14, bO c15, bO c16, bO c17, bO c18, bO c19, bO c20, bO c21] := by
    show ((lendB _).bind fun s => some (s.set 9 (some (.lent (.lst (T.map encR)))))) = _
    simp only [lendB_cons (c := some (.val _)) rfl, lendB_cons (c := some (.own _)) rfl, lendB_cons h10, lendB_cons h11, lendB_cons h12, lendB_cons h13, lendB_cons h14, lendB_cons h15, lendB_cons h16, lendB_cons h17, lendB_cons h18, lendB_cons h19, lendB_cons h20, lendB_cons h21, lendB_nil, Option.bind_some]
    rfl
  rw [sLend_ap, eb]
  simp only [Option.bind_some]
  have e1 : stF C _ = _ := e1
  rw [e1]
  simp only [Option.bind_some]
  simp only [lendE_cons (c := some (.val _)) rfl, lendE_cons (c := some (.old _)) rfl, lendE_cons (c := some (.own _)) rfl, lendE_cons (c := some (.lent _)) rfl, lendE_cons hcw.2, lendE_cons k10, lendE_cons k11, lendE_cons k12, lendE_cons k13, lendE_cons k14, lendE_cons k15, lendE_cons k16, lendE_cons k17, lendE_cons k18, lendE_cons k19, lendE_cons k20, lendE_cons k21, lendE_nil, Option.bind_some]
  have ebx : eO 9 2 (some (.own box')) = some (.own box') := by
    show (if flatD box' = true then some (Cell.own box') else none) = _
    rw [if_pos hbx]
  simp only [Nat.zero_add, Nat.reduceAdd, ebx, hcw.1]
  rfl
end
end K81
end
section
set_option maxHeartbeats 1000000
namespace K81
open PySem PySem.Spec PyProof.Rows L2 Q
section
variable (C : Addr)
noncomputable def preF : Q.Env → Option Out := (sSeq (sSet 5 (dCal 3 (phi__law_field C) (aCons (oVar 2) (aCons (oFz (dOp hAdd (oFz (dC (.int 1))) (oFz (dCal 2 (phi__law_take C) (aCons (oVar 2) (aCons (oFz (dC (.int 4))) (aNil))))))) (aCons (oFz (dOp hAdd (oFz (dC (.int 1))) (oFz (dCal 2 (phi__law_take C) (aCons (oVar 2) (aCons (oFz (dC (.int 5))) (aNil))))))) (aNil)))))) (sSeq (sSet 6 (dOp hAdd (oFz (dC (.int 1))) (oFz (dCal 2 (phi__law_take C) (aCons (oVar 2) (aCons (oFz (dC (.int 6))) (aNil))))))) (sSeq (sPar 7 8 (dFz (dCal 2 (phi__law_built C) (aCons (oVar 2) (aCons (oVar 5) (aNil))))) (dFz (dCal 4 (phi__law_wishes C) (aCons (oVar 2) (aCons (oVar 5) (aCons (oFz (dVar 6)) (aCons (oFz (dOp hAdd (oFz (dC (.int 1))) (oFz (dCal 2 (phi__law_take C) (aCons (oVar 2) (aCons (oFz (dC (.int 10))) (aNil))))))) (aNil)))))))) (sSet 9 (dIf (dTst (dVar 3)) (dCal 2 (phi_strikes C) (aCons (oVar 7) (aCons (oVar 8) (aNil)))) (dCallK 2 (phi_strikes C) 2 [1, 0] (aCons (oFz (dTup (aCons (oFz (dVar 6)) (aCons (oFz (dCall hTuple (aCons (oFz (dOp hIx (oVar 8) (oFz (dC (.int 1))))) (aNil)))) (aNil))))) (aCons (oVar 7) (aNil)))))))))
noncomputable def posF : Q.Env → Option Out := (sSeq (sDrop (dMth hAppend 9 (aCons (oFz (dC (.str "more"))) (aNil)))) (sIf (dNot (dTst (dCal 2 (phi__law_same C 3) (aCons (oFz (dCal 2 (phi_strikes C) (aCons (oVar 7) (aCons (oVar 8) (aNil))))) (aCons (oFz (dSl (oVar 9) (nPart) (sPart (oFz (dNeg (oFz (dC (.int 1)))))))) (aNil)))))) (sRet (dC (.bl false))) (sPass)))
theorem draw1 {n : Nat} {box : D} {k : Nat} (hb : Bx (n + 1) box) (h0 : 0 < k) (h1 : k ≤ 100) : ∃ (box' : D) (y : Int) (m : Nat), phi__law_take C [.own box, .val (.int k)] = some (.val (.int y), [.own box', .val (.int k)]) ∧ Bx n box' ∧ 1 + y = (m : Int) ∧ 1 ≤ m ∧ m ≤ k := by
  obtain ⟨b, y, e, B, y0, y1⟩ := law_take C (n := n) (many := (k : Int)) hb (by omega) (by omega)
  exact ⟨b, y, (1 + y).toNat, e, B, by omega, by omega, by omega⟩
theorem posF_ok {s many : Nat} {ts : List T3} {as : List At} (hs : s ≤ 4) (hW : OkW ts many as) {T : List (List Int)} (hT : T = told s many ts as) {c0 c1 c2 c3 c4 c5 c6 c10 c11 c12 c13 c14 c15 c16 c17 c18 c19 c20 c21 : Option Cell} :
    ∃ d9, plain d9 = true ∧ posF C [c0, c1, c2, c3, c4, c5, c6, some (.val (bookD C s ts)), some (.val (wD false many as)), some (.own (.lst (T.map encR))), c10, c11, c12, c13, c14, c15, c16, c17, c18, c19, c20, c21] =
      some (.nx [c0, c1, c2, c3, c4, c5, c6, some (.val (bookD C s ts)), some (.val (wD false many as)), d9, c10, c11, c12, c13, c14, c15, c16, c17, c18, c19, c20, c21]) := by
  obtain ⟨tG, tl, _⟩ := told_ok (s := s) (many := many) (ts := ts) (as := as) hs hW.m2
  have es := strikes C (s := s) false hs hW
  rw [← hT] at tG tl es
  have sl := same_l C (l := T) (by omega) fun r hr => by
    obtain ⟨x, t, i, rfl⟩ := tG r hr
    simp
  have zl : (T.map encR).length < sizeLine := by rw [sizeLine_eq, List.length_map]; omega
  have hc : hSl (.lst (T.map encR ++ [.str "more"])) none (some (-1)) = some (.own (.lst (T.map encR))) := by
    show some (Cell.own (.lst (cutD (T.map encR ++ [.str "more"]) none (some (-1))))) = _
    rw [cut_m1, List.dropLast_concat]
  refine ⟨some (.own (.lst (T.map encR ++ [.str "more"]))), rfl, ?_⟩
  generalize T.map encR = A at es sl zl hc ⊢
  simp [posF, es, sl, zl, hc, hAppend]
end
end K81
end
section
set_option maxHeartbeats 1000000
namespace K81
open PySem PySem.Spec PyProof.Rows L2 Q
section
variable (C : Addr)
theorem preF_ok {n : Nat} {box : D} (hb : Bx (n + 900) box) (w : Bool) {c0 c1 c4 c5 c6 c7 c8 c9 c10 c11 c12 c13 c14 c15 c16 c17 c18 c19 c20 c21 : Option Cell} (h5 : okS (some c5) = true) (h6 : okS (some c6) = true) (h7 : okS (some c7) = true) (h8 : okS (some c8) = true) (h9 : okS (some c9) = true) :
    ∃ (box' : D) (s many : Nat) (tabs ts : List T3) (as : List At), 1 ≤ s ∧ s ≤ 4 ∧ OkTs s tabs ∧ Like tabs ts ∧ (∀ a ∈ as, OkA tabs many a) ∧ OkW ts many as ∧ as.length ≤ 10 ∧ as ≠ [] ∧ Bx n box' ∧
    preF C [c0, c1, some (.own box), some (.val (.bl w)), c4, c5, c6, c7, c8, c9, c10, c11, c12, c13, c14, c15, c16, c17, c18, c19, c20, c21] =
      some (.nx [c0, c1, some (.own box'), some (.val (.bl w)), c4, some (.own (fieldD s tabs)), some (.val (.int many)), some (.val (bookD C s ts)), some (.val (wD false many as)), some (.own (.lst ((told s many ts as).map encR))), c10, c11, c12, c13, c14, c15, c16, c17, c18, c19, c20, c21]) := by
  obtain ⟨b1, y1, s, e1, B1, t1, s1, s4⟩ := draw1 C (n := n + 899) (k := 4) hb (by omega) (by omega)
  obtain ⟨b2, y2, m, e2, B2, t2, m1, m5⟩ := draw1 C (n := n + 898) (k := 5) B1 (by omega) (by omega)
  obtain ⟨b3, tabs, e3, B3, o, hne⟩ := law_field C (n := n + 498) (many := m) s4 m1 m5 B2
  obtain ⟨b4, y3, many, e4, B4, t4, k1, k6⟩ := draw1 C (n := n + 497) (k := 6) B3 (by omega) (by omega)
  obtain ⟨b5, ts, e5, B5, lk⟩ := law_built C (n := n + 97) s1 s4 o B4
  obtain ⟨b6, y4, num, e6, B6, t6, u1, u10⟩ := draw1 C (n := n + 96) (k := 10) B5 (by omega) (by omega)
  obtain ⟨b7, as, e7, B7, ha, hl, hA⟩ := law_wishes C (n := n) (num := num) o hne k1 k6 u1 u10 (B6.mono (by omega))
  have hW : OkW ts many as := ⟨(lk.ok o).nd, fun a h => lk.okA o (hA a h), k1, k6, by omega⟩
  have es := strikes C (s := s) false s4 hW
  have et := strikes C (s := s) true s4 hW
  have w1 : hIx (wD false many as) (.int 1) = some (.val (.lst (as.map encA))) := by simp [wD, seqB]
  have wt : wD true many as = .tup [.int many, .tup (as.map encA)] := rfl
  rw [wt] at et
  have z2 : 2 ≤ sizeLine := by rw [sizeLine_eq]; omega
  refine ⟨b7, s, many, tabs, ts, as, s1, s4, o, lk, hA, hW, hl, ha, B7, ?_⟩
  have e1 : phi__law_take C [.own box, .val (.int 4)] = some (.val (.int y1), [.own b1, .val (.int 4)]) := e1
  have e2 : phi__law_take C [.own b1, .val (.int 5)] = some (.val (.int y2), [.own b2, .val (.int 5)]) := e2
  have e4 : phi__law_take C [.own b3, .val (.int 6)] = some (.val (.int y3), [.own b4, .val (.int 6)]) := e4
  have e6 : phi__law_take C [.own b5, .val (.int 10)] = some (.val (.int y4), [.own b6, .val (.int 10)]) := e6
  cases w
  · simp [preF, h5, h6, h7, h8, h9, e1, t1, e2, t2, e3, e4, t4, e5, e6, t6, e7, es, et, w1, z2]
  · simp [preF, h5, h6, h7, h8, h9, e1, t1, e2, t2, e3, e4, t4, e5, e6, t6, e7, es, et, w1, z2]
end
end K81
end
section
set_option maxHeartbeats 1000000
namespace K81
open PySem PySem.Spec PyProof.Rows L2 Q
section
variable (C : Addr)
noncomputable def turF : Q.Env → Option Out := sSeq (preF C) (sSeq (sLend 9 (stF C)) (posF C))
theorem turn_for (scr kd : D) : ∀ (dd : List D) (n : Nat) (box : D) (w : Bool) (c4 c5 c6 c7 c8 c9 c10 c11 c12 c13 c14 c15 c16 c17 c18 c19 c20 c21 : Option Cell), Bx (n + 1200 * dd.length) box → plain c4 = true → plain c5 = true → plain c6 = true → plain c7 = true → plain c8 = true → plain c9 = true → plain c10 = true → plain c11 = true → plain c12 = true → plain c13 = true → plain c14 = true → plain c15 = true → plain c16 = true → plain c17 = true → plain c18 = true → plain c19 = true → plain c20 = true → plain c21 = true →
    ∃ (box' : D) (w' : Bool) (d4 d5 d6 d7 d8 d9 d10 d11 d12 d13 d14 d15 d16 d17 d18 d19 d20 d21 : Option Cell), plain d4 = true ∧ plain d5 = true ∧ plain d6 = true ∧ plain d7 = true ∧ plain d8 = true ∧ plain d9 = true ∧ plain d10 = true ∧ plain d11 = true ∧ plain d12 = true ∧ plain d13 = true ∧ plain d14 = true ∧ plain d15 = true ∧ plain d16 = true ∧ plain d17 = true ∧ plain d18 = true ∧ plain d19 = true ∧ plain d20 = true ∧ plain d21 = true ∧ Bx n box' ∧ forL (dName 4) (turF C) dd [some (.val scr), some (.val kd), some (.own box), some (.val (.bl w)), c4, c5, c6, c7, c8, c9, c10, c11, c12, c13, c14, c15, c16, c17, c18, c19, c20, c21] =
      some (.nx [some (.val scr), some (.val kd), some (.own box'), some (.val (.bl w')), d4, d5, d6, d7, d8, d9, d10, d11, d12, d13, d14, d15, d16, d17, d18, d19, d20, d21])
  | [], n, box, w, c4, c5, c6, c7, c8, c9, c10, c11, c12, c13, c14, c15, c16, c17, c18, c19, c20, c21, hb, hc4, hc5, hc6, hc7, hc8, hc9, hc10, hc11, hc12, hc13, hc14, hc15, hc16, hc17, hc18, hc19, hc20, hc21 => ⟨box, w, c4, c5, c6, c7, c8, c9, c10, c11, c12, c13, c14, c15, c16, c17, c18, c19, c20, c21, hc4, hc5, hc6, hc7, hc8, hc9, hc10, hc11, hc12, hc13, hc14, hc15, hc16, hc17, hc18, hc19, hc20, hc21, by simpa using hb, rfl⟩
  | d :: dd, n, box, w, c4, c5, c6, c7, c8, c9, c10, c11, c12, c13, c14, c15, c16, c17, c18, c19, c20, c21, hb, hc4, hc5, hc6, hc7, hc8, hc9, hc10, hc11, hc12, hc13, hc14, hc15, hc16, hc17, hc18, hc19, hc20, hc21 => by
    rw [List.length_cons] at hb
    obtain ⟨b1, s, many, tabs, ts, as, s1, s4, o, lk, hA, hW, hl, ha, B1, e1⟩ := preF_ok C (n := n + 1200 * dd.length + 240) (hb.mono (by omega)) w (c0 := some (.val scr)) (c1 := some (.val kd)) (c4 := some (.val d)) (c10 := c10) (c11 := c11) (c12 := c12) (c13 := c13) (c14 := c14) (c15 := c15) (c16 := c16) (c17 := c17) (c18 := c18) (c19 := c19) (c20 := c20) (c21 := c21) (plain_ok hc5) (plain_ok hc6) (plain_ok hc7) (plain_ok hc8) (plain_ok hc9)
    obtain ⟨b2, w2, f5, f10, f11, f12, f13, f14, f15, f16, f17, f18, f19, f20, f21, p5, p10, p11, p12, p13, p14, p15, p16, p17, p18, p19, p20, p21, B2, e2⟩ := stretch C (n := n + 1200 * dd.length) (scr := scr) (kd := kd) (turn := d) s1 s4 o lk hA hW hl ha B1 w rfl hc10 hc11 hc12 hc13 hc14 hc15 hc16 hc17 hc18 hc19 hc20 hc21
    obtain ⟨f9, p9, e3⟩ := posF_ok C s4 hW (T := told s many ts as) rfl (c0 := some (.val scr)) (c1 := some (.val kd)) (c2 := some (.own b2)) (c3 := some (.val (.bl w2))) (c4 := some (.val d)) (c5 := f5) (c6 := some (.val (.int many))) (c10 := f10) (c11 := f11) (c12 := f12) (c13 := f13) (c14 := f14) (c15 := f15) (c16 := f16) (c17 := f17) (c18 := f18) (c19 := f19) (c20 := f20) (c21 := f21)
    obtain ⟨b4, w4, g4, g5, g6, g7, g8, g9, g10, g11, g12, g13, g14, g15, g16, g17, g18, g19, g20, g21, q4, q5, q6, q7, q8, q9, q10, q11, q12, q13, q14, q15, q16, q17, q18, q19, q20, q21, B4, e4⟩ := turn_for scr kd dd n b2 w2 (some (.val d)) f5 (some (.val (.int many))) (some (.val (bookD C s ts))) (some (.val (wD false many as))) f9 f10 f11 f12 f13 f14 f15 f16 f17 f18 f19 f20 f21 B2 rfl p5 rfl rfl rfl p9 p10 p11 p12 p13 p14 p15 p16 p17 p18 p19 p20 p21
    refine ⟨b4, w4, g4, g5, g6, g7, g8, g9, g10, g11, g12, g13, g14, g15, g16, g17, g18, g19, g20, g21, q4, q5, q6, q7, q8, q9, q10, q11, q12, q13, q14, q15, q16, q17, q18, q19, q20, q21, B4, ?_⟩
    rw [forL_cons]
    have hg : dName 4 (.val d) [some (.val scr), some (.val kd), some (.own box), some (.val (.bl w)), c4, c5, c6, c7, c8, c9, c10, c11, c12, c13, c14, c15, c16, c17, c18, c19, c20, c21] = some [some (.val scr), some (.val kd), some (.own box), some (.val (.bl w)), some (.val d), c5, c6, c7, c8, c9, c10, c11, c12, c13, c14, c15, c16, c17, c18, c19, c20, c21] := by simp [plain_ok hc4]
    have hf : fst1 (dName 4) (turF C) d [some (.val scr), some (.val kd), some (.own box), some (.val (.bl w)), c4, c5, c6, c7, c8, c9, c10, c11, c12, c13, c14, c15, c16, c17, c18, c19, c20, c21] = some (.nx [some (.val scr), some (.val kd), some (.own b2), some (.val (.bl w2)), some (.val d), f5, some (.val (.int many)), some (.val (bookD C s ts)), some (.val (wD false many as)), f9, f10, f11, f12, f13, f14, f15, f16, f17, f18, f19, f20, f21]) := by
      unfold fst1
      rw [hg]
      simp only [Option.bind_some, turF]
      rw [sSeq_ap, e1]
      simp only [Option.bind_some]
      rw [sSeq_ap, e2]
      simp only [Option.bind_some]
      rw [e3]
    rw [hf]
    exact e4
end
end K81
end
section
set_option maxHeartbeats 1000000
namespace K81
open PySem PySem.Spec PyProof.Rows L2 Q
section
variable (C : Addr)
noncomputable def lawF : Q.Env → Option Out := (sSeq (sSet 2 (dCal 1 (phi__law_box C) (aCons (oFz (dCal 2 (phi__law_cell C) (aCons (oVar 0) (aCons (oVar 1) (aNil))))) (aNil)))) (sSeq (sSet 3 (dOp hEq (oFz (dCal 2 (phi__law_take C) (aCons (oVar 2) (aCons (oFz (dC (.int 2))) (aNil))))) (oFz (dC (.int 0))))) (sFor (iRange1 (aCons (oFz (dC (.int 3))) (aNil))) (dName 4) (turF C))))
theorem law_for (bk : Bool) (sc : List Int) : ∀ (dd : List Nat) (c1 c2 c3 c4 c5 c6 c7 c8 c9 c10 c11 c12 c13 c14 c15 c16 c17 c18 c19 c20 c21 : Option Cell), (∀ i ∈ dd, i < 3) → plain c1 = true → plain c2 = true → plain c3 = true → plain c4 = true → plain c5 = true → plain c6 = true → plain c7 = true → plain c8 = true → plain c9 = true → plain c10 = true → plain c11 = true → plain c12 = true → plain c13 = true → plain c14 = true → plain c15 = true → plain c16 = true → plain c17 = true → plain c18 = true → plain c19 = true → plain c20 = true → plain c21 = true →
    ∃ (d1 d2 d3 d4 d5 d6 d7 d8 d9 d10 d11 d12 d13 d14 d15 d16 d17 d18 d19 d20 d21 : Option Cell), plain d1 = true ∧ plain d2 = true ∧ plain d3 = true ∧ plain d4 = true ∧ plain d5 = true ∧ plain d6 = true ∧ plain d7 = true ∧ plain d8 = true ∧ plain d9 = true ∧ plain d10 = true ∧ plain d11 = true ∧ plain d12 = true ∧ plain d13 = true ∧ plain d14 = true ∧ plain d15 = true ∧ plain d16 = true ∧ plain d17 = true ∧ plain d18 = true ∧ plain d19 = true ∧ plain d20 = true ∧ plain d21 = true ∧ forL (dName 1) (lawF C) (dd.map fun i => D.int (i : Nat)) [some (.val (scD bk sc)), c1, c2, c3, c4, c5, c6, c7, c8, c9, c10, c11, c12, c13, c14, c15, c16, c17, c18, c19, c20, c21] = some (.nx [some (.val (scD bk sc)), d1, d2, d3, d4, d5, d6, d7, d8, d9, d10, d11, d12, d13, d14, d15, d16, d17, d18, d19, d20, d21])
  | [], c1, c2, c3, c4, c5, c6, c7, c8, c9, c10, c11, c12, c13, c14, c15, c16, c17, c18, c19, c20, c21, _, hc1, hc2, hc3, hc4, hc5, hc6, hc7, hc8, hc9, hc10, hc11, hc12, hc13, hc14, hc15, hc16, hc17, hc18, hc19, hc20, hc21 => ⟨c1, c2, c3, c4, c5, c6, c7, c8, c9, c10, c11, c12, c13, c14, c15, c16, c17, c18, c19, c20, c21, hc1, hc2, hc3, hc4, hc5, hc6, hc7, hc8, hc9, hc10, hc11, hc12, hc13, hc14, hc15, hc16, hc17, hc18, hc19, hc20, hc21, rfl⟩
  | k :: dd, c1, c2, c3, c4, c5, c6, c7, c8, c9, c10, c11, c12, c13, c14, c15, c16, c17, c18, c19, c20, c21, hk, hc1, hc2, hc3, hc4, hc5, hc6, hc7, hc8, hc9, hc10, hc11, hc12, hc13, hc14, hc15, hc16, hc17, hc18, hc19, hc20, hc21 => by
    obtain ⟨x, e1⟩ := law_cell C bk sc (hk k List.mem_cons_self)
    obtain ⟨b1, e2, B1⟩ := law_box C x
    obtain ⟨b2, y, e3, B2, _, _⟩ := law_take C (n := 1200 * 3) (many := 2) (B1.mono (by omega)) (by omega) (by omega)
    have h3l : (rgD 0 3).length = 3 := by rw [rg0]; rfl
    obtain ⟨b4, w4, g4, g5, g6, g7, g8, g9, g10, g11, g12, g13, g14, g15, g16, g17, g18, g19, g20, g21, q4, q5, q6, q7, q8, q9, q10, q11, q12, q13, q14, q15, q16, q17, q18, q19, q20, q21, B4, e4⟩ := turn_for C (scD bk sc) (.int (k : Nat)) (rgD 0 3) 0 b2 (decide (y = 0)) c4 c5 c6 c7 c8 c9 c10 c11 c12 c13 c14 c15 c16 c17 c18 c19 c20 c21 (by rw [h3l]; exact B2.mono (by omega)) hc4 hc5 hc6 hc7 hc8 hc9 hc10 hc11 hc12 hc13 hc14 hc15 hc16 hc17 hc18 hc19 hc20 hc21
    obtain ⟨d1, d2, d3, d4, d5, d6, d7, d8, d9, d10, d11, d12, d13, d14, d15, d16, d17, d18, d19, d20, d21, l1, l2, l3, l4, l5, l6, l7, l8, l9, l10, l11, l12, l13, l14, l15, l16, l17, l18, l19, l20, l21, e5⟩ := law_for bk sc dd (some (.val (.int (k : Nat)))) (some (.own b4)) (some (.val (.bl w4))) g4 g5 g6 g7 g8 g9 g10 g11 g12 g13 g14 g15 g16 g17 g18 g19 g20 g21 (fun i hi => hk i (List.mem_cons_of_mem _ hi)) rfl rfl rfl q4 q5 q6 q7 q8 q9 q10 q11 q12 q13 q14 q15 q16 q17 q18 q19 q20 q21
    refine ⟨d1, d2, d3, d4, d5, d6, d7, d8, d9, d10, d11, d12, d13, d14, d15, d16, d17, d18, d19, d20, d21, l1, l2, l3, l4, l5, l6, l7, l8, l9, l10, l11, l12, l13, l14, l15, l16, l17, l18, l19, l20, l21, ?_⟩
    rw [List.map_cons, forL_cons]
    have hsm : smI 3 = true := smI_nn (by omega) (by omega)
    simp only [lawF] at e5
    simp [fst1, lawF, plain_ok hc1, plain_ok hc2, plain_ok hc3, e1, e2, e3, hsm, e4, e5]
end
end K81
end
section
set_option maxHeartbeats 1000000
namespace K81
open PySem PySem.Spec PyProof.Rows L2 Q
section
variable (C : Addr)
theorem law_true (bk : Bool) (sc : List Int) : phi_law C [.val (scD bk sc)] = some (.val (.bl true), [.val (scD bk sc)]) := by
  have hK : ∃ K : Nat, K ≤ 3 ∧ (if (if (sc.length : Int) < 3 then (sc.length : Int) else 3) > 2 then (if (sc.length : Int) < 3 then (sc.length : Int) else 3) else 2) = (K : Int) := by
    by_cases h : (sc.length : Int) < 3
    · rw [if_pos h]
      by_cases h2 : (sc.length : Int) > 2
      · rw [if_pos h2]; exact ⟨sc.length, by omega, rfl⟩
      · rw [if_neg h2]; exact ⟨2, by omega, rfl⟩
    · rw [if_neg h, if_pos (by omega)]; exact ⟨3, by omega, rfl⟩
  obtain ⟨K, hK3, hKe⟩ := hK
  obtain ⟨d1, d2, d3, d4, d5, d6, d7, d8, d9, d10, d11, d12, d13, d14, d15, d16, d17, d18, d19, d20, d21, _, _, _, _, _, _, _, _, _, _, _, _, _, _, _, _, _, _, _, _, _, e⟩ := law_for C bk sc (List.range K) none none none none none none none none none none none none none none none none none none none none none (fun i hi => by have := List.mem_range.mp hi; omega) rfl rfl rfl rfl rfl rfl rfl rfl rfl rfl rfl rfl rfl rfl rfl rfl rfl rfl rfl rfl rfl
  have hs : smI (K : Int) = true := smI_nn (by omega) (by omega)
  have hl := sc_len bk sc
  have hmin : hMin2 [.int 3, .int sc.length] = some (.val (.int (if (sc.length : Int) < 3 then (sc.length : Int) else 3))) := vMin _ _
  have hmax := vMax 2 (if (sc.length : Int) < 3 then (sc.length : Int) else 3)
  rw [hKe] at hmax
  generalize (if (sc.length : Int) < 3 then (sc.length : Int) else 3) = mm at hmin hmax
  have hrg : (List.range K).map (fun i : Nat => D.int (i : Nat)) = rgD 0 (K : Int) := by rw [rg0]; rfl
  rw [hrg] at e
  simp only [lawF, turF, preF, posF, stF, loops, timB, valB] at e
  simp only [phi_law, g_law]
  simp [hl, hmin, hmax, hs, e, -vMin, -vMax]
end
end K81
end
section
set_option maxHeartbeats 0
namespace K81
open PySem PySem.Spec PyProof.Rows L2 Q
theorem fc_of {P : Program} {w : World} {K : PySem.W.Frag} {mg : Str → Option Value} {base h : Heap} (KX : K.In h) (G : h.Ns mainGlobals mg) (c : QH.SaysI cs fa fn K) : Fc P w K mg base (He.ga K "Book") where
  b_isinstance := He.free_ok KX G (c.d.fact 36)
  b_int := He.free_ok KX G (c.d.fact 37)
  b_bool := He.free_ok KX G (c.d.fact 38)
  b_list := He.free_ok KX G (c.d.fact 39)
  b_tuple := He.free_ok KX G (c.d.fact 40)
  b_len := He.free_ok KX G (c.d.fact 41)
  b_all := He.free_ok KX G (c.d.fact 42)
  b_str := He.free_ok KX G (c.d.fact 43)
  b_range := He.free_ok KX G (c.d.fact 44)
  b_dict := He.free_ok KX G (c.d.fact 45)
  b_sorted := He.free_ok KX G (c.d.fact 46)
  b_zip := He.free_ok KX G (c.d.fact 47)
  b_enumerate := He.free_ok KX G (c.d.fact 48)
  b_any := He.free_ok KX G (c.d.fact 49)
  b_sum := He.free_ok KX G (c.d.fact 50)
  b_abs := He.free_ok KX G (c.d.fact 51)
  b_max := He.free_ok KX G (c.d.fact 52)
  b_min := He.free_ok KX G (c.d.fact 53)
  k_LETTERS := He.str_ok KX G (c.d.fact 54)
  k_MOST_LETTERS := He.int_ok KX G (c.d.fact 55)
  k_MOST_SIZE := He.int_ok KX G (c.d.fact 56)
  k_MOST_TABLES := He.int_ok KX G (c.d.fact 57)
  k_MOST_COLUMNS := He.int_ok KX G (c.d.fact 58)
  k_MOST_VARIABLES_queries := He.int_ok KX G (c.d.fact 59)
  k_MOST_ATOMS_queries := He.int_ok KX G (c.d.fact 60)
  k_MOST_VARIABLES_wishes := He.int_ok KX G (c.d.fact 61)
  k_MOST_ATOMS_wishes := He.int_ok KX G (c.d.fact 62)
  cls := He.cls_ok (c.d.fact 64)
  insC := QH.ins_ok (c.ins 0) (He.cls_ok (c.d.fact 64))
  g_Book := He.glo_ok KX G (c.d.fact 63)
  noat_size := He.noat_ok (c.d.fact 66)
  noat_names := He.noat_ok (c.d.fact 67)
  noat__targets := He.noat_ok (c.d.fact 68)
  f__law_box := let ⟨fd, F⟩ := c.d.def_ 30 (d := d_law_box); ⟨_, fd, F, He.glo_ok KX G (c.d.fact 24)⟩
  f__law_cell := let ⟨fd, F⟩ := c.d.def_ 29 (d := d_law_cell); ⟨_, fd, F, He.glo_ok KX G (c.d.fact 23)⟩
  f__law_take := let ⟨fd, F⟩ := c.d.def_ 31 (d := d_law_take); ⟨_, fd, F, He.glo_ok KX G (c.d.fact 25)⟩
  f__law_mixed := let ⟨fd, F⟩ := c.d.def_ 32 (d := d_law_mixed); ⟨_, fd, F, He.glo_ok KX G (c.d.fact 26)⟩
  f__law_every := let ⟨fd, F⟩ := c.d.def_ 34 (d := d_law_every); ⟨_, fd, F, He.glo_ok KX G (c.d.fact 28)⟩
  f__law_field := let ⟨fd, F⟩ := c.d.def_ 36 (d := d_law_field); ⟨_, fd, F, He.glo_ok KX G (c.d.fact 30)⟩
  f_is_integer := let ⟨fd, F⟩ := c.d.def_ 0 (d := dis_integer); ⟨_, fd, F, He.glo_ok KX G (c.d.fact 0)⟩
  f_is_between := let ⟨fd, F⟩ := c.d.def_ 1 (d := dis_between); ⟨_, fd, F, He.glo_ok KX G (c.d.fact 1)⟩
  f_check_size := let ⟨fd, F⟩ := c.d.def_ 5 (d := dcheck_size); ⟨_, fd, F, He.glo_ok KX G (c.d.fact 5)⟩
  f_is_list := let ⟨fd, F⟩ := c.d.def_ 2 (d := dis_list); ⟨_, fd, F, He.glo_ok KX G (c.d.fact 2)⟩
  f_is_tuple_of := let ⟨fd, F⟩ := c.d.def_ 3 (d := dis_tuple_of); ⟨_, fd, F, He.glo_ok KX G (c.d.fact 3)⟩
  f_are_things := let ⟨fd, F⟩ := c.d.def_ 6 (d := dare_things); ⟨_, fd, F, He.glo_ok KX G (c.d.fact 6)⟩
  f_is_row_of := let ⟨fd, F⟩ := c.d.def_ 7 (d := dis_row_of); ⟨_, fd, F, He.glo_ok KX G (c.d.fact 7)⟩
  f_is_table := let ⟨fd, F⟩ := c.d.def_ 10 (d := dis_table); ⟨_, fd, F, He.glo_ok KX G (c.d.fact 10)⟩
  f_is_word := let ⟨fd, F⟩ := c.d.def_ 4 (d := dis_word); ⟨_, fd, F, He.glo_ok KX G (c.d.fact 4)⟩
  f_are_tables := let ⟨fd, F⟩ := c.d.def_ 11 (d := dare_tables); ⟨_, fd, F, He.glo_ok KX G (c.d.fact 11)⟩
  f_every_row := let ⟨fd, F⟩ := c.d.def_ 8 (d := devery_row); ⟨_, fd, F, He.glo_ok KX G (c.d.fact 8)⟩
  f_target_where := let ⟨fd, F⟩ := c.d.def_ 9 (d := dtarget_where); ⟨_, fd, F, He.glo_ok KX G (c.d.fact 9)⟩
  f_BookD_initD := let ⟨fd, F⟩ := c.d.def_ 12 (d := dBookD_initD); ⟨_, fd, F, He.mkr_ok (c.d.fact 65)⟩
  f__law_built := let ⟨fd, F⟩ := c.d.def_ 35 (d := d_law_built); ⟨_, fd, F, He.glo_ok KX G (c.d.fact 29)⟩
  f__law_wishes := let ⟨fd, F⟩ := c.d.def_ 37 (d := d_law_wishes); ⟨_, fd, F, He.glo_ok KX G (c.d.fact 31)⟩
  f_check_book := let ⟨fd, F⟩ := c.d.def_ 18 (d := dcheck_book); ⟨_, fd, F, He.glo_ok KX G (c.d.fact 12)⟩
  f_Book_target := let ⟨fd, F⟩ := c.d.def_ 14 (d := dBook_target); ⟨_, fd, F, He.meth_ok (c.d.fact 71)⟩
  f_Book_columns := let ⟨fd, F⟩ := c.d.def_ 15 (d := dBook_columns); ⟨_, fd, F, He.meth_ok (c.d.fact 72)⟩
  f_is_atom_of := let ⟨fd, F⟩ := c.d.def_ 19 (d := dis_atom_of); ⟨_, fd, F, He.glo_ok KX G (c.d.fact 13)⟩
  f_is_conjunction := let ⟨fd, F⟩ := c.d.def_ 20 (d := dis_conjunction); ⟨_, fd, F, He.glo_ok KX G (c.d.fact 14)⟩
  f_is_wish_list := let ⟨fd, F⟩ := c.d.def_ 21 (d := dis_wish_list); ⟨_, fd, F, He.glo_ok KX G (c.d.fact 15)⟩
  f_check_wishes := let ⟨fd, F⟩ := c.d.def_ 22 (d := dcheck_wishes); ⟨_, fd, F, He.glo_ok KX G (c.d.fact 16)⟩
  f_Book_rows := let ⟨fd, F⟩ := c.d.def_ 16 (d := dBook_rows); ⟨_, fd, F, He.meth_ok (c.d.fact 73)⟩
  f_can_have := let ⟨fd, F⟩ := c.d.def_ 23 (d := dcan_have); ⟨_, fd, F, He.glo_ok KX G (c.d.fact 17)⟩
  f_next_strike := let ⟨fd, F⟩ := c.d.def_ 24 (d := dnext_strike); ⟨_, fd, F, He.glo_ok KX G (c.d.fact 18)⟩
  f_struck_list := let ⟨fd, F⟩ := c.d.def_ 25 (d := dstruck_list); ⟨_, fd, F, He.glo_ok KX G (c.d.fact 19)⟩
  f_strikes := let ⟨fd, F⟩ := c.d.def_ 26 (d := dstrikes); ⟨_, fd, F, He.glo_ok KX G (c.d.fact 20)⟩
  f__law_ways := let ⟨fd, F⟩ := c.d.def_ 38 (d := d_law_ways); ⟨_, fd, F, He.glo_ok KX G (c.d.fact 32)⟩
  f__law_behind := let ⟨fd, F⟩ := c.d.def_ 39 (d := d_law_behind); ⟨_, fd, F, He.glo_ok KX G (c.d.fact 33)⟩
  f__law_all_struck := let ⟨fd, F⟩ := c.d.def_ 40 (d := d_law_all_struck); ⟨_, fd, F, He.glo_ok KX G (c.d.fact 34)⟩
  f_is_strike := let ⟨fd, F⟩ := c.d.def_ 27 (d := dis_strike); ⟨_, fd, F, He.glo_ok KX G (c.d.fact 21)⟩
  f_is_strikes := let ⟨fd, F⟩ := c.d.def_ 28 (d := dis_strikes); ⟨_, fd, F, He.glo_ok KX G (c.d.fact 22)⟩
  f__law_same := let ⟨fd, F⟩ := c.d.def_ 33 (d := d_law_same); ⟨_, fd, F, He.glo_ok KX G (c.d.fact 27)⟩
  f_law := let ⟨fd, F⟩ := c.d.def_ 41 (d := dlaw); ⟨_, fd, F, He.glo_ok KX G (c.d.fact 35)⟩
theorem facts {P : Program} {w : World} {K : PySem.W.Frag} {h : Heap} {mg : Str → Option Value} {f : Addr} (KX : K.In h) (G : h.Ns mainGlobals mg) (hfa : mg ("law" : Str) = some (.ref f)) (c : QH.SaysI cs fa fn K) :
    ∃ (fd : FuncData) (sp : Sp), (∀ (s : Shared) (u : Value), BindsTo s fd ⟨[u], []⟩ [("script", u)]) ∧
      (∀ (H : Hp) (a : Addr) (ns : List Int), ns.length ≤ 63 → Only H → SqL K H a (ns.map V.int) → sp [.ref a] H (fun v _ => v = .bl true) fun _ _ _ => False) ∧
      ∀ base : Heap, K.In base → base.Ns mainGlobals mg → FnOk P w K mg base CX0 10 f fd ["script"] sp := by
  obtain ⟨fd, F⟩ := c.d.def_ 41 (d := dlaw)
  have e := hfa.symm.trans (He.glo_ok KX G (c.d.fact 35 (f := .glo "law")))
  cases e
  have b := FunD.bindsA (ps := ["script"]) F fun _ _ _ _ _ _ us hl => match us, hl with | [_], _ => rfl
  exact ⟨fd, spF K 1 (phi_law (He.ga K "Book")), fun s v => b s [v] rfl, fun H a ns hl _ hS => sp_end hl hS fun b sc hsc => ⟨_, law_true _ b sc⟩, fun base _ _ => fk_law (fc_of (base := base) KX G c) F⟩
end K81
end
open PySem PySem.W PySem.Calls PyProof.Rows
set_option maxRecDepth 100000 in
set_option maxHeartbeats 0 in
theorem PySem.Challenge.cw_madetables_k81_strikes_clause_by_clause_holds : PySem.Challenge.rw_madetables_k81_strikes_clause_by_clause.Holds := by
  w_on; o_law
  refine HandSHeadRun.head_any (r := OpenLaw.row PySem.Challenge.rw_madetables_k81_strikes_clause_by_clause) (q := view (OpenLaw.row PySem.Challenge.rw_madetables_k81_strikes_clause_by_clause).prog [59]) (H := K81.hk) (ob := K81.ob) (M := K81.steps) (loose := K81.loose) (d := HandSHeadRun.topDef (OpenLaw.row PySem.Challenge.rw_madetables_k81_strikes_clause_by_clause).prog 59) (kwd := []) K81.ob_eq
    (by kernel_rfl) (fun s => by kernel_rfl) K81.run (by kernel_rfl) (by kernel_rfl) (by kernel_rfl) (by rfl) (by first | assumption | decide +kernel) (by decide +kernel) ⟨rfl, rfl, rfl, rfl, rfl, by decide +kernel⟩ ?hw ?hc
  case hw => w_witness2
  case hc =>
    refine L2.walk_ofE (l := PySem.Challenge.rw_madetables_k81_strikes_clause_by_clause) (n := 63) (k := 10) (x := "script") (CX := L2.CX0) rfl (by decide) (by kernel_rfl) ⟨rfl, by decide, by decide⟩ ?F (fun _ _ _ _ z => z)
    intro w mg fa h Y G hmg0
    obtain ⟨K, KX, c⟩ := Y
    have hmg : mg ("law" : PySem.Str) = some (.ref fa) := by
      have e : (HandSHeadRun.topDef (OpenLaw.row PySem.Challenge.rw_madetables_k81_strikes_clause_by_clause).prog 59).name = ("law" : PySem.Str) := by kernel_rfl
      rw [← e]
      exact hmg0
    obtain ⟨fd, sp, hb, hs, hF⟩ := K81.facts (P := (PySem.Challenge.rw_madetables_k81_strikes_clause_by_clause).prog) (w := w) KX G hmg c
    exact ⟨K, fd, sp, KX, hb, hs, hF⟩
