import PyProof.Rows.All
import Wide.All
import OpenK.AllK
import Wide.FinOn
import HandS.ForMost
import HandS.ForExc
import HandS.ExcInit
import HandS.HeadHook1
import HandS.Wide
import HandS.IsInst
import HandS.Flow
import HandS.TupAny
import HandS.Steps
import PyProof.ReprReads
import PyProof.ReprRoads
import HandS.Style
import HandS.Star
import HandS.Ends
import KE.KExcIs
import HandS.ExcField
import HandS.Defaults
import HandS.Head0
import HandS.Head1
import HandS.Head2
import HandS.HeadEnd
import HandS.HeadHook2
import HandS.HeadHook3
import HandS.HeadHook4
import HandS.Text
import PySem.Challenge.RW_sayable_k01_names_taken_apart
set_option Elab.async false
set_option linter.all false
set_option maxRecDepth 100000
set_option maxHeartbeats 0
/-! The data layer over HandS: what an expression, a statement, a def does, told as a plain function of data. -/
namespace DL
open PySem PySem.Spec PyProof.Rows L2

/-! ### data -/
inductive D where
  | non | bl (b : Bool) | int (i : Int) | str (x : Str)
  | lst (xs : List D) | tup (xs : List D) | dct (kvs : List (Key × D))
  | obj (c : Str) (fs : List (Str × D)) | ptr (n : Nat) | scr (ns : List Int)
instance : Inhabited D := ⟨.non⟩
/-- a thing that may change: a local list, a jar -/
inductive Cell where
  | lst (ds : List D) | dct (kvs : List (Key × D)) | obj (c : Str) (fs : List (Str × D)) | dead
abbrev W := List Cell
structure Exn where
  c : Str
  fs : List (Str × D)
inductive R (α : Type) where
  | ok (a : α) (w : W) | exc (x : Exn) (w : W) | stuck
def R.bind {α β : Type} : R α → (α → W → R β) → R β
  | .ok a w, f => f a w
  | .exc x w, _ => .exc x w
  | .stuck, _ => .stuck
/-- a value: data, or a look at a thing of a slot's own -/
inductive Val where
  | dat (d : D) | vw (c : Cell)
inductive Slot where
  | non | dat (d : D) | own (c : Cell)

/-! ### how data lies in the heap: F is the part that never changes, ι tells where the changing things lie -/
mutual
inductive Rep (K : PySem.W.Frag) (F : Hp) (ι : List Addr) : V → D → Prop
  | non : Rep K F ι .non .non
  | bl (b : Bool) : Rep K F ι (.bl b) (.bl b)
  | int (i : Int) : Rep K F ι (.int i) (.int i)
  | str (x : Str) : Rep K F ι (.str x) (.str x)
  | lst {a : Addr} {xs : List V} {ds : List D} : F a = some (.lst xs) → RepA K F ι xs ds → Rep K F ι (.ref a) (.lst ds)
  | tup {a : Addr} {xs : List V} {ds : List D} : SqT K F a xs → RepA K F ι xs ds → Rep K F ι (.ref a) (.tup ds)
  | dct {a : Addr} {kvs : List (Key × V)} {es : List (Key × D)} : F a = some (.dK kvs) → RepK K F ι kvs es → Rep K F ι (.ref a) (.dct es)
  | obj {a dx : Addr} {c : Str} {fs : List (Str × V)} {es : List (Str × D)} : F a = some (.ins (He.ga K c) dx fs) → RepF K F ι fs es → Rep K F ι (.ref a) (.obj c es)
  | ptr {a : Addr} {n : Nat} : ι[n]? = some a → Rep K F ι (.ref a) (.ptr n)
  | scr {a : Addr} {ns : List Int} : SqL K F a (ns.map V.int) → Rep K F ι (.ref a) (.scr ns)
inductive RepA (K : PySem.W.Frag) (F : Hp) (ι : List Addr) : List V → List D → Prop
  | nil : RepA K F ι [] []
  | cons {v : V} {vs : List V} {d : D} {ds : List D} : Rep K F ι v d → RepA K F ι vs ds → RepA K F ι (v :: vs) (d :: ds)
inductive RepK (K : PySem.W.Frag) (F : Hp) (ι : List Addr) : List (Key × V) → List (Key × D) → Prop
  | nil : RepK K F ι [] []
  | cons {k : Key} {v : V} {vs : List (Key × V)} {d : D} {ds : List (Key × D)} : Rep K F ι v d → RepK K F ι vs ds → RepK K F ι ((k, v) :: vs) ((k, d) :: ds)
inductive RepF (K : PySem.W.Frag) (F : Hp) (ι : List Addr) : List (Str × V) → List (Str × D) → Prop
  | nil : RepF K F ι [] []
  | cons {k : Str} {v : V} {vs : List (Str × V)} {d : D} {ds : List (Str × D)} : Rep K F ι v d → RepF K F ι vs ds → RepF K F ι ((k, v) :: vs) ((k, d) :: ds)
end

/-- what was known stays -/
def Ex (F F' : Hp) : Prop := ∀ a o, F a = some o → F' a = some o
theorem Ex.refl (F : Hp) : Ex F F := fun _ _ h => h
theorem Ex.trans {F F1 F2 : Hp} (a : Ex F F1) (b : Ex F1 F2) : Ex F F2 := fun x o h => b x o (a x o h)
theorem Ex.new {F : Hp} {p : Addr} {o : HO} (h : F p = none) : Ex F (upd F p o) := fun a u e => by
  rw [upd_ne (ne_of_none e h)]
  exact e
theorem ex_rd {H H' : Hp} {a : Addr} {u : HO} (e : Ex H H') (h : Rd H a u) : Rd H' a u := by
  rcases h with h | ⟨o, h⟩
  · exact Or.inl (e a _ h)
  · exact Or.inr ⟨o, e a _ h⟩
theorem ex_l {K : PySem.W.Frag} {H H' : Hp} {a : Addr} {xs : List V} (e : Ex H H') (h : SqL K H a xs) : SqL K H' a xs := by
  rcases h with h | h
  · exact Or.inl (ex_rd e h)
  · exact Or.inr h
theorem ex_t {K : PySem.W.Frag} {H H' : Hp} {a : Addr} {xs : List V} (e : Ex H H') (h : SqT K H a xs) : SqT K H' a xs := by
  rcases h with h | h
  · exact Or.inl (ex_rd e h)
  · exact Or.inr h

section
variable {K : PySem.W.Frag} {F F' H H' : Hp} {ι ι' : List Addr}
mutual
theorem Rep.mono (e : Ex F F') (l : ∀ (n : Nat) a, ι[n]? = some a → ι'[n]? = some a) : ∀ {v : V} {d : D}, Rep K F ι v d → Rep K F' ι' v d
  | _, _, .non => .non
  | _, _, .bl b => .bl b
  | _, _, .int i => .int i
  | _, _, .str x => .str x
  | _, _, .lst h r => .lst (e _ _ h) (RepA.mono e l r)
  | _, _, .tup h r => .tup (ex_t e h) (RepA.mono e l r)
  | _, _, .dct h r => .dct (e _ _ h) (RepK.mono e l r)
  | _, _, .obj h r => .obj (e _ _ h) (RepF.mono e l r)
  | _, _, .ptr h => .ptr (l _ _ h)
  | _, _, .scr h => .scr (ex_l e h)
theorem RepA.mono (e : Ex F F') (l : ∀ (n : Nat) a, ι[n]? = some a → ι'[n]? = some a) : ∀ {v : List V} {d : List D}, RepA K F ι v d → RepA K F' ι' v d
  | _, _, .nil => .nil
  | _, _, .cons h r => .cons (Rep.mono e l h) (RepA.mono e l r)
theorem RepK.mono (e : Ex F F') (l : ∀ (n : Nat) a, ι[n]? = some a → ι'[n]? = some a) : ∀ {v : List (Key × V)} {d : List (Key × D)}, RepK K F ι v d → RepK K F' ι' v d
  | _, _, .nil => .nil
  | _, _, .cons h r => .cons (Rep.mono e l h) (RepK.mono e l r)
theorem RepF.mono (e : Ex F F') (l : ∀ (n : Nat) a, ι[n]? = some a → ι'[n]? = some a) : ∀ {v : List (Str × V)} {d : List (Str × D)}, RepF K F ι v d → RepF K F' ι' v d
  | _, _, .nil => .nil
  | _, _, .cons h r => .cons (Rep.mono e l h) (RepF.mono e l r)
end
theorem RepA.length {xs : List V} {ds : List D} (r : RepA K F ι xs ds) : xs.length = ds.length := by
  induction ds generalizing xs with
  | nil => cases r; rfl
  | cons d ds ih =>
    cases r with
    | cons h r => simp [ih r]
theorem RepA.get {xs : List V} {ds : List D} (r : RepA K F ι xs ds) : ∀ {i : Nat} {x : V}, xs[i]? = some x → ∃ d, ds[i]? = some d ∧ Rep K F ι x d := by
  induction ds generalizing xs with
  | nil => cases r; intro i x h; simp at h
  | cons d ds ih =>
    cases r with
    | cons h r =>
      intro i x e
      cases i with
      | zero => simp at e; subst e; exact ⟨d, rfl, h⟩
      | succ i => simpa using ih r (by simpa using e)
theorem RepA.get' {xs : List V} {ds : List D} (r : RepA K F ι xs ds) : ∀ {i : Nat} {d : D}, ds[i]? = some d → ∃ x, xs[i]? = some x ∧ Rep K F ι x d := by
  induction ds generalizing xs with
  | nil => intro i x h; simp at h
  | cons d ds ih =>
    cases r with
    | cons h r =>
      intro i x e
      cases i with
      | zero => simp at e; subst e; exact ⟨_, rfl, h⟩
      | succ i => simpa using ih r (by simpa using e)
theorem RepA.append {xs ys : List V} {ds es : List D} (r : RepA K F ι xs ds) (q : RepA K F ι ys es) : RepA K F ι (xs ++ ys) (ds ++ es) := by
  induction ds generalizing xs with
  | nil => cases r; exact q
  | cons d ds ih =>
    cases r with
    | cons h r => exact .cons h (ih r)
theorem RepA.snoc {xs : List V} {ds : List D} {v : V} {d : D} (r : RepA K F ι xs ds) (q : Rep K F ι v d) : RepA K F ι (xs ++ [v]) (ds ++ [d]) := r.append (.cons q .nil)
theorem RepA.set {xs : List V} {ds : List D} {v : V} {d : D} (q : Rep K F ι v d) (r : RepA K F ι xs ds) : ∀ {i : Nat}, RepA K F ι (xs.set i v) (ds.set i d) := by
  induction ds generalizing xs with
  | nil => cases r; intro i; exact .nil
  | cons e ds ih =>
    cases r with
    | cons h r =>
      intro i
      cases i with
      | zero => exact .cons q r
      | succ i => exact .cons h (ih r)
theorem RepA.take {xs : List V} {ds : List D} (r : RepA K F ι xs ds) : ∀ {i : Nat}, RepA K F ι (xs.take i) (ds.take i) := by
  induction ds generalizing xs with
  | nil => cases r; intro i; simp; exact .nil
  | cons e ds ih =>
    cases r with
    | cons h r =>
      intro i
      cases i with
      | zero => exact .nil
      | succ i => exact .cons h (ih r)
theorem RepA.drop {xs : List V} {ds : List D} (r : RepA K F ι xs ds) : ∀ {i : Nat}, RepA K F ι (xs.drop i) (ds.drop i) := by
  induction ds generalizing xs with
  | nil => cases r; intro i; simp; exact .nil
  | cons e ds ih =>
    cases r with
    | cons h r =>
      intro i
      cases i with
      | zero => exact .cons h r
      | succ i => exact ih r

/-- a changing thing as it stands at a -/
def CellAt (K : PySem.W.Frag) (F H : Hp) (ι : List Addr) (a : Addr) : Cell → Prop
  | .lst ds => ∃ xs, H a = some (.lst xs) ∧ RepA K F ι xs ds
  | .dct es => ∃ kvs, H a = some (.dK kvs) ∧ RepK K F ι kvs es
  | .obj c es => ∃ dx fs, H a = some (.ins (He.ga K c) dx fs) ∧ RepF K F ι fs es
  | .dead => ∃ o, H a = some o
theorem CellAt.there {a : Addr} {c : Cell} (h : CellAt K F H ι a c) : ∃ o, H a = some o := by
  cases c with
  | lst _ => obtain ⟨_, e, _⟩ := h; exact ⟨_, e⟩
  | dct _ => obtain ⟨_, e, _⟩ := h; exact ⟨_, e⟩
  | obj _ _ => obtain ⟨_, _, e, _⟩ := h; exact ⟨_, e⟩
  | dead => exact h
theorem CellAt.mono {a : Addr} {c : Cell} (e : Ex F F') (l : ∀ (n : Nat) a, ι[n]? = some a → ι'[n]? = some a) (k : ∀ o, H a = some o → H' a = some o) (h : CellAt K F H ι a c) : CellAt K F' H' ι' a c := by
  cases c with
  | lst _ => obtain ⟨_, x, r⟩ := h; exact ⟨_, k _ x, r.mono e l⟩
  | dct _ => obtain ⟨_, x, r⟩ := h; exact ⟨_, k _ x, r.mono e l⟩
  | obj _ _ => obtain ⟨_, _, x, r⟩ := h; exact ⟨_, _, k _ x, r.mono e l⟩
  | dead => obtain ⟨_, x⟩ := h; exact ⟨_, k _ x⟩

/-- the world: the changing things stand where ι tells, none of them in F -/
structure Wd (K : PySem.W.Frag) (F H : Hp) (ι : List Addr) (w : W) : Prop where
  ex : Ex F H
  len : ι.length = w.length
  nd : ι.Nodup
  cel : ∀ (n : Nat) a c, ι[n]? = some a → w[n]? = some c → F a = none ∧ CellAt K F H ι a c
theorem Wd.ne {w : W} (h : Wd K F H ι w) {a : Addr} (m : a ∈ ι) : F a = none ∧ ∃ o, H a = some o := by
  obtain ⟨n, hn, e⟩ := List.getElem_of_mem m
  have hw : n < w.length := by rw [← h.len]; exact hn
  obtain ⟨q, r⟩ := h.cel n a w[n] (by rw [List.getElem?_eq_getElem hn, e]) (List.getElem?_eq_getElem hw)
  exact ⟨q, r.there⟩

/-- a step: F grows, all but the changing things stays, new things are new -/
structure Stp (F H : Hp) (ι : List Addr) (F' H' : Hp) (ι' : List Addr) : Prop where
  ex : Ex F F'
  keep : ∀ a o, a ∉ ι → H a = some o → H' a = some o
  kin : ∀ a o, H a = some o → ∃ o', H' a = some o'
  new : ∀ a o, F' a = some o → F a = some o ∨ H a = none
  ext : ∃ more, ι' = ι ++ more ∧ ∀ a ∈ more, H a = none
theorem Stp.refl : Stp F H ι F H ι := ⟨Ex.refl F, fun _ _ _ h => h, fun _ o h => ⟨o, h⟩, fun _ _ h => .inl h, [], by simp, fun _ h => nomatch h⟩
theorem Stp.ix (s : Stp F H ι F' H' ι') : ∀ (n : Nat) a, ι[n]? = some a → ι'[n]? = some a := fun n a h => by
  obtain ⟨m, rfl, _⟩ := s.ext
  rw [List.getElem?_append_left (List.getElem?_eq_some_iff.mp h).1]
  exact h
theorem Stp.out (s : Stp F H ι F' H' ι') {a : Addr} {o : HO} (h : H a = some o) (n : a ∉ ι) : a ∉ ι' := by
  obtain ⟨m, rfl, hm⟩ := s.ext
  intro q
  rcases List.mem_append.mp q with q | q
  · exact n q
  · rw [hm a q] at h; cases h
theorem Stp.trans {F1 H1 F2 H2 : Hp} {ι1 ι2 : List Addr} (a : Stp F H ι F1 H1 ι1) (b : Stp F1 H1 ι1 F2 H2 ι2) : Stp F H ι F2 H2 ι2 where
  ex := a.ex.trans b.ex
  keep := fun x o n h => b.keep x o (a.out h n) (a.keep x o n h)
  kin := fun x o h => by
    obtain ⟨o1, h1⟩ := a.kin x o h
    exact b.kin x o1 h1
  new := fun x o h => by
    rcases b.new x o h with h | h
    · exact a.new x o h
    · right
      cases q : H x with
      | none => rfl
      | some u =>
        obtain ⟨_, z⟩ := a.kin x u q
        rw [h] at z; cases z
  ext := by
    obtain ⟨m1, rfl, h1⟩ := a.ext
    obtain ⟨m2, rfl, h2⟩ := b.ext
    refine ⟨m1 ++ m2, by simp, fun x hx => ?_⟩
    rcases List.mem_append.mp hx with q | q
    · exact h1 x q
    · have z := h2 x q
      cases r : H x with
      | none => rfl
      | some u =>
        obtain ⟨_, y⟩ := a.kin x u r
        rw [z] at y; cases y
/-- a new frozen thing -/
theorem Stp.fresh {p : Addr} {o : HO} (h : H p = none) (hF : F p = none) : Stp F H ι (upd F p o) (upd H p o) ι where
  ex := Ex.new hF
  keep := fun a u _ e => Ex.new h a u e
  kin := fun a u e => ⟨u, Ex.new h a u e⟩
  new := fun a u e => by
    by_cases z : a = p
    · subst z; exact .inr h
    · rw [upd_ne z] at e; exact .inl e
  ext := ⟨[], by simp, fun _ h => nomatch h⟩
theorem Wd.free {w : W} (d : Wd K F H ι w) {p : Addr} (h : H p = none) : F p = none := by
  cases q : F p with
  | none => rfl
  | some o => rw [d.ex p o q] at h; cases h
theorem Wd.fresh {w : W} {p : Addr} {o : HO} (d : Wd K F H ι w) (h : H p = none) : Wd K (upd F p o) (upd H p o) ι w := by
  have hF := d.free h
  refine ⟨fun a u e => ?_, d.len, d.nd, fun n a c h1 h2 => ?_⟩
  · by_cases z : a = p
    · subst z; rw [upd_same] at e ⊢; exact e
    · rw [upd_ne z] at e ⊢; exact d.ex a u e
  · obtain ⟨q, r⟩ := d.cel n a c h1 h2
    have z : a ≠ p := fun z => by
      subst z
      obtain ⟨_, y⟩ := r.there
      rw [h] at y; cases y
    exact ⟨by rw [upd_ne z]; exact q, r.mono (Ex.new hF) (fun _ _ h => h) fun u e => by rw [upd_ne z]; exact e⟩

def RepV (K : PySem.W.Frag) (F H : Hp) (ι : List Addr) (v : V) : Val → Prop
  | .dat d => Rep K F ι v d
  | .vw c => ∃ p, v = .ref p ∧ F p = none ∧ p ∉ ι ∧ CellAt K F H ι p c
theorem RepV.mono {v : V} {x : Val} (s : Stp F H ι F' H' ι') (h : RepV K F H ι v x) : RepV K F' H' ι' v x := by
  cases x with
  | dat d => exact Rep.mono s.ex s.ix h
  | vw c =>
    obtain ⟨p, e, h1, h2, h3⟩ := h
    obtain ⟨o, ho⟩ := h3.there
    refine ⟨p, e, ?_, s.out ho h2, h3.mono s.ex s.ix fun o q => s.keep p o h2 q⟩
    cases q : F' p with
    | none => rfl
    | some u =>
      rcases s.new p u q with z | z
      · rw [h1] at z; cases z
      · rw [ho] at z; cases z

/-- a slot of the def; what is its own was made since the entry H0 -/
def SlAt (K : PySem.W.Frag) (H0 F H : Hp) (ι : List Addr) (x : Option (Option V)) : Slot → Prop
  | .non => True
  | .dat d => ∃ v, x = some (some v) ∧ Rep K F ι v d
  | .own c => ∃ p, x = some (some (.ref p)) ∧ H0 p = none ∧ F p = none ∧ p ∉ ι ∧ CellAt K F H ι p c
structure Sl (K : PySem.W.Frag) (H0 F H : Hp) (ι : List Addr) (σ : L2.St) (ρ : List Slot) : Prop where
  len : σ.length = ρ.length
  at_ : ∀ (i : Nat) s, ρ[i]? = some s → SlAt K H0 F H ι σ[i]? s
  sep : ∀ (i j : Nat) c c' (p : Addr), ρ[i]? = some (.own c) → ρ[j]? = some (.own c') → σ[i]? = some (some (.ref p)) → σ[j]? = some (some (.ref p)) → i = j
variable {H0 : Hp} {σ : L2.St} {ρ : List Slot}
theorem SlAt.mono {x : Option (Option V)} {t : Slot} (s : Stp F H ι F' H' ι') (h : SlAt K H0 F H ι x t) : SlAt K H0 F' H' ι' x t := by
  cases t with
  | non => trivial
  | dat d => obtain ⟨v, e, r⟩ := h; exact ⟨v, e, r.mono s.ex s.ix⟩
  | own c =>
    obtain ⟨p, e, h0, h1, h2, h3⟩ := h
    obtain ⟨q, e', r1, r2, r3⟩ := RepV.mono (x := .vw c) s (⟨p, rfl, h1, h2, h3⟩ : RepV K F H ι (.ref p) (.vw c))
    cases e'
    exact ⟨p, e, h0, r1, r2, r3⟩
theorem Sl.mono (s : Stp F H ι F' H' ι') (h : Sl K H0 F H ι σ ρ) : Sl K H0 F' H' ι' σ ρ := ⟨h.len, fun i t e => (h.at_ i t e).mono s, h.sep⟩
/-- a slot gets data -/
theorem Sl.set {i : Nat} {v : V} {d : D} (h : Sl K H0 F H ι σ ρ) (r : Rep K F ι v d) : Sl K H0 F H ι (σ.set i (some v)) (ρ.set i (.dat d)) where
  len := by simp [h.len]
  at_ := fun j t e => by
    by_cases z : i = j
    · subst z
      by_cases hl : i < ρ.length
      · rw [List.getElem?_set_self hl] at e
        cases e
        exact ⟨v, by rw [List.getElem?_set_self (by rw [h.len]; exact hl)], r⟩
      · rw [List.getElem?_eq_none (by simp; omega)] at e; cases e
    · rw [List.getElem?_set_ne z] at e ⊢
      exact h.at_ j t e
  sep := fun j k c c' p e1 e2 e3 e4 => by
    by_cases z : i = j
    · subst z
      by_cases hl : i < ρ.length
      · rw [List.getElem?_set_self hl] at e1; cases e1
      · rw [List.getElem?_eq_none (by simp; omega)] at e1; cases e1
    · by_cases y : i = k
      · subst y
        by_cases hl : i < ρ.length
        · rw [List.getElem?_set_self hl] at e2; cases e2
        · rw [List.getElem?_eq_none (by simp; omega)] at e2; cases e2
      · rw [List.getElem?_set_ne z] at e1 e3
        rw [List.getElem?_set_ne y] at e2 e4
        exact h.sep j k c c' p e1 e2 e3 e4
end

/-! ### semantics -/
abbrev SemE := List Slot → W → R Val
abbrev SemT := List Slot → W → R Bool
abbrev SemA := List Slot → W → R (List D)
def XPost (K : PySem.W.Frag) (E : XK) (F H : Hp) (ι : List Addr) (x : Exn) (w' : W) : Prop :=
  ∀ F' H' ι' d fs, Stp F H ι F' H' ι' → Wd K F' H' ι' w' → F' d = some (.xd fs) → RepF K F' ι' fs x.fs → E (.ref (He.ga K x.c)) (some d) H'
def OkV (K : PySem.W.Frag) (F H : Hp) (ι : List Addr) (x : Val) (w' : W) (Q : VK) : Prop := ∀ v F' H' ι', Stp F H ι F' H' ι' → Wd K F' H' ι' w' → RepV K F' H' ι' v x → Q v H'
def OkA (K : PySem.W.Frag) (F H : Hp) (ι : List Addr) (x : List D) (w' : W) (Q : List V → Hp → Prop) : Prop := ∀ v F' H' ι', Stp F H ι F' H' ι' → Wd K F' H' ι' w' → RepA K F' ι' v x → Q v H'
def OkT (K : PySem.W.Frag) (F H : Hp) (ι : List Addr) (w' : W) (Q : Hp → Prop) : Prop := ∀ F' H' ι', Stp F H ι F' H' ι' → Wd K F' H' ι' w' → Q H'
/-- what is told of an end -/
def Meets {α : Type} (A : α → W → Prop) (B : Exn → W → Prop) : R α → Prop
  | .ok a w => A a w
  | .exc x w => B x w
  | .stuck => True
def DR (K : PySem.W.Frag) (E : XK) (te : TE) (s : SemE) : Prop := ∀ (H0 F H : Hp) (ι : List Addr) (w : W) (σ : L2.St) (ρ : List Slot), Wd K F H ι w → Sl K H0 F H ι σ ρ →
  Meets (fun x w' => ∀ Q : VK, OkV K F H ι x w' Q → te σ H Q) (fun x w' => XPost K E F H ι x w' → ∀ Q, te σ H Q) (s ρ w)
def DRT (K : PySem.W.Frag) (E : XK) (tt : TT) (s : SemT) : Prop := ∀ (H0 F H : Hp) (ι : List Addr) (w : W) (σ : L2.St) (ρ : List Slot), Wd K F H ι w → Sl K H0 F H ι σ ρ →
  Meets (fun x w' => ∀ Q : Bool → Hp → Prop, OkT K F H ι w' (Q x) → tt σ H Q) (fun x w' => XPost K E F H ι x w' → ∀ Q, tt σ H Q) (s ρ w)
def DRA (K : PySem.W.Frag) (E : XK) (ta : TA) (s : SemA) : Prop := ∀ (H0 F H : Hp) (ι : List Addr) (w : W) (σ : L2.St) (ρ : List Slot), Wd K F H ι w → Sl K H0 F H ι σ ρ →
  Meets (fun x w' => ∀ Q : List V → Hp → Prop, OkA K F H ι x w' Q → ta σ H Q) (fun x w' => XPost K E F H ι x w' → ∀ Q, ta σ H Q) (s ρ w)
theorem OkV.step {K : PySem.W.Frag} {F H F' H' : Hp} {ι ι' : List Addr} {x : Val} {w' : W} {Q : VK} (s : Stp F H ι F' H' ι') (h : OkV K F H ι x w' Q) : OkV K F' H' ι' x w' Q := fun v F2 H2 ι2 a b c => h v F2 H2 ι2 (s.trans a) b c
theorem OkA.step {K : PySem.W.Frag} {F H F' H' : Hp} {ι ι' : List Addr} {x : List D} {w' : W} {Q : List V → Hp → Prop} (s : Stp F H ι F' H' ι') (h : OkA K F H ι x w' Q) : OkA K F' H' ι' x w' Q := fun v F2 H2 ι2 a b c => h v F2 H2 ι2 (s.trans a) b c
theorem OkT.step {K : PySem.W.Frag} {F H F' H' : Hp} {ι ι' : List Addr} {w' : W} {Q : Hp → Prop} (s : Stp F H ι F' H' ι') (h : OkT K F H ι w' Q) : OkT K F' H' ι' w' Q := fun F2 H2 ι2 a b => h F2 H2 ι2 (s.trans a) b
theorem XPost.step {K : PySem.W.Frag} {E : XK} {F H F' H' : Hp} {ι ι' : List Addr} {x : Exn} {w' : W} (s : Stp F H ι F' H' ι') (h : XPost K E F H ι x w') : XPost K E F' H' ι' x w' := fun F2 H2 ι2 d fs a b c e => h F2 H2 ι2 d fs (s.trans a) b c e
end DL

/-! Expressions. -/
namespace DL
open PySem PySem.Spec PyProof.Rows L2

structure DE (X : Cx) (E : XK) (e : Expr) (te : TE) (s : SemE) : Prop where
  pe : PE X e te
  dr : DR X.K E te s
structure DT (X : Cx) (E : XK) (e : Expr) (tt : TT) (s : SemT) : Prop where
  pt : PT X e tt
  dr : DRT X.K E tt s
structure DW (X : Cx) (E : XK) (e : Expr) (tt : TT) (s : SemT) : Prop where
  pw : PW X e tt
  dr : DRT X.K E tt s
structure DA (X : Cx) (E : XK) (es : List Expr) (ta : TA) (s : SemA) : Prop where
  pa : PA X es ta
  dr : DRA X.K E ta s

section
variable {K : PySem.W.Frag} {E : XK}
/-! ### how readings are put together -/
theorem DR.ok {te : TE} {s : SemE} (h : DR K E te s) {H0 F H : Hp} {ι : List Addr} {w w' : W} {σ : L2.St} {ρ : List Slot} {x : Val} (d : Wd K F H ι w) (l : Sl K H0 F H ι σ ρ) (e : s ρ w = .ok x w') {Q : VK} (q : OkV K F H ι x w' Q) : te σ H Q := by
  have z := h H0 F H ι w σ ρ d l
  rw [e] at z
  exact z Q q
theorem DR.exc {te : TE} {s : SemE} (h : DR K E te s) {H0 F H : Hp} {ι : List Addr} {w w' : W} {σ : L2.St} {ρ : List Slot} {x : Exn} (d : Wd K F H ι w) (l : Sl K H0 F H ι σ ρ) (e : s ρ w = .exc x w') (q : XPost K E F H ι x w') (Q : VK) : te σ H Q := by
  have z := h H0 F H ι w σ ρ d l
  rw [e] at z
  exact z q Q
theorem DRT.ok {te : TT} {s : SemT} (h : DRT K E te s) {H0 F H : Hp} {ι : List Addr} {w w' : W} {σ : L2.St} {ρ : List Slot} {x : Bool} (d : Wd K F H ι w) (l : Sl K H0 F H ι σ ρ) (e : s ρ w = .ok x w') {Q : Bool → Hp → Prop} (q : OkT K F H ι w' (Q x)) : te σ H Q := by
  have z := h H0 F H ι w σ ρ d l
  rw [e] at z
  exact z Q q
theorem DRT.exc {te : TT} {s : SemT} (h : DRT K E te s) {H0 F H : Hp} {ι : List Addr} {w w' : W} {σ : L2.St} {ρ : List Slot} {x : Exn} (d : Wd K F H ι w) (l : Sl K H0 F H ι σ ρ) (e : s ρ w = .exc x w') (q : XPost K E F H ι x w') (Q : Bool → Hp → Prop) : te σ H Q := by
  have z := h H0 F H ι w σ ρ d l
  rw [e] at z
  exact z q Q
theorem DRA.ok {te : TA} {s : SemA} (h : DRA K E te s) {H0 F H : Hp} {ι : List Addr} {w w' : W} {σ : L2.St} {ρ : List Slot} {x : List D} (d : Wd K F H ι w) (l : Sl K H0 F H ι σ ρ) (e : s ρ w = .ok x w') {Q : List V → Hp → Prop} (q : OkA K F H ι x w' Q) : te σ H Q := by
  have z := h H0 F H ι w σ ρ d l
  rw [e] at z
  exact z Q q
theorem DRA.exc {te : TA} {s : SemA} (h : DRA K E te s) {H0 F H : Hp} {ι : List Addr} {w w' : W} {σ : L2.St} {ρ : List Slot} {x : Exn} (d : Wd K F H ι w) (l : Sl K H0 F H ι σ ρ) (e : s ρ w = .exc x w') (q : XPost K E F H ι x w') (Q : List V → Hp → Prop) : te σ H Q := by
  have z := h H0 F H ι w σ ρ d l
  rw [e] at z
  exact z q Q
/-- the shape of all: te goes on with k behind ta, s with f behind sa -/
theorem DR.bind {ta te : TE} {sa : SemE} {f : Val → SemE} {k : V → L2.St → Hp → VK → Prop} (ha : DR K E ta sa) (he : ∀ σ H Q, ta σ H (fun x H1 => k x σ H1 Q) → te σ H Q)
    (hk : ∀ H0 F H ι w σ ρ v x, Wd K F H ι w → Sl K H0 F H ι σ ρ → RepV K F H ι v x → Meets (fun y w' => ∀ Q : VK, OkV K F H ι y w' Q → k v σ H Q) (fun y w' => XPost K E F H ι y w' → ∀ Q, k v σ H Q) (f x ρ w)) :
    DR K E te (fun ρ w => (sa ρ w).bind fun x w1 => f x ρ w1) := by
  intro H0 F H ι w σ ρ d l
  show Meets _ _ ((sa ρ w).bind fun x w1 => f x ρ w1)
  cases e : sa ρ w with
  | stuck => trivial
  | exc x w1 => exact fun q Q => he _ _ _ (ha.exc d l e q _)
  | ok x w1 =>
    show Meets _ _ (f x ρ w1)
    cases e2 : f x ρ w1 with
    | stuck => trivial
    | exc y w2 =>
      intro q Q
      refine he _ _ _ (ha.ok d l e fun v F1 H1 ι1 s1 d1 r1 => ?_)
      have z := hk H0 F1 H1 ι1 w1 σ ρ v x d1 (l.mono s1) r1
      rw [e2] at z
      exact z (q.step s1) Q
    | ok y w2 =>
      intro Q q
      refine he _ _ _ (ha.ok d l e fun v F1 H1 ι1 s1 d1 r1 => ?_)
      have z := hk H0 F1 H1 ι1 w1 σ ρ v x d1 (l.mono s1) r1
      rw [e2] at z
      exact z Q (OkV.step s1 q)
end

/-! ### constants, names -/
def cst (d : D) : SemE := fun _ w => .ok (.dat d) w
def var (i : Nat) : SemE := fun ρ w => match ρ[i]? with
  | some (.dat d) => .ok (.dat d) w
  | some (.own c) => .ok (.vw c) w
  | _ => .stuck
section
variable {X : Cx} {E : XK}
theorem okv_now {K : PySem.W.Frag} {F H : Hp} {ι : List Addr} {x : Val} {w : W} {Q : VK} {v : V} (q : OkV K F H ι x w Q) (d : Wd K F H ι w) (r : RepV K F H ι v x) : Q v H := q v F H ι Stp.refl d r
theorem dr_c {K : PySem.W.Frag} {v : V} {d : D} (r : ∀ F ι, Rep K F ι v d) : DR K E (tC v) (cst d) := fun _ F H ι w σ ρ dd l Q q => okv_now q dd (r F ι)
theorem de_int {i j pos} : DE X E (.Constant (.int i) j pos) (tC (.int i)) (cst (.int i)) := ⟨pe_int, dr_c fun _ _ => .int i⟩
theorem de_bl {b j pos} : DE X E (.Constant (.bool b) j pos) (tC (.bl b)) (cst (.bl b)) := ⟨pe_bl, dr_c fun _ _ => .bl b⟩
theorem de_non {j pos} : DE X E (.Constant .none j pos) (tC .non) (cst .non) := ⟨pe_non, dr_c fun _ _ => .non⟩
theorem de_str {x j pos} : DE X E (.Constant (.str x) j pos) (tC (.str x)) (cst (.str x)) := ⟨pe_str, dr_c fun _ _ => .str x⟩
/-- a module's constant -/
theorem de_glob {x : Str} {v : V} {d : D} {u : Value} {pos : Pos} (hm : X.mg x = some u) (r : RelV v u) (rd : ∀ F ι, Rep X.K F ι v d) (hg : Gl X x := by rfl) (hd : (x == ("__debug__" : Str)) = false := by decide) : DE X E (.Name x pos) (tC v) (cst d) := ⟨pe_glob hg hm r hd, dr_c rd⟩
theorem dr_var {K : PySem.W.Frag} (i : Nat) : DR K E (tVar i) (var i) := by
  intro H0 F H ι w σ ρ dd l
  unfold var
  cases e : ρ[i]? with
  | none => trivial
  | some t =>
    have z := l.at_ i t e
    cases t with
    | non => trivial
    | dat d =>
      obtain ⟨v, h, r⟩ := z
      exact fun Q q => ⟨v, h, okv_now q dd r⟩
    | own c =>
      obtain ⟨p, h, h0, h1, h2, h3⟩ := z
      exact fun Q q => ⟨.ref p, h, okv_now q dd ⟨p, rfl, h1, h2, h3⟩⟩
theorem dv (i : Nat) {x : Str} {pos : Pos} (hN : X.N[i]? = some x := by rfl) (hv : Vis X.env.scope x := by first | exact Or.inl rfl | exact Or.inr (Or.inl rfl) | exact Or.inr (Or.inr rfl)) (hd : (x == ("__debug__" : Str)) = false := by decide)
    (hcd : (x == ("__classdict__" : Str)) = false := by decide) : DE X E (.Name x pos) (tVar i) (var i) := ⟨pe_var hN hv hd hcd, dr_var i⟩
end

/-! ### what a value looks like at the top -/
def Cell.look : Cell → Option D
  | .lst ds => some (.lst ds)
  | .dct es => some (.dct es)
  | .obj c fs => some (.obj c fs)
  | .dead => none
/-- a value as plain data, through a pointer or a look -/
def Val.d (w : W) : Val → Option D
  | .dat (.ptr n) => (w[n]?).bind Cell.look
  | .dat d => some d
  | .vw c => c.look
/-- v looks in H as d, at its top -/
def RepS (K : PySem.W.Frag) (F H : Hp) (ι : List Addr) (v : V) : D → Prop
  | .lst ds => ∃ a xs, v = .ref a ∧ H a = some (.lst xs) ∧ RepA K F ι xs ds
  | .dct es => ∃ a kvs, v = .ref a ∧ H a = some (.dK kvs) ∧ RepK K F ι kvs es
  | .obj c es => ∃ a dx fs, v = .ref a ∧ H a = some (.ins (He.ga K c) dx fs) ∧ RepF K F ι fs es
  | d => Rep K F ι v d
theorem CellAt.look {K : PySem.W.Frag} {F H : Hp} {ι : List Addr} {a : Addr} {c : Cell} {d : D} (h : CellAt K F H ι a c) (e : c.look = some d) : RepS K F H ι (.ref a) d := by
  cases c with
  | lst ds => cases e; obtain ⟨xs, h1, h2⟩ := h; exact ⟨a, xs, rfl, h1, h2⟩
  | dct ds => cases e; obtain ⟨xs, h1, h2⟩ := h; exact ⟨a, xs, rfl, h1, h2⟩
  | obj ds => cases e; obtain ⟨dx, xs, h1, h2⟩ := h; exact ⟨a, dx, xs, rfl, h1, h2⟩
  | dead => cases e
theorem Rep.toS {K : PySem.W.Frag} {F H : Hp} {ι : List Addr} {v : V} {d : D} (x : Ex F H) (r : Rep K F ι v d) : RepS K F H ι v d := by
  cases r with
  | lst h r => exact ⟨_, _, rfl, x _ _ h, r⟩
  | dct h r => exact ⟨_, _, rfl, x _ _ h, r⟩
  | obj h r => exact ⟨_, _, _, rfl, x _ _ h, r⟩
  | non => exact .non
  | bl b => exact .bl b
  | int i => exact .int i
  | str z => exact .str z
  | tup h r => exact .tup h r
  | ptr h => exact .ptr h
  | scr h => exact .scr h
theorem RepV.toS {K : PySem.W.Frag} {F H : Hp} {ι : List Addr} {v : V} {x : Val} {w : W} {d : D} (r : RepV K F H ι v x) (wd : Wd K F H ι w) (e : x.d w = some d) : RepS K F H ι v d := by
  cases x with
  | vw c =>
    obtain ⟨p, rfl, h1, h2, h3⟩ := r
    exact h3.look e
  | dat y =>
    cases y with
    | ptr n =>
      have r' : Rep K F ι v (.ptr n) := r
      cases r' with
      | @ptr a _ h =>
        have e : (w[n]?).bind Cell.look = some d := e
        cases e2 : w[n]? with
        | none => rw [e2] at e; cases e
        | some c =>
          rw [e2] at e
          exact (wd.cel n a c h e2).2.look e
    | _ => cases e; exact Rep.toS wd.ex r
theorem RepS.mono {K : PySem.W.Frag} {F H F' H' : Hp} {ι ι' : List Addr} {v : V} {d : D} (nc : ∀ a o, v = .ref a → H a = some o → H' a = some o) (s : Stp F H ι F' H' ι') (r : RepS K F H ι v d) : RepS K F' H' ι' v d := by
  cases d with
  | lst ds => obtain ⟨a, xs, e, h, r⟩ := r; exact ⟨a, xs, e, nc a _ e h, r.mono s.ex s.ix⟩
  | dct ds => obtain ⟨a, xs, e, h, r⟩ := r; exact ⟨a, xs, e, nc a _ e h, r.mono s.ex s.ix⟩
  | obj c ds => obtain ⟨a, dx, xs, e, h, r⟩ := r; exact ⟨a, dx, xs, e, nc a _ e h, r.mono s.ex s.ix⟩
  | non => exact Rep.mono s.ex s.ix r
  | bl b => exact Rep.mono s.ex s.ix r
  | int i => exact Rep.mono s.ex s.ix r
  | str z => exact Rep.mono s.ex s.ix r
  | tup _ => exact Rep.mono s.ex s.ix r
  | ptr _ => exact Rep.mono s.ex s.ix r
  | scr _ => exact Rep.mono s.ex s.ix r

/-! ### operators -/
/-- r keeps what g tells -/
def RelOp (K : PySem.W.Frag) (r : R2) (g : D → D → Option D) : Prop :=
  ∀ F H ι (w : W) vx vy x y z, Wd K F H ι w → RepS K F H ι vx x → RepS K F H ι vy y → g x y = some z → ∀ Q : VK, OkV K F H ι (.dat z) w Q → r vx vy H Q
def op2 (g : D → D → Option D) (x y : Val) (w : W) : R Val := match x.d w, y.d w with
  | some a, some b => (match g a b with
    | some z => .ok (.dat z) w
    | none => .stuck)
  | _, _ => .stuck
def bin (g : D → D → Option D) (sa sb : SemE) : SemE := fun ρ w => (sa ρ w).bind fun x w1 => (sb ρ w1).bind fun y w2 => op2 g x y w2
theorem dr_bin {K : PySem.W.Frag} {E : XK} {r : R2} {g : D → D → Option D} {ta tb : TE} {sa sb : SemE} (hr : RelOp K r g) (ha : DR K E ta sa) (hb : DR K E tb sb) : DR K E (tOp r ta tb) (bin g sa sb) := by
  refine DR.bind (f := fun x ρ w1 => (sb ρ w1).bind fun y w2 => op2 g x y w2) (k := fun x σ H1 Q => tb σ H1 fun y H2 => r x y H2 Q) ha (fun σ H Q q => q) ?_
  intro H0 F H ι w σ ρ v x d l rx
  show Meets _ _ ((sb ρ w).bind _)
  cases e : sb ρ w with
  | stuck => trivial
  | exc y w1 => exact fun q Q => hb.exc d l e q _
  | ok y w1 =>
    show Meets _ _ (op2 g x y w1)
    unfold op2
    cases e1 : x.d w1 with
    | none => trivial
    | some a =>
      cases e2 : y.d w1 with
      | none => trivial
      | some b =>
        cases e3 : g a b with
        | none => simp only [e3]; trivial
        | some z =>
          simp only [e3]
          intro Q q
          refine hb.ok d l e fun u F1 H1 ι1 s1 d1 r1 => ?_
          exact hr F1 H1 ι1 w1 v u a b z d1 ((rx.mono s1).toS d1 e1) (r1.toS d1 e2) e3 Q (OkV.step s1 q)
theorem de_bin {X : Cx} {E : XK} {r : R2} {g : D → D → Option D} {op : Operator} {a b : Expr} {ta tb : TE} {sa sb : SemE} {pos : Pos} (ho : OpR X (binaryOp op) r) (hr : RelOp X.K r g) (ha : DE X E a ta sa) (hb : DE X E b tb sb) :
    DE X E (.BinOp a op b pos) (tOp r ta tb) (bin g sa sb) := ⟨pe_op ho ha.pe hb.pe, dr_bin hr ha.dr hb.dr⟩
theorem de_cmp {X : Cx} {E : XK} {r : R2} {g : D → D → Option D} {op : CmpOp} {a b : Expr} {ta tb : TE} {sa sb : SemE} {pos : Pos} (ho : OpR X (compareOp op) r) (hr : RelOp X.K r g) (ha : DE X E a ta sa) (hb : DE X E b tb sb)
    (hm : behindInMarks op b = false := by first | exact nobehind _ (by decide) (by decide) | rfl) : DE X E (.Compare a [op] [b] pos) (tOp r ta tb) (bin g sa sb) := ⟨pe_cmpR ho ha.pe hb.pe hm, dr_bin hr ha.dr hb.dr⟩
/-- a value that is a bool -/
def asB (s : SemE) : SemT := fun ρ w => (s ρ w).bind fun x w1 => match x with
  | .dat (.bl b) => .ok b w1
  | _ => .stuck
theorem drt_test {K : PySem.W.Frag} {E : XK} {te : TE} {s : SemE} (h : DR K E te s) : DRT K E (tTest te) (asB s) := by
  intro H0 F H ι w σ ρ d l
  unfold asB
  cases e : s ρ w with
  | stuck => trivial
  | exc x w1 => exact fun q Q => h.exc d l e q _
  | ok x w1 =>
    cases x with
    | vw c => trivial
    | dat y =>
      cases y with
      | bl b =>
        intro Q q
        refine h.ok d l e fun v F1 H1 ι1 s1 d1 r1 => ?_
        have r2 : Rep K F1 ι1 v (.bl b) := r1
        cases r2
        exact ⟨b, rfl, q F1 H1 ι1 s1 d1⟩
      | _ => trivial
theorem dt_cmp {X : Cx} {E : XK} {r : R2} {g : D → D → Option D} {op : CmpOp} {a b : Expr} {ta tb : TE} {sa sb : SemE} {pos : Pos} (ho : OpR X (compareOp op) r) (hr : RelOp X.K r g) (ha : DE X E a ta sa) (hb : DE X E b tb sb)
    (hm : behindInMarks op b = false := by first | exact nobehind _ (by decide) (by decide) | rfl) : DT X E (.Compare a [op] [b] pos) (tTest (tOp r ta tb)) (asB (bin g sa sb)) := ⟨pt_cmpR ho ha.pe hb.pe hm, drt_test (dr_bin hr ha.dr hb.dr)⟩
/-- a < b < c -/
def chain (g g' : D → D → Option D) (sa sb sc : SemE) : SemE := fun ρ w => (sa ρ w).bind fun x w1 => (sb ρ w1).bind fun y w2 => (op2 g x y w2).bind fun z w3 => match z with
  | .dat (.bl true) => (sc ρ w3).bind fun u w4 => op2 g' y u w4
  | .dat (.bl false) => .ok (.dat (.bl false)) w3
  | _ => .stuck
theorem dr_chain {K : PySem.W.Frag} {E : XK} {r r' : R2} {g g' : D → D → Option D} {ta tb tc : TE} {sa sb sc : SemE} (hr : RelOp K r g) (hr' : RelOp K r' g') (ha : DR K E ta sa) (hb : DR K E tb sb) (hc : DR K E tc sc) : DR K E (tChain r r' ta tb tc) (chain g g' sa sb sc) := by
  refine DR.bind (f := fun x ρ w1 => (sb ρ w1).bind fun y w2 => (op2 g x y w2).bind fun z w3 => match z with
    | .dat (.bl true) => (sc ρ w3).bind fun u w4 => op2 g' y u w4
    | .dat (.bl false) => .ok (.dat (.bl false)) w3
    | _ => .stuck) (k := fun x σ H1 Q => tb σ H1 fun y H2 => r x y H2 fun z H3 => ∃ k, z = .bl k ∧ (if k = true then tc σ H3 fun w' H4 => r' y w' H4 Q else Q (.bl false) H3)) ha (fun σ H Q q => q) ?_
  intro H0 F H ι w σ ρ v x d l rx
  show Meets _ _ ((sb ρ w).bind _)
  cases e : sb ρ w with
  | stuck => trivial
  | exc y w1 => exact fun q Q => hb.exc d l e q _
  | ok y w1 =>
    show Meets _ _ ((op2 g x y w1).bind _)
    unfold op2
    cases e1 : x.d w1 with
    | none => trivial
    | some a =>
      cases e2 : y.d w1 with
      | none => trivial
      | some b =>
        cases e3 : g a b with
        | none => simp only [e3, R.bind]; trivial
        | some z =>
          simp only [e3]
          have base : ∀ (k : Bool), z = .bl k → ∀ (G : V → V → L2.St → Hp → VK → Prop) (Q : VK), (∀ u F1 H1 ι1, Stp F H ι F1 H1 ι1 → Wd K F1 H1 ι1 w1 → RepV K F1 H1 ι1 u y → G v u σ H1 Q) →
              (∀ u H1, G v u σ H1 Q → (if k = true then tc σ H1 fun w' H4 => r' u w' H4 Q else Q (.bl false) H1)) → tb σ H fun y H2 => r v y H2 fun z H3 => ∃ k, z = .bl k ∧ (if k = true then tc σ H3 fun w' H4 => r' y w' H4 Q else Q (.bl false) H3) := by
            intro k ez G Q hG hG2
            subst ez
            refine hb.ok d l e fun u F1 H1 ι1 s1 d1 r1 => ?_
            refine hr F1 H1 ι1 w1 v u a b (.bl k) d1 ((rx.mono s1).toS d1 e1) (r1.toS d1 e2) e3 _ fun z' F2 H2 ι2 s2 d2 r2 => ?_
            have r3 : Rep K F2 ι2 z' (.bl k) := r2
            cases r3
            exact ⟨k, rfl, hG2 _ _ (hG u F2 H2 ι2 (s1.trans s2) d2 (r1.mono s2))⟩
          cases z with
          | bl k =>
            cases k with
            | false =>
              show ∀ Q : VK, _
              intro Q q
              exact base false rfl (fun _ u σ H1 Q => Q (.bl false) H1) Q (fun u F1 H1 ι1 s1 d1 r1 => q (.bl false) F1 H1 ι1 s1 d1 (.bl false)) fun u H1 q => by rw [if_neg Bool.false_ne_true]; exact q
            | true =>
              show Meets _ _ ((sc ρ w1).bind _)
              cases e4 : sc ρ w1 with
              | stuck => trivial
              | exc c w2 =>
                exact fun q Q => base true rfl (fun _ u σ H1 Q => tc σ H1 fun w' H4 => r' u w' H4 Q) Q (fun u F1 H1 ι1 s1 d1 r1 => hc.exc d1 (l.mono s1) e4 (q.step s1) _) fun u H1 q => by rw [if_pos rfl]; exact q
              | ok c w2 =>
                show Meets _ _ (op2 g' y c w2)
                unfold op2
                cases e5 : y.d w2 with
                | none => trivial
                | some b' =>
                  cases e6 : c.d w2 with
                  | none => trivial
                  | some c' =>
                    cases e7 : g' b' c' with
                    | none => simp only [e7]; trivial
                    | some z' =>
                      simp only [e7]
                      intro Q q
                      refine base true rfl (fun _ u σ H1 Q => tc σ H1 fun w' H4 => r' u w' H4 Q) Q (fun u F1 H1 ι1 s1 d1 r1 => ?_) fun u H1 q => by rw [if_pos rfl]; exact q
                      refine hc.ok d1 (l.mono s1) e4 fun cv F2 H2 ι2 s2 d2 r2 => ?_
                      exact hr' F2 H2 ι2 w2 u cv b' c' z' d2 ((r1.mono s2).toS d2 e5) (r2.toS d2 e6) e7 Q (OkV.step (s1.trans s2) q)
          | _ => trivial
theorem de_chain {X : Cx} {E : XK} {r r' : R2} {g g' : D → D → Option D} {op op' : CmpOp} {a b c : Expr} {ta tb tc : TE} {sa sb sc : SemE} {pos : Pos} (ho : OpR X (compareOp op) r) (hr : RelOp X.K r g) (ho' : OpR X (compareOp op') r') (hr' : RelOp X.K r' g')
    (ha : DE X E a ta sa) (hb : DE X E b tb sb) (hc : DE X E c tc sc) (hm : lastMarks [op, op'] [b, c] = false := by with_unfolding_all rfl) : DE X E (.Compare a [op, op'] [b, c] pos) (tChain r r' ta tb tc) (chain g g' sa sb sc) :=
  ⟨pe_chain ho ho' ha.pe hb.pe hc.pe hm, dr_chain hr hr' ha.dr hb.dr hc.dr⟩
theorem dt_chain {X : Cx} {E : XK} {r r' : R2} {g g' : D → D → Option D} {op op' : CmpOp} {a b c : Expr} {ta tb tc : TE} {sa sb sc : SemE} {pos : Pos} (ho : OpR X (compareOp op) r) (hr : RelOp X.K r g) (ho' : OpR X (compareOp op') r') (hr' : RelOp X.K r' g')
    (ha : DE X E a ta sa) (hb : DE X E b tb sb) (hc : DE X E c tc sc) (hm : lastMarks [op, op'] [b, c] = false := by with_unfolding_all rfl) : DT X E (.Compare a [op, op'] [b, c] pos) (tTest (tChain r r' ta tb tc)) (asB (chain g g' sa sb sc)) :=
  ⟨pt_chain ho ho' ha.pe hb.pe hc.pe hm, drt_test (dr_chain hr hr' ha.dr hb.dr hc.dr)⟩
/-! ### if else, and, or, not -/
def ifE (c : SemT) (sa sb : SemE) : SemE := fun ρ w => (c ρ w).bind fun b w1 => if b then sa ρ w1 else sb ρ w1
/-- behind a test -/
theorem DRT.bind {K : PySem.W.Frag} {E : XK} {tc : TT} {te : TE} {sc : SemT} {f : Bool → SemE} {k : Bool → L2.St → Hp → VK → Prop} (hc : DRT K E tc sc) (he : ∀ σ H Q, tc σ H (fun b H1 => k b σ H1 Q) → te σ H Q)
    (hk : ∀ b, DR K E (k b) (f b)) : DR K E te (fun ρ w => (sc ρ w).bind fun b w1 => f b ρ w1) := by
  intro H0 F H ι w σ ρ d l
  show Meets _ _ ((sc ρ w).bind fun b w1 => f b ρ w1)
  cases e : sc ρ w with
  | stuck => trivial
  | exc x w1 => exact fun q Q => he _ _ _ (hc.exc d l e q _)
  | ok b w1 =>
    show Meets _ _ (f b ρ w1)
    cases e2 : f b ρ w1 with
    | stuck => trivial
    | exc y w2 => exact fun q Q => he _ _ _ (hc.ok d l e fun F1 H1 ι1 s1 d1 => (hk b).exc d1 (l.mono s1) e2 (q.step s1) Q)
    | ok y w2 => exact fun Q q => he _ _ _ (hc.ok d l e fun F1 H1 ι1 s1 d1 => (hk b).ok d1 (l.mono s1) e2 (OkV.step s1 q))
theorem DRT.bindT {K : PySem.W.Frag} {E : XK} {tc : TT} {te : TT} {sc : SemT} {f : Bool → SemT} {k : Bool → L2.St → Hp → (Bool → Hp → Prop) → Prop} (hc : DRT K E tc sc) (he : ∀ σ H Q, tc σ H (fun b H1 => k b σ H1 Q) → te σ H Q)
    (hk : ∀ b, DRT K E (k b) (f b)) : DRT K E te (fun ρ w => (sc ρ w).bind fun b w1 => f b ρ w1) := by
  intro H0 F H ι w σ ρ d l
  show Meets _ _ ((sc ρ w).bind fun b w1 => f b ρ w1)
  cases e : sc ρ w with
  | stuck => trivial
  | exc x w1 => exact fun q Q => he _ _ _ (hc.exc d l e q _)
  | ok b w1 =>
    show Meets _ _ (f b ρ w1)
    cases e2 : f b ρ w1 with
    | stuck => trivial
    | exc y w2 => exact fun q Q => he _ _ _ (hc.ok d l e fun F1 H1 ι1 s1 d1 => (hk b).exc d1 (l.mono s1) e2 (q.step s1) Q)
    | ok y w2 => exact fun Q q => he _ _ _ (hc.ok d l e fun F1 H1 ι1 s1 d1 => (hk b).ok d1 (l.mono s1) e2 (OkT.step s1 q))
theorem drt_c {K : PySem.W.Frag} {E : XK} (b : Bool) : DRT K E (fun _ H Q => Q b H) (fun _ w => .ok b w) := fun _ F H ι w σ ρ d l Q q => q F H ι Stp.refl d
theorem DRT.of {K : PySem.W.Frag} {E : XK} {t t' : TT} {s : SemT} (h : DRT K E t s) (e : ∀ σ H Q, t σ H Q → t' σ H Q) : DRT K E t' s := by
  intro H0 F H ι w σ ρ d l
  have z := h H0 F H ι w σ ρ d l
  cases q : s ρ w with
  | stuck => trivial
  | exc x w1 => rw [q] at z; exact fun a Q => e _ _ _ (z a Q)
  | ok x w1 => rw [q] at z; exact fun Q a => e _ _ _ (z Q a)
theorem DR.of {K : PySem.W.Frag} {E : XK} {t t' : TE} {s : SemE} (h : DR K E t s) (e : ∀ σ H Q, t σ H Q → t' σ H Q) : DR K E t' s := by
  intro H0 F H ι w σ ρ d l
  have z := h H0 F H ι w σ ρ d l
  cases q : s ρ w with
  | stuck => trivial
  | exc x w1 => rw [q] at z; exact fun a Q => e _ _ _ (z a Q)
  | ok x w1 => rw [q] at z; exact fun Q a => e _ _ _ (z Q a)
theorem dr_if {K : PySem.W.Frag} {E : XK} {tc : TT} {ta tb : TE} {c : SemT} {sa sb : SemE} (hc : DRT K E tc c) (ha : DR K E ta sa) (hb : DR K E tb sb) : DR K E (tIf tc ta tb) (ifE c sa sb) := by
  refine DRT.bind (f := fun b ρ w1 => if b then sa ρ w1 else sb ρ w1) (k := fun c σ H1 Q => if c = true then ta σ H1 Q else tb σ H1 Q) hc (fun _ _ _ q => q) fun b => ?_
  cases b with
  | true => exact ha.of fun _ _ _ q => by rw [if_pos rfl]; exact q
  | false => exact hb.of fun _ _ _ q => by rw [if_neg Bool.false_ne_true]; exact q
theorem de_if {X : Cx} {E : XK} {c a b : Expr} {tc : TT} {ta tb : TE} {sc : SemT} {sa sb : SemE} {pos : Pos} (hc : DT X E c tc sc) (ha : DE X E a ta sa) (hb : DE X E b tb sb) : DE X E (.IfExp c a b pos) (tIf tc ta tb) (ifE sc sa sb) := ⟨pe_ifExp hc.pt ha.pe hb.pe, dr_if hc.dr ha.dr hb.dr⟩
def andT (a b : SemT) : SemT := fun ρ w => (a ρ w).bind fun c w1 => if c then b ρ w1 else .ok false w1
def orT (a b : SemT) : SemT := fun ρ w => (a ρ w).bind fun c w1 => if c then .ok true w1 else b ρ w1
def notT (a : SemT) : SemT := fun ρ w => (a ρ w).bind fun c w1 => .ok (!c) w1
theorem drt_and {K : PySem.W.Frag} {E : XK} {ta tb : TT} {sa sb : SemT} (ha : DRT K E ta sa) (hb : DRT K E tb sb) : DRT K E (tAnd ta tb) (andT sa sb) := by
  refine DRT.bindT (f := fun c ρ w1 => if c then sb ρ w1 else .ok false w1) (k := fun c σ H1 Q => if c = true then tb σ H1 Q else Q false H1) ha (fun _ _ _ q => q) fun b => ?_
  cases b with
  | true => exact hb.of fun _ _ _ q => by rw [if_pos rfl]; exact q
  | false => exact (drt_c false).of fun _ _ _ q => by rw [if_neg Bool.false_ne_true]; exact q
theorem drt_or {K : PySem.W.Frag} {E : XK} {ta tb : TT} {sa sb : SemT} (ha : DRT K E ta sa) (hb : DRT K E tb sb) : DRT K E (tOr ta tb) (orT sa sb) := by
  refine DRT.bindT (f := fun c ρ w1 => if c then .ok true w1 else sb ρ w1) (k := fun c σ H1 Q => if c = true then Q true H1 else tb σ H1 Q) ha (fun _ _ _ q => q) fun b => ?_
  cases b with
  | true => exact (drt_c true).of fun _ _ _ q => by rw [if_pos rfl]; exact q
  | false => exact hb.of fun _ _ _ q => by rw [if_neg Bool.false_ne_true]; exact q
theorem drt_not {K : PySem.W.Frag} {E : XK} {ta : TT} {sa : SemT} (ha : DRT K E ta sa) : DRT K E (tNot ta) (notT sa) :=
  DRT.bindT (f := fun c ρ w1 => .ok (!c) w1) (k := fun c σ H1 Q => Q (!c) H1) ha (fun _ _ _ q => q) fun b => drt_c (!b)
section
variable {X : Cx} {E : XK} {a b : Expr} {rest : List Expr} {pos : Pos} {ta tb : TT} {sa sb : SemT}
theorem DW.dt {e : Expr} (h : DW X E e ta sa) : DT X E e ta sa := ⟨h.pw.pt, h.dr⟩
theorem dw_and1 (ha : DT X E a ta sa) : DW X E (.BoolOp .And [a] pos) ta sa := ⟨pw_and1 ha.pt, ha.dr⟩
theorem dw_or1 (ha : DT X E a ta sa) : DW X E (.BoolOp .Or [a] pos) ta sa := ⟨pw_or1 ha.pt, ha.dr⟩
theorem dw_and (ha : DT X E a ta sa) (hb : DW X E (.BoolOp .And (b :: rest) pos) tb sb) : DW X E (.BoolOp .And (a :: b :: rest) pos) (tAnd ta tb) (andT sa sb) := ⟨pw_and ha.pt hb.pw, drt_and ha.dr hb.dr⟩
theorem dw_or (ha : DT X E a ta sa) (hb : DW X E (.BoolOp .Or (b :: rest) pos) tb sb) : DW X E (.BoolOp .Or (a :: b :: rest) pos) (tOr ta tb) (orT sa sb) := ⟨pw_or ha.pt hb.pw, drt_or ha.dr hb.dr⟩
theorem dt_not (ha : DT X E a ta sa) : DT X E (.UnaryOp .Not a pos) (tNot ta) (notT sa) := ⟨pt_not ha.pt, drt_not ha.dr⟩
end
/-- and, or of bools as values -/
def andE (a b : SemE) : SemE := fun ρ w => (asB a ρ w).bind fun c w1 => if c then b ρ w1 else .ok (.dat (.bl false)) w1
def orE (a b : SemE) : SemE := fun ρ w => (asB a ρ w).bind fun c w1 => if c then .ok (.dat (.bl true)) w1 else b ρ w1
def notE (a : SemE) : SemE := fun ρ w => (asB a ρ w).bind fun c w1 => .ok (.dat (.bl (!c))) w1
section
variable {X : Cx} {E : XK} {a b : Expr} {rest : List Expr} {pos : Pos} {ta tb : TE} {sa sb : SemE}
theorem de_one {op} (h : DE X E a ta sa) : DE X E (.BoolOp op [a] pos) ta sa := ⟨pe_one h.pe, h.dr⟩
theorem de_and (ha : DE X E a ta sa) (hb : DE X E (.BoolOp .And (b :: rest) pos) tb sb) : DE X E (.BoolOp .And (a :: b :: rest) pos) (tAndV ta tb) (andE sa sb) := ⟨pe_and ha.pe hb.pe, by
  refine DRT.bind (f := fun c ρ w1 => if c then sb ρ w1 else .ok (.dat (.bl false)) w1) (k := fun c σ H1 Q => if c = true then tb σ H1 Q else Q (.bl false) H1) (drt_test ha.dr) (fun _ _ _ q => q) fun b => ?_
  cases b with
  | true => exact hb.dr.of fun _ _ _ q => by rw [if_pos rfl]; exact q
  | false => exact (dr_c (v := .bl false) (d := .bl false) fun _ _ => .bl false).of fun _ _ _ q => by rw [if_neg Bool.false_ne_true]; exact q⟩
theorem de_or (ha : DE X E a ta sa) (hb : DE X E (.BoolOp .Or (b :: rest) pos) tb sb) : DE X E (.BoolOp .Or (a :: b :: rest) pos) (tOrV ta tb) (orE sa sb) := ⟨pe_or ha.pe hb.pe, by
  refine DRT.bind (f := fun c ρ w1 => if c then .ok (.dat (.bl true)) w1 else sb ρ w1) (k := fun c σ H1 Q => if c = true then Q (.bl true) H1 else tb σ H1 Q) (drt_test ha.dr) (fun _ _ _ q => q) fun b => ?_
  cases b with
  | true => exact (dr_c (v := .bl true) (d := .bl true) fun _ _ => .bl true).of fun _ _ _ q => by rw [if_pos rfl]; exact q
  | false => exact hb.dr.of fun _ _ _ q => by rw [if_neg Bool.false_ne_true]; exact q⟩
theorem de_not (ha : DE X E a ta sa) : DE X E (.UnaryOp .Not a pos) (tNotV ta) (notE sa) := ⟨pe_not ha.pe,
  DRT.bind (f := fun c ρ w1 => .ok (.dat (.bl (!c))) w1) (k := fun c σ H1 Q => Q (.bl (!c)) H1) (drt_test ha.dr) (fun _ _ _ q => q) fun b => (dr_c (v := .bl (!b)) (d := .bl (!b)) fun _ _ => .bl (!b))⟩
/-- a value that is a bool, as a test -/
theorem dt_val (h : DE X E a ta sa) (he : ∀ whole, isTrue a X.env whole = (do let v ← whole; standAt a.pos; holding [v] (truthy v)) := by intro _; rfl) : DT X E a (tB ta) (asB sa) := ⟨pt_val h.pe he, drt_test h.dr⟩
end
/-! ### arguments, displays -/
def nilA : SemA := fun _ w => .ok [] w
def consA (a : SemE) (r : SemA) : SemA := fun ρ w => (a ρ w).bind fun x w1 => match x with
  | .dat d => (r ρ w1).bind fun ds w2 => .ok (d :: ds) w2
  | .vw _ => .stuck
section
variable {X : Cx} {E : XK} {e : Expr} {es : List Expr} {te : TE} {ta : TA} {s : SemE} {sa : SemA} {pos : Pos}
theorem da_nil : DA X E [] tNil nilA := ⟨pa_nil, fun _ F H ι w σ ρ d l Q q => q [] F H ι Stp.refl d .nil⟩
theorem dra_cons {K : PySem.W.Frag} (ha : DR K E te s) (hr : DRA K E ta sa) : DRA K E (tCons te ta) (consA s sa) := by
  intro H0 F H ι w σ ρ d l
  unfold consA
  cases e : s ρ w with
  | stuck => trivial
  | exc x w1 => exact fun q Q => ha.exc d l e q _
  | ok x w1 =>
    cases x with
    | vw c => trivial
    | dat y =>
      show Meets _ _ ((sa ρ w1).bind _)
      cases e2 : sa ρ w1 with
      | stuck => trivial
      | exc x w2 => exact fun q Q => ha.ok d l e fun v F1 H1 ι1 s1 d1 r1 => hr.exc d1 (l.mono s1) e2 (q.step s1) _
      | ok ds w2 =>
        intro Q q
        refine ha.ok d l e fun v F1 H1 ι1 s1 d1 r1 => hr.ok d1 (l.mono s1) e2 fun vs F2 H2 ι2 s2 d2 r2 => ?_
        exact q (v :: vs) F2 H2 ι2 (s1.trans s2) d2 (.cons (Rep.mono s2.ex s2.ix r1) r2)
theorem da_cons (ha : DE X E e te s) (hr : DA X E es ta sa) (hs : starEach (e :: es) X.env = (false, eval e X.env) :: starEach es X.env := by rfl) : DA X E (e :: es) (tCons te ta) (consA s sa) := ⟨pa_cons ha.pe hr.pa hs, dra_cons ha.dr hr.dr⟩
/-- a new thing made of arguments -/
def mkA (sa : SemA) (f : List D → Option D) : SemE := fun ρ w => (sa ρ w).bind fun ds w1 => match f ds with
  | some d => .ok (.dat d) w1
  | none => .stuck
theorem dr_mk {K : PySem.W.Frag} {t : TE} {f : List D → Option D} {g : List V → Hp → VK → Prop} (ha : DRA K E ta sa) (ht : ∀ σ H Q, ta σ H (fun xs H1 => g xs H1 Q) → t σ H Q)
    (hg : ∀ F H ι (w : W) xs ds z, Wd K F H ι w → RepA K F ι xs ds → f ds = some z → ∀ Q : VK, OkV K F H ι (.dat z) w Q → g xs H Q) : DR K E t (mkA sa f) := by
  intro H0 F H ι w σ ρ d l
  unfold mkA
  cases e : sa ρ w with
  | stuck => trivial
  | exc x w1 => exact fun q Q => ht _ _ _ (ha.exc d l e q _)
  | ok ds w1 =>
    show Meets _ _ (match f ds with | some d => (.ok (.dat d) w1 : R Val) | none => .stuck)
    cases e2 : f ds with
    | none => trivial
    | some z => exact fun Q q => ht _ _ _ (ha.ok d l e fun xs F1 H1 ι1 s1 d1 r1 => hg F1 H1 ι1 w1 xs ds z d1 r1 e2 Q (OkV.step s1 q))
def most : Nat := 16777216
theorem most_le {n : Nat} (h : n ≤ most) : n ≤ sizeLine := by rw [sizeLine_eq]; exact h
def lstF (ds : List D) : Option D := if ds.length ≤ most then some (.lst ds) else none
def tupF (ds : List D) : Option D := if ds.length ≤ most then some (.tup ds) else none
theorem okv_new {K : PySem.W.Frag} {F H : Hp} {ι : List Addr} {w : W} {z : D} {Q : VK} {o : HO} {p : Addr} (d : Wd K F H ι w) (q : OkV K F H ι (.dat z) w Q) (hp : H p = none) (r : Rep K (upd F p o) ι (.ref p) z) : Q (.ref p) (upd H p o) :=
  q (.ref p) (upd F p o) (upd H p o) ι (Stp.fresh hp (d.free hp)) (d.fresh hp) r
theorem RepA.up {K : PySem.W.Frag} {F H : Hp} {ι : List Addr} {w : W} {p : Addr} {o : HO} {xs : List V} {ds : List D} (d : Wd K F H ι w) (hp : H p = none) (r : RepA K F ι xs ds) : RepA K (upd F p o) ι xs ds := r.mono (Ex.new (d.free hp)) fun _ _ h => h
theorem de_lst (ha : DA X E es ta sa) : DE X E (.List es pos) (tLst ta) (mkA sa lstF) := ⟨pe_lst ha.pa, by
  refine dr_mk (g := fun xs H1 Q => xs.length ≤ sizeLine ∧ ∀ p, H1 p = none → Q (.ref p) (upd H1 p (.lst xs))) ha.dr (fun _ _ _ q => q) fun F H ι w xs ds z d r e Q q => ?_
  unfold lstF at e
  split at e
  · rename_i h
    cases e
    exact ⟨by rw [r.length]; exact most_le h, fun p hp => okv_new d q hp (.lst upd_same (r.up d hp))⟩
  · cases e⟩
theorem de_tup {x1} (ha : DA X E es ta sa) : DE X E (.Tuple es x1 pos) (tTup ta) (mkA sa tupF) := ⟨pe_tup ha.pa, by
  refine dr_mk (g := fun xs H1 Q => xs.length ≤ sizeLine ∧ ∀ p, H1 p = none → Q (.ref p) (upd H1 p (.tup xs))) ha.dr (fun _ _ _ q => q) fun F H ι w xs ds z d r e Q q => ?_
  unfold tupF at e
  split at e
  · rename_i h
    cases e
    exact ⟨by rw [r.length]; exact most_le h, fun p hp => okv_new d q hp (.tup (SqT.of upd_same) (r.up d hp))⟩
  · cases e⟩
end
end DL

/-! Operators, built-ins. -/
namespace DL
open PySem PySem.Spec PyProof.Rows L2

abbrev rOr (r r' : R2) : R2 := fun x y H Q => r x y H Q ∨ r' x y H Q
section
variable {K : PySem.W.Frag}
/-! ### arithmetic -/
def addD : D → D → Option D
  | .int i, .int j => some (.int (i + j))
  | .str a, .str b => if a.length + b.length ≤ most then some (.str (a ++ b)) else none
  | .lst xs, .lst ys => if xs.length + ys.length ≤ most then some (.lst (xs ++ ys)) else none
  | .tup [], .tup _ => none
  | .tup xs, .tup ys => if xs.length + ys.length ≤ most then some (.tup (xs ++ ys)) else none
  | _, _ => none
def rAddS : R2 := fun x y H Q => ∃ i j, x = .str i ∧ y = .str j ∧ i.length + j.length ≤ sizeLine ∧ Q (.str (i ++ j)) H
def rAddD (K : PySem.W.Frag) : R2 := rOr (rI0 fun i j => .int (i + j)) (rOr rAddS (rOr rCat (rCatT K)))
theorem op_addD {X : Cx} : OpR X (binaryOp .Add) (rAddD X.K) := op_add.or (op_add_str.or (op_cat.or op_catT))
/-- the end of an operator whose answer is a flat value -/
theorem okv_flat {F H : Hp} {ι : List Addr} {w : W} {Q : VK} {v : V} {d : D} (wd : Wd K F H ι w) (q : OkV K F H ι (.dat d) w Q) (r : Rep K F ι v d) : Q v H := okv_now q wd r
theorem rel_add : RelOp K (rAddD K) addD := by
  intro F H ι w vx vy x y z wd rx ry e Q q
  unfold addD at e
  split at e
  · cases e; cases rx; cases ry
    exact .inl ⟨_, _, rfl, rfl, okv_flat wd q (.int _)⟩
  · cases rx; cases ry
    split at e
    · rename_i h
      cases e
      exact .inr (.inl ⟨_, _, rfl, rfl, most_le h, okv_flat wd q (.str _)⟩)
    · cases e
  · obtain ⟨a, xs, rfl, h1, r1⟩ := rx
    obtain ⟨b, ys, rfl, h2, r2⟩ := ry
    split at e
    · rename_i h
      cases e
      refine .inr (.inr (.inl ⟨a, b, xs, ys, rfl, rfl, h1, h2, by rw [r1.length, r2.length]; exact most_le h, fun p hp => okv_new wd q hp ?_⟩))
      exact .lst upd_same ((r1.append r2).up wd hp)
    · cases e
  · cases e
  · rename_i xs ys hne
    split at e
    · rename_i h
      cases e
      cases rx with
      | @tup a vs _ h1 r1 =>
      cases ry with
      | @tup b us _ h2 r2 =>
      refine .inr (.inr (.inr ⟨a, b, vs, us, rfl, rfl, ex_t wd.ex h1, ex_t wd.ex h2, fun z => ?_, by rw [r1.length, r2.length]; exact most_le h, fun z => ?_, fun _ p hp => okv_new wd q hp ?_⟩))
      · subst z
        cases r1
        exact hne rfl
      · subst z
        cases r2
        refine okv_flat wd q ?_
        rw [List.append_nil]
        exact .tup h1 r1
      · exact .tup (SqT.of upd_same) ((r1.append r2).up wd hp)
    · cases e
  · cases e
def intD (C : Int → Int → Bool) (g : Int → Int → Int) : D → D → Option D
  | .int i, .int j => if C i j then some (.int (g i j)) else none
  | _, _ => none
theorem rel_int {C : Int → Int → Prop} {C' : Int → Int → Bool} {g : Int → Int → Int} (hc : ∀ i j, C' i j = true → C i j) : RelOp K (rI C fun i j => .int (g i j)) (intD C' g) := by
  intro F H ι w vx vy x y z wd rx ry e Q q
  unfold intD at e
  split at e
  · cases rx; cases ry
    split at e
    · rename_i h
      cases e
      exact ⟨_, _, rfl, rfl, hc _ _ h, okv_flat wd q (.int _)⟩
    · cases e
  · cases e
def intD0 (g : Int → Int → Int) : D → D → Option D
  | .int i, .int j => some (.int (g i j))
  | _, _ => none
theorem rel_int0 {g : Int → Int → Int} : RelOp K (rI0 fun i j => .int (g i j)) (intD0 g) := by
  intro F H ι w vx vy x y z wd rx ry e Q q
  unfold intD0 at e
  split at e
  · cases rx; cases ry; cases e
    exact ⟨_, _, rfl, rfl, okv_flat wd q (.int _)⟩
  · cases e
abbrev subD : D → D → Option D := intD0 fun i j => i - j
theorem rel_sub : RelOp K (rI0 fun i j => .int (i - j)) subD := rel_int0
abbrev fdivD : D → D → Option D := intD (fun _ j => decide (0 < j ∧ j.natAbs.log2 < 9000)) fun i j => i / j
theorem rel_fdiv : RelOp K (rI CDivW fun i j => .int (i / j)) fdivD := rel_int fun i j h => by unfold CDivW; exact of_decide_eq_true h
abbrev modD : D → D → Option D := intD (fun _ j => decide (0 < j)) fun i j => i % j
theorem rel_mod : RelOp K (rI (fun _ j => 0 < j) fun i j => .int (i % j)) modD := rel_int fun _ _ h => of_decide_eq_true h
abbrev powD : D → D → Option D := intD (fun i j => decide (0 ≤ j ∧ j ≤ 1000000 ∧ i.natAbs < 2 ^ 64)) fun i j => i ^ j.toNat
theorem rel_pow : RelOp K (rI CPow fun i j => .int (i ^ j.toNat)) powD := rel_int fun i j h => by unfold CPow; exact of_decide_eq_true h
/-- a * b of ints; a list times a number -/
def mulD : D → D → Option D
  | .int i, .int j => if i.natAbs.log2 + j.natAbs.log2 < 1000000 then some (.int (i * j)) else none
  | .lst xs, .int k => if -(2 ^ 63) ≤ k ∧ k < 2 ^ 63 ∧ xs.length * k.toNat ≤ most then some (.lst (List.replicate k.toNat xs).flatten) else none
  | _, _ => none
def rMulD : R2 := rOr (rI CMulW fun i j => .int (i * j)) rRep
theorem op_mulD {X : Cx} : OpR X (binaryOp .Mult) rMulD := op_mulW.or op_rep
theorem RepA.rep {F : Hp} {ι : List Addr} {xs : List V} {ds : List D} (r : RepA K F ι xs ds) : ∀ n, RepA K F ι (List.replicate n xs).flatten (List.replicate n ds).flatten
  | 0 => .nil
  | n + 1 => by
    rw [List.replicate_succ, List.replicate_succ, List.flatten_cons, List.flatten_cons]
    exact r.append (RepA.rep r n)
theorem rel_mul : RelOp K rMulD mulD := by
  intro F H ι w vx vy x y z wd rx ry e Q q
  unfold mulD at e
  split at e
  · cases rx; cases ry
    split at e
    · rename_i h
      cases e
      exact .inl ⟨_, _, rfl, rfl, h, okv_flat wd q (.int _)⟩
    · cases e
  · obtain ⟨a, xs, rfl, h1, r1⟩ := rx
    cases ry
    split at e
    · rename_i h
      cases e
      refine .inr ⟨a, _, xs, rfl, rfl, h1, h.1, h.2.1, by rw [r1.length]; exact most_le h.2.2, fun p hp => okv_new wd q hp ?_⟩
      exact .lst upd_same ((r1.rep _).up wd hp)
    · cases e
  · cases e
/-! ### comparisons -/
/-- an order of ints, of texts -/
def ordD (g : Int → Int → Bool) (h : List Nat → List Nat → Bool) : D → D → Option D
  | .int i, .int j => some (.bl (g i j))
  | .str a, .str b => some (.bl (h a.cps.toList b.cps.toList))
  | _, _ => none
def rOrd (g : Int → Int → Bool) (h : List Nat → List Nat → Bool) : R2 := rOr (rI0 fun i j => .bl (g i j)) fun x y H Q => ∃ i j, x = .str i ∧ y = .str j ∧ Q (.bl (h i.cps.toList j.cps.toList)) H
theorem rel_ord {g : Int → Int → Bool} {h : List Nat → List Nat → Bool} : RelOp K (rOrd g h) (ordD g h) := by
  intro F H ι w vx vy x y z wd rx ry e Q q
  unfold ordD at e
  split at e
  · cases rx; cases ry; cases e
    exact .inl ⟨_, _, rfl, rfl, okv_flat wd q (.bl _)⟩
  · cases rx; cases ry; cases e
    exact .inr ⟨_, _, rfl, rfl, okv_flat wd q (.bl _)⟩
  · cases e
abbrev ltD := ordD (fun i j => decide (i < j)) fun a b => decide (a < b)
abbrev leD := ordD (fun i j => decide (i ≤ j)) fun a b => !decide (b < a)
abbrev gtD := ordD (fun i j => decide (j < i)) fun a b => decide (b < a)
abbrev geD := ordD (fun i j => decide (j ≤ i)) fun a b => !decide (a < b)
theorem op_ltD {X : Cx} : OpR X (compareOp .Lt) (rOrd (fun i j => decide (i < j)) fun (a b : List Nat) => decide (a < b)) := op_lt.or op_lt_str
theorem op_leD {X : Cx} : OpR X (compareOp .LtE) (rOrd (fun i j => decide (i ≤ j)) fun (a b : List Nat) => !decide (b < a)) := op_le.or op_le_str
theorem op_gtD {X : Cx} : OpR X (compareOp .Gt) (rOrd (fun i j => decide (j < i)) fun (a b : List Nat) => decide (b < a)) := op_gt.or op_gt_str
theorem op_geD {X : Cx} : OpR X (compareOp .GtE) (rOrd (fun i j => decide (j ≤ i)) fun (a b : List Nat) => !decide (a < b)) := op_ge.or op_ge_str
end
mutual
def toPy : D → Option PyData
  | .non => some .none
  | .bl b => some (.bool b)
  | .int i => some (.int i)
  | .str x => some (.str x)
  | .lst xs => (toPyA xs).map .list
  | .tup xs => (toPyA xs).map .tuple
  | .dct _ => none
  | .obj _ _ => none
  | .ptr _ => none
  | .scr _ => none
def toPyA : List D → Option (List PyData)
  | [] => some []
  | x :: r => match toPy x, toPyA r with
    | some a, some b => some (a :: b)
    | _, _ => none
end
section
variable {K : PySem.W.Frag} {F H : Hp} {ι : List Addr}
mutual
theorem Rep.dp (x : Ex F H) : ∀ {d : D} {v : V} {p : PyData}, Rep K F ι v d → toPy d = some p → Dp K H v p
  | .non, _, _, r, e => by cases r; cases e; exact .non
  | .bl _, _, _, r, e => by cases r; cases e; exact .bl _
  | .int _, _, _, r, e => by cases r; cases e; exact .int _
  | .str _, _, _, r, e => by cases r; cases e; exact .str _
  | .lst xs, _, _, r, e => by
    cases r with
    | lst h r =>
      unfold toPy at e
      cases q : toPyA xs with
      | none => rw [q] at e; cases e
      | some ps => rw [q] at e; cases e; exact .lst (SqL.of (x _ _ h)) (RepA.dp x r q)
  | .tup xs, _, _, r, e => by
    cases r with
    | tup h r =>
      unfold toPy at e
      cases q : toPyA xs with
      | none => rw [q] at e; cases e
      | some ps => rw [q] at e; cases e; exact .tup (ex_t x h) (RepA.dp x r q)
  | .dct _, _, _, _, e => by unfold toPy at e; cases e
  | .obj _ _, _, _, _, e => by unfold toPy at e; cases e
  | .ptr _, _, _, _, e => by unfold toPy at e; cases e
  | .scr _, _, _, _, e => by unfold toPy at e; cases e
theorem RepA.dp (x : Ex F H) : ∀ {ds : List D} {vs : List V} {ps : List PyData}, RepA K F ι vs ds → toPyA ds = some ps → DpAll K H vs ps
  | [], _, _, r, e => by cases r; cases e; exact .nil
  | d :: ds, _, _, r, e => by
    cases r with
    | cons h r =>
      unfold toPyA at e
      cases q1 : toPy d with
      | none => rw [q1] at e; cases e
      | some a =>
        cases q2 : toPyA ds with
        | none => rw [q1, q2] at e; cases e
        | some b => rw [q1, q2] at e; cases e; exact .cons (Rep.dp x h q1) (RepA.dp x r q2)
end
theorem RepS.dp (x : Ex F H) {d : D} {v : V} {p : PyData} (r : RepS K F H ι v d) (e : toPy d = some p) : Dp K H v p := by
  cases d with
  | lst ds =>
    obtain ⟨a, xs, rfl, h, r⟩ := r
    unfold toPy at e
    cases q : toPyA ds with
    | none => rw [q] at e; cases e
    | some ps => rw [q] at e; cases e; exact .lst (SqL.of h) (RepA.dp x r q)
  | dct _ => unfold toPy at e; cases e
  | obj _ _ => unfold toPy at e; cases e
  | non => exact Rep.dp x r e
  | bl _ => exact Rep.dp x r e
  | int _ => exact Rep.dp x r e
  | str _ => exact Rep.dp x r e
  | tup _ => exact Rep.dp x r e
  | ptr _ => unfold toPy at e; cases e
  | scr _ => unfold toPy at e; cases e
end
def eqB (a b : D) : Option Bool := match toPy a, toPy b with
  | some p, some q => if SeqAt.shaped p && SeqAt.shaped q then some (PyData.eqv p q) else none
  | _, _ => none
def eqD (a b : D) : Option D := (eqB a b).map .bl
def neD (a b : D) : Option D := (eqB a b).map fun k => .bl (!k)
section
variable {K : PySem.W.Frag}
theorem eqB_ok {a b : D} {k : Bool} (e : eqB a b = some k) : ∃ p q, toPy a = some p ∧ toPy b = some q ∧ SeqAt.shaped p = true ∧ SeqAt.shaped q = true ∧ k = PyData.eqv p q := by
  unfold eqB at e
  split at e
  · rename_i p q h1 h2
    split at e
    · rename_i h
      obtain ⟨a1, a2⟩ := Bool.and_eq_true_iff.mp h
      cases e
      exact ⟨p, q, h1, h2, a1, a2, rfl⟩
    · cases e
  · cases e
theorem rel_eq : RelOp K (rEqD K) eqD := by
  intro F H ι w vx vy x y z wd rx ry e Q q
  unfold eqD at e
  cases h : eqB x y with
  | none => rw [h] at e; cases e
  | some k =>
    rw [h] at e; cases e
    obtain ⟨p, u, h1, h2, h3, h4, rfl⟩ := eqB_ok h
    exact ⟨p, u, rx.dp wd.ex h1, ry.dp wd.ex h2, h3, h4, okv_flat wd q (.bl _)⟩
theorem rel_ne : RelOp K (rNeD K) neD := by
  intro F H ι w vx vy x y z wd rx ry e Q q
  unfold neD at e
  cases h : eqB x y with
  | none => rw [h] at e; cases e
  | some k =>
    rw [h] at e; cases e
    obtain ⟨p, u, h1, h2, h3, h4, rfl⟩ := eqB_ok h
    exact ⟨p, u, rx.dp wd.ex h1, ry.dp wd.ex h2, h3, h4, okv_flat wd q (.bl _)⟩
/-! is None -/
def D.isNon : D → Bool
  | .non => true
  | _ => false
def isN (neg : Bool) : D → D → Option D
  | x, .non => some (.bl (neg ^^ x.isNon))
  | _, _ => none
theorem RepS.non_iff {F H : Hp} {ι : List Addr} {v : V} {d : D} (r : RepS K F H ι v d) : decide (v = .non) = d.isNon := by
  cases d with
  | lst _ => obtain ⟨a, _, rfl, _⟩ := r; rfl
  | dct _ => obtain ⟨a, _, rfl, _⟩ := r; rfl
  | obj _ _ => obtain ⟨a, _, _, rfl, _⟩ := r; rfl
  | _ => cases r; rfl
theorem rel_isN : RelOp K rIsN (isN false) := by
  intro F H ι w vx vy x y z wd rx ry e Q q
  unfold isN at e
  split at e
  · cases ry; cases e
    refine ⟨rfl, ?_⟩
    rw [rx.non_iff]
    rw [Bool.false_xor] at q
    exact okv_flat wd q (Rep.bl _)
  · cases e
theorem rel_notN : RelOp K rNotN (isN true) := by
  intro F H ι w vx vy x y z wd rx ry e Q q
  unfold isN at e
  split at e
  · cases ry; cases e
    refine ⟨rfl, ?_⟩
    rw [rx.non_iff]
    rw [Bool.true_xor] at q
    exact okv_flat wd q (Rep.bl _)
  · cases e
/-! in a text (one sign), in a list or tuple of flat values -/
def toV : D → Option V
  | .non => some .non
  | .bl b => some (.bl b)
  | .int i => some (.int i)
  | .str x => some (.str x)
  | _ => none
def toVs : List D → Option (List V)
  | [] => some []
  | d :: r => match toV d, toVs r with
    | some v, some vs => some (v :: vs)
    | _, _ => none
theorem toV_ok {F : Hp} {ι : List Addr} {v u : V} {d : D} (r : Rep K F ι v d) (e : toV d = some u) : v = u ∧ flatV u = true := by
  cases d with
  | non => cases r; cases e; exact ⟨rfl, rfl⟩
  | bl _ => cases r; cases e; exact ⟨rfl, rfl⟩
  | int _ => cases r; cases e; exact ⟨rfl, rfl⟩
  | str _ => cases r; cases e; exact ⟨rfl, rfl⟩
  | _ => cases e
theorem toVs_ok {F : Hp} {ι : List Addr} : ∀ {ds : List D} {vs us : List V}, RepA K F ι vs ds → toVs ds = some us → vs = us ∧ us.all flatV = true
  | [], _, _, r, e => by cases r; cases e; exact ⟨rfl, rfl⟩
  | d :: ds, _, _, r, e => by
    cases r with
    | cons h r =>
      unfold toVs at e
      cases q1 : toV d with
      | none => rw [q1] at e; cases e
      | some a =>
        cases q2 : toVs ds with
        | none => rw [q1, q2] at e; cases e
        | some b =>
          rw [q1, q2] at e; cases e
          obtain ⟨rfl, h1⟩ := toV_ok h q1
          obtain ⟨rfl, h2⟩ := toVs_ok r q2
          exact ⟨rfl, by rw [List.all_cons, h1, h2] <;> rfl⟩
def inB (x : D) (ys : List D) : Option Bool := match toV x, toVs ys with
  | some v, some vs => some (inV v vs)
  | _, _ => none
def inD (neg : Bool) : D → D → Option D
  | .str a, .str b => (match a.cps.toList with
    | [c] => some (.bl (neg ^^ decide (c ∈ b.cps.toList)))
    | _ => none)
  | x, .lst ys => (inB x ys).map fun k => .bl (neg ^^ k)
  | x, .tup ys => (inB x ys).map fun k => .bl (neg ^^ k)
  | _, _ => none
def rInD (K : PySem.W.Frag) (neg : Bool) : R2 := rOr (fun x y H Q => ∃ (c : Nat) (z : Str), x = .str ⟨#[c]⟩ ∧ y = .str z ∧ Q (.bl (neg ^^ decide (c ∈ z.cps.toList))) H) (rIn K neg)
theorem op_inD {X : Cx} : OpR X (compareOp .In) (rInD X.K false) := by
  refine OpR.or ?_ op_in_seq
  intro pins s σ H x y v u Q I rx ry h
  obtain ⟨c, z, e1, e2, q⟩ := h
  rw [Bool.false_xor] at q
  exact op_in_sign pins s σ H x y v u Q I rx ry ⟨c, z, e1, e2, q⟩
theorem op_notInD {X : Cx} : OpR X (compareOp .NotIn) (rInD X.K true) := by
  refine OpR.or ?_ op_notIn_seq
  intro pins s σ H x y v u Q I rx ry h
  obtain ⟨c, z, e1, e2, q⟩ := h
  rw [Bool.true_xor] at q
  exact op_notIn_sign pins s σ H x y v u Q I rx ry ⟨c, z, e1, e2, q⟩
theorem inB_ok {x : D} {ys : List D} {k : Bool} (e : inB x ys = some k) : ∃ v vs, toV x = some v ∧ toVs ys = some vs ∧ k = inV v vs := by
  unfold inB at e
  split at e
  · rename_i v vs h1 h2; cases e; exact ⟨v, vs, h1, h2, rfl⟩
  · cases e
theorem RepS.toV {F H : Hp} {ι : List Addr} {v u : V} {d : D} (r : RepS K F H ι v d) (e : toV d = some u) : v = u ∧ flatV u = true := by
  cases d with
  | lst _ => cases e
  | dct _ => cases e
  | obj _ _ => cases e
  | _ => exact toV_ok r e
theorem neg_in {neg k : Bool} : (if neg then !k else k) = (neg ^^ k) := by cases neg <;> cases k <;> rfl
theorem rel_in (neg : Bool) : RelOp K (rInD K neg) (inD neg) := by
  intro F H ι w vx vy x y z wd rx ry e Q q
  unfold inD at e
  split at e
  · rename_i a b
    cases rx; cases ry
    split at e
    · rename_i c hc
      cases e
      refine .inl ⟨c, b, ?_, rfl, okv_flat wd q (.bl _)⟩
      obtain ⟨cps⟩ := a
      congr 2
      exact Array.toList_inj.mp hc
    · cases e
  · cases h : inB x _ with
    | none => rw [h] at e; cases e
    | some k =>
      rw [h] at e; cases e
      obtain ⟨u, us, h1, h2, rfl⟩ := inB_ok h
      obtain ⟨a, xs, rfl, hx, r⟩ := ry
      obtain ⟨rfl, f1⟩ := rx.toV h1
      obtain ⟨rfl, f2⟩ := toVs_ok r h2
      refine .inr ⟨a, _, rfl, .inl (SqL.of hx), f1, f2, ?_⟩
      rw [neg_in]
      exact okv_flat wd q (.bl _)
  · cases h : inB x _ with
    | none => rw [h] at e; cases e
    | some k =>
      rw [h] at e; cases e
      obtain ⟨u, us, h1, h2, rfl⟩ := inB_ok h
      cases ry with
      | @tup a xs _ hx r =>
      obtain ⟨rfl, f1⟩ := rx.toV h1
      obtain ⟨rfl, f2⟩ := toVs_ok r h2
      refine .inr ⟨a, _, rfl, .inr (ex_t wd.ex hx), f1, f2, ?_⟩
      rw [neg_in]
      exact okv_flat wd q (.bl _)
  · cases e
end
end DL

/-! Built-ins by name, subscripts, slices, dicts, truth, texts. -/
namespace DL
open PySem PySem.Spec PyProof.Rows L2

section
variable {K : PySem.W.Frag} {E : XK}
/-! ### a built-in of one, of two values -/
def RelC1 (K : PySem.W.Frag) (r : List V → Hp → VK → Prop) (g : D → Option D) : Prop :=
  ∀ F H ι (w : W) v x z, Wd K F H ι w → RepS K F H ι v x → g x = some z → ∀ Q : VK, OkV K F H ι (.dat z) w Q → r [v] H Q
def RelC2 (K : PySem.W.Frag) (r : List V → Hp → VK → Prop) (g : D → D → Option D) : Prop :=
  ∀ F H ι (w : W) v u x y z, Wd K F H ι w → RepS K F H ι v x → RepS K F H ι u y → g x y = some z → ∀ Q : VK, OkV K F H ι (.dat z) w Q → r [v, u] H Q
def op1 (g : D → Option D) (x : Val) (w : W) : R Val := match x.d w with
  | some a => (match g a with
    | some z => .ok (.dat z) w
    | none => .stuck)
  | none => .stuck
def un (g : D → Option D) (sa : SemE) : SemE := fun ρ w => (sa ρ w).bind fun x w1 => op1 g x w1
theorem dr_un {g : D → Option D} {te ta : TE} {sa : SemE} {k : V → L2.St → Hp → VK → Prop} (ha : DR K E ta sa) (he : ∀ σ H Q, ta σ H (fun x H1 => k x σ H1 Q) → te σ H Q)
    (hk : ∀ F H ι (w : W) (σ : L2.St) v x z, Wd K F H ι w → RepS K F H ι v x → g x = some z → ∀ Q : VK, OkV K F H ι (.dat z) w Q → k v σ H Q) : DR K E te (un g sa) := by
  refine DR.bind (f := fun x _ w1 => op1 g x w1) (k := k) ha he ?_
  intro H0 F H ι w σ ρ v x d l rx
  unfold op1
  cases e1 : x.d w with
  | none => trivial
  | some a =>
    cases e3 : g a with
    | none => simp only [e3]; trivial
    | some z =>
      simp only [e3]
      exact fun Q q => hk F H ι w σ v a z d (rx.toS d e1) e3 Q q
theorem dr_call1 {r : List V → Hp → VK → Prop} {g : D → Option D} {ta : TE} {sa : SemE} (hr : RelC1 K r g) (ha : DR K E ta sa) : DR K E (tCB r (tCons ta tNil)) (un g sa) :=
  dr_un (k := fun v _ H Q => r [v] H Q) ha (fun _ _ _ q => q) fun F H ι w _ v x z d rx e Q q => hr F H ι w v x z d rx e Q q
theorem dr_call2 {r : List V → Hp → VK → Prop} {g : D → D → Option D} {ta tb : TE} {sa sb : SemE} (hr : RelC2 K r g) (ha : DR K E ta sa) (hb : DR K E tb sb) : DR K E (tCB r (tCons ta (tCons tb tNil))) (bin g sa sb) :=
  (dr_bin (r := fun x y H Q => r [x, y] H Q) (fun F H ι w vx vy x y z wd rx ry e Q q => hr F H ι w vx vy x y z wd rx ry e Q q) ha hb).of fun _ _ _ q => q
end
section
variable {X : Cx} {E : XK} {x : Str} {p pos : Pos} {a b : Expr} {ta tb : TE} {sa sb : SemE} {r : List V → Hp → VK → Prop} {id T : String}
theorem de_callB1 {g : D → Option D} (hc : CallR X (.builtin id) r) (hr : RelC1 X.K r g) (hm : X.mg x = none) (hv : bootBuiltins x = some (.builtin id)) (ha : DE X E a ta sa) (hg : Gl X x := by rfl) (hn : x ≠ "__name__" := by decide) (hdb : (x == ("__debug__" : Str)) = false := by decide)
    (he : starEach [a] X.env = (false, eval a X.env) :: starEach [] X.env := by rfl) (hpl : (backTo pos (starEach [] X.env)).any (·.1) = false := by rfl) : DE X E (.Call (.Name x p) [a] [] pos) (tCB r (tCons ta tNil)) (un g sa) :=
  ⟨pe_callB hc hg hm hv (pa_cons ha.pe pa_nil he) hn hdb he hpl, dr_call1 hr ha.dr⟩
theorem de_callT1 {g : D → Option D} (hc : CallR X (.type T) r) (hr : RelC1 X.K r g) (hm : X.mg x = none) (hv : bootBuiltins x = some (.type T)) (ha : DE X E a ta sa) (hg : Gl X x := by rfl) (hn : x ≠ "__name__" := by decide) (hdb : (x == ("__debug__" : Str)) = false := by decide)
    (he : starEach [a] X.env = (false, eval a X.env) :: starEach [] X.env := by rfl) (hpl : (backTo pos (starEach [] X.env)).any (·.1) = false := by rfl) : DE X E (.Call (.Name x p) [a] [] pos) (tCB r (tCons ta tNil)) (un g sa) :=
  ⟨pe_callTy hc hg hm hv (pa_cons ha.pe pa_nil he) hn hdb he hpl, dr_call1 hr ha.dr⟩
theorem de_callB2 {g : D → D → Option D} (hc : CallR X (.builtin id) r) (hr : RelC2 X.K r g) (hm : X.mg x = none) (hv : bootBuiltins x = some (.builtin id)) (ha : DE X E a ta sa) (hb : DE X E b tb sb) (hg : Gl X x := by rfl) (hn : x ≠ "__name__" := by decide) (hdb : (x == ("__debug__" : Str)) = false := by decide)
    (hs : starEach [b] X.env = (false, eval b X.env) :: starEach [] X.env := by rfl) (he : starEach [a, b] X.env = (false, eval a X.env) :: starEach [b] X.env := by rfl) (hpl : (backTo pos (starEach [b] X.env)).any (·.1) = false := by rfl) : DE X E (.Call (.Name x p) [a, b] [] pos) (tCB r (tCons ta (tCons tb tNil))) (bin g sa sb) :=
  ⟨pe_callB hc hg hm hv (pa_cons ha.pe (pa_cons hb.pe pa_nil hs) he) hn hdb he hpl, dr_call2 hr ha.dr hb.dr⟩
end

section
variable {K : PySem.W.Frag}
def lenD : D → Option D
  | .str x => if x.length ≤ most then some (.int x.length) else none
  | .lst xs => some (.int xs.length)
  | .tup xs => some (.int xs.length)
  | .scr ns => some (.int ns.length)
  | .dct es => some (.int es.length)
  | _ => none
def rLenD (K : PySem.W.Frag) : List V → Hp → VK → Prop := fun xs H Q => (∃ x n, xs = [x] ∧ LenV K x H n ∧ Q (.int n) H) ∨ ∃ a kvs, xs = [V.ref a] ∧ H a = some (.dK kvs) ∧ Q (.int kvs.length) H
theorem call_lenE {X : Cx} : CallR X (.builtin "len") (rLenD X.K) := call_len.or call_lenD
theorem RepK.length {F : Hp} {ι : List Addr} {xs : List (Key × V)} {ds : List (Key × D)} (r : RepK K F ι xs ds) : xs.length = ds.length := by
  induction ds generalizing xs with
  | nil => cases r; rfl
  | cons d ds ih =>
    cases r with
    | cons h r => simp [ih r]
theorem rel_len : RelC1 K (rLenD K) lenD := by
  intro F H ι w v x z wd rx e Q q
  unfold lenD at e
  split at e
  · cases rx
    split at e
    · rename_i h
      cases e
      exact .inl ⟨_, _, rfl, ⟨most_le h, rfl⟩, okv_flat wd q (.int _)⟩
    · cases e
  · obtain ⟨a, xs, rfl, h, r⟩ := rx
    cases e
    exact .inl ⟨_, _, rfl, .inl ⟨_, SqL.of h, r.length.symm⟩, okv_flat wd q (.int _)⟩
  · cases rx with
    | tup h r =>
    cases e
    exact .inl ⟨_, _, rfl, .inr ⟨_, ex_t wd.ex h, r.length.symm⟩, okv_flat wd q (.int _)⟩
  · cases rx with
    | scr h =>
    cases e
    exact .inl ⟨_, _, rfl, .inl ⟨_, ex_l wd.ex h, by rw [List.length_map]⟩, okv_flat wd q (.int _)⟩
  · obtain ⟨a, xs, rfl, h, r⟩ := rx
    cases e
    refine .inr ⟨a, xs, rfl, h, ?_⟩
    rw [r.length]
    exact okv_flat wd q (.int _)
  · cases e
def intF : D → Option D
  | .int i => some (.int i)
  | .bl k => some (.int (if k then 1 else 0))
  | _ => none
def rInt1 : List V → Hp → VK → Prop := fun xs H Q => (∃ i, xs = [.int i] ∧ Q (.int i) H) ∨ ∃ k, xs = [.bl k] ∧ Q (.int (if k then 1 else 0)) H
theorem rel_int1 : RelC1 K rInt1 intF := by
  intro F H ι w v x z wd rx e Q q
  unfold intF at e
  split at e
  · cases rx; cases e
    exact .inl ⟨_, rfl, okv_flat wd q (.int _)⟩
  · cases rx; cases e
    exact .inr ⟨_, rfl, okv_flat wd q (.int _)⟩
  · cases e
def absF : D → Option D
  | .int i => some (.int (if i < 0 then -i else i))
  | _ => none
def rAbs : List V → Hp → VK → Prop := fun xs H Q => ∃ i, xs = [.int i] ∧ Q (.int (if i < 0 then -i else i)) H
theorem rel_abs : RelC1 K rAbs absF := by
  intro F H ι w v x z wd rx e Q q
  unfold absF at e
  split at e
  · cases rx; cases e
    exact ⟨_, rfl, okv_flat wd q (.int _)⟩
  · cases e
def maxF : D → D → Option D
  | .int i, .int j => some (.int (if j > i then j else i))
  | _, _ => none
def minF : D → D → Option D
  | .int i, .int j => some (.int (if j < i then j else i))
  | _, _ => none
def rMax2D : List V → Hp → VK → Prop := fun xs H Q => ∃ i j, xs = [.int i, .int j] ∧ Q (.int (if j > i then j else i)) H
def rMin2D : List V → Hp → VK → Prop := fun xs H Q => ∃ i j, xs = [.int i, .int j] ∧ Q (.int (if j < i then j else i)) H
theorem rel_max : RelC2 K rMax2D maxF := by
  intro F H ι w v u x y z wd rx ry e Q q
  unfold maxF at e
  split at e
  · cases rx; cases ry; cases e
    exact ⟨_, _, rfl, okv_flat wd q (.int _)⟩
  · cases e
theorem rel_min : RelC2 K rMin2D minF := by
  intro F H ι w v u x y z wd rx ry e Q q
  unfold minF at e
  split at e
  · cases rx; cases ry; cases e
    exact ⟨_, _, rfl, okv_flat wd q (.int _)⟩
  · cases e
theorem RepA.ints {F : Hp} {ι : List Addr} : ∀ ns : List Int, RepA K F ι (ns.map V.int) (ns.map D.int)
  | [] => .nil
  | n :: r => .cons (.int n) (RepA.ints r)
def listF : D → Option D
  | .lst xs => some (.lst xs)
  | .tup xs => some (.lst xs)
  | .scr ns => some (.lst (ns.map .int))
  | _ => none
def rListD (K : PySem.W.Frag) : List V → Hp → VK → Prop := fun xs H Q => ∃ p ys, xs = [.ref p] ∧ (SqL K H p ys ∨ SqT K H p ys) ∧ ∀ l, H l = none → Q (.ref l) (upd H l (.lst ys))
theorem rel_list : RelC1 K (rListD K) listF := by
  intro F H ι w v x z wd rx e Q q
  unfold listF at e
  split at e
  · obtain ⟨a, xs, rfl, h, r⟩ := rx
    cases e
    exact ⟨_, _, rfl, .inl (SqL.of h), fun p hp => okv_new wd q hp (.lst upd_same (r.up wd hp))⟩
  · cases rx with
    | tup h r =>
    cases e
    exact ⟨_, _, rfl, .inr (ex_t wd.ex h), fun p hp => okv_new wd q hp (.lst upd_same (r.up wd hp))⟩
  · cases rx with
    | scr h =>
    cases e
    exact ⟨_, _, rfl, .inl (ex_l wd.ex h), fun p hp => okv_new wd q hp (.lst upd_same (RepA.ints _))⟩
  · cases e
def tupleF : D → Option D
  | .lst xs => some (.tup xs)
  | .tup xs => some (.tup xs)
  | _ => none
def rTupleD (K : PySem.W.Frag) : List V → Hp → VK → Prop := fun xs H Q => ∃ p ys, xs = [.ref p] ∧ ((SqL K H p ys ∧ ∀ l, H l = none → Q (.ref l) (upd H l (.tup ys))) ∨ (SqT K H p ys ∧ Q (.ref p) H))
theorem rel_tuple : RelC1 K (rTupleD K) tupleF := by
  intro F H ι w v x z wd rx e Q q
  unfold tupleF at e
  split at e
  · obtain ⟨a, xs, rfl, h, r⟩ := rx
    cases e
    exact ⟨_, _, rfl, .inl ⟨SqL.of h, fun p hp => okv_new wd q hp (.tup (SqT.of upd_same) (r.up wd hp))⟩⟩
  · cases rx with
    | tup h r =>
    cases e
    exact ⟨_, _, rfl, .inr ⟨ex_t wd.ex h, okv_flat wd q (.tup h r)⟩⟩
  · cases e
/-! ### subscripts -/
def ixD : D → D → Option D
  | .lst xs, .int i => atI xs i
  | .tup xs, .int i => atI xs i
  | .str z, .int i => if z.length ≤ most then (atI z.cps.toList i).map fun c => .str ⟨#[c]⟩ else none
  | .scr ns, .int i => (atI ns i).map .int
  | _, _ => none
theorem RepA.atI {F : Hp} {ι : List Addr} {xs : List V} {ds : List D} (r : RepA K F ι xs ds) {i : Int} {d : D} (e : L2.atI ds i = some d) : ∃ v, L2.atI xs i = some v ∧ Rep K F ι v d := by
  unfold L2.atI at e ⊢
  rw [r.length]
  cases h : ixN ds.length i with
  | none => rw [h] at e; cases e
  | some j =>
    rw [h] at e
    exact r.get' e
theorem atI_map {α β : Type} (f : α → β) (xs : List α) (i : Int) : L2.atI (xs.map f) i = (L2.atI xs i).map f := by
  unfold L2.atI
  rw [List.length_map]
  cases ixN xs.length i with
  | none => rfl
  | some j => simp
theorem rel_ix : RelOp K (rIx K) ixD := by
  intro F H ι w vx vy x y z wd rx ry e Q q
  unfold ixD at e
  split at e
  · obtain ⟨a, xs, rfl, h, r⟩ := rx
    cases ry
    obtain ⟨v, hv, rv⟩ := r.atI e
    exact .inl ⟨_, _, _, v, rfl, rfl, SqL.of h, hv, okv_now q wd rv⟩
  · cases rx with
    | tup h r =>
    cases ry
    obtain ⟨v, hv, rv⟩ := r.atI e
    exact .inr (.inl ⟨_, _, _, v, rfl, rfl, ex_t wd.ex h, hv, okv_now q wd rv⟩)
  · cases rx; cases ry
    split at e
    · rename_i h
      cases hc : L2.atI _ _ with
      | none => rw [hc] at e; cases e
      | some c =>
        rw [hc] at e; cases e
        exact .inr (.inr ⟨_, _, c, rfl, rfl, most_le h, hc, okv_now q wd (Rep.str _)⟩)
    · cases e
  · cases rx with
    | scr h =>
    cases ry
    cases hc : L2.atI _ _ with
    | none => rw [hc] at e; cases e
    | some c =>
      rw [hc] at e; cases e
      exact .inl ⟨_, _, _, .int c, rfl, rfl, ex_l wd.ex h, by rw [atI_map, hc]; rfl, okv_now q wd (Rep.int _)⟩
  · cases e
theorem de_ix {X : Cx} {E : XK} {a b : Expr} {ta tb : TE} {sa sb : SemE} {pos : Pos} (ha : DE X E a ta sa) (hb : DE X E b tb sb) (hs : PlainIx b := by exact fun _ _ => rfl) : DE X E (.Subscript a b pos) (tOp (rIx X.K) ta tb) (bin ixD sa sb) := ⟨pe_ix ix_seq ha.pe hb.pe hs, dr_bin rel_ix ha.dr hb.dr⟩
/-! ### slices -/
abbrev SemO := List Slot → W → R (Option Int)
def DRO (K : PySem.W.Frag) (E : XK) (t : TO) (s : SemO) : Prop := ∀ (H0 F H : Hp) (ι : List Addr) (w : W) (σ : L2.St) (ρ : List Slot), Wd K F H ι w → Sl K H0 F H ι σ ρ →
  Meets (fun x w' => ∀ Q : Option Int → Hp → Prop, OkT K F H ι w' (Q x) → t σ H Q) (fun x w' => XPost K E F H ι x w' → ∀ Q, t σ H Q) (s ρ w)
structure DO (X : Cx) (E : XK) (e : Option Expr) (t : TO) (s : SemO) : Prop where
  po : PO X e t
  dr : DRO X.K E t s
def noPart : SemO := fun _ w => .ok none w
def part (s : SemE) : SemO := fun ρ w => (s ρ w).bind fun x w1 => match x with
  | .dat (.int i) => .ok (some i) w1
  | _ => .stuck
theorem do_none {X : Cx} {E : XK} : DO X E none tNoPart noPart := ⟨po_none, fun _ F H ι w σ ρ d l Q q => q F H ι Stp.refl d⟩
theorem do_some {X : Cx} {E : XK} {e : Expr} {te : TE} {s : SemE} (h : DE X E e te s) : DO X E (some e) (tPart te) (part s) := ⟨po_some h.pe, by
  intro H0 F H ι w σ ρ d l
  unfold part
  cases e : s ρ w with
  | stuck => trivial
  | exc x w1 => exact fun q Q => h.dr.exc d l e q _
  | ok x w1 =>
    cases x with
    | vw c => trivial
    | dat y =>
      cases y with
      | int i =>
        intro Q q
        refine h.dr.ok d l e fun v F1 H1 ι1 s1 d1 r1 => ?_
        have r2 : Rep X.K F1 ι1 v (.int i) := r1
        cases r2
        exact ⟨i, rfl, q F1 H1 ι1 s1 d1⟩
      | _ => trivial⟩
def cutD (lo hi : Option Int) : D → Option D
  | .lst xs => some (.lst ((xs.drop (HT.sIx xs.length 0 lo)).take (HT.sIx xs.length xs.length hi - HT.sIx xs.length 0 lo)))
  | .scr ns => some (.lst (((ns.drop (HT.sIx ns.length 0 lo)).take (HT.sIx ns.length ns.length hi - HT.sIx ns.length 0 lo)).map .int))
  | .str z => if z.length ≤ most then some (.str (cutS z lo hi)) else none
  | _ => none
def rSlD (K : PySem.W.Frag) : V → Option Int → Option Int → Hp → VK → Prop := fun x lo hi H Q => rSlL K x lo hi H Q ∨ rSlS x lo hi H Q
theorem rel_sl {F H : Hp} {ι : List Addr} {w : W} {v : V} {x z : D} {lo hi : Option Int} (wd : Wd K F H ι w) (rx : RepS K F H ι v x) (e : cutD lo hi x = some z) {Q : VK} (q : OkV K F H ι (.dat z) w Q) : rSlD K v lo hi H Q := by
  unfold cutD at e
  split at e
  · obtain ⟨a, xs, rfl, h, r⟩ := rx
    cases e
    refine .inl ⟨_, _, rfl, SqL.of h, fun p hp => okv_new wd q hp (.lst upd_same ?_)⟩
    unfold cutV
    rw [r.length]
    exact (r.drop.take).up wd hp
  · cases rx with
    | scr h =>
    cases e
    refine .inl ⟨_, _, rfl, ex_l wd.ex h, fun p hp => okv_new wd q hp (.lst upd_same ?_)⟩
    unfold cutV
    rw [List.length_map, ← List.map_drop, ← List.map_take]
    exact RepA.ints _
  · cases rx
    split at e
    · rename_i h
      cases e
      exact .inr ⟨_, rfl, most_le h, okv_now q wd (Rep.str _)⟩
    · cases e
  · cases e
def slice (sa : SemE) (sl sh : SemO) : SemE := fun ρ w => (sa ρ w).bind fun x w1 => (sl ρ w1).bind fun lo w2 => (sh ρ w2).bind fun hi w3 => op1 (cutD lo hi) x w3
theorem de_slice {X : Cx} {E : XK} {e : Expr} {lo hi : Option Expr} {te : TE} {tl th : TO} {s : SemE} {sl sh : SemO} {pos p2 : Pos} (he : DE X E e te s) (hl : DO X E lo tl sl) (hh : DO X E hi th sh) : DE X E (.Subscript e (.Slice lo hi none p2) pos) (tSl (rSlD X.K) te tl th) (slice s sl sh) := ⟨pe_slice (sl_list.or sl_str) he.pe hl.po hh.po, by
  refine DR.bind (f := fun x ρ w1 => (sl ρ w1).bind fun lo w2 => (sh ρ w2).bind fun hi w3 => op1 (cutD lo hi) x w3) (k := fun x σ H1 Q => tl σ H1 fun l H2 => th σ H2 fun u H3 => rSlD X.K x l u H3 Q) he.dr (fun _ _ _ q => q) ?_
  intro H0 F H ι w σ ρ v x d l rx
  show Meets _ _ ((sl ρ w).bind _)
  have hL := hl.dr H0 F H ι w σ ρ d l
  cases e : sl ρ w with
  | stuck => trivial
  | exc y w1 => rw [e] at hL; exact fun q Q => hL q _
  | ok i w1 =>
    rw [e] at hL
    show Meets _ _ ((sh ρ w1).bind _)
    have hR : ∀ F1 H1 ι1, Wd X.K F1 H1 ι1 w1 → Stp F H ι F1 H1 ι1 → _ := fun F1 H1 ι1 d1 s1 => hh.dr H0 F1 H1 ι1 w1 σ ρ d1 (l.mono s1)
    cases e2 : sh ρ w1 with
    | stuck => trivial
    | exc y w2 =>
      refine fun q Q => hL _ fun F1 H1 ι1 s1 d1 => ?_
      have z := hR F1 H1 ι1 d1 s1
      rw [e2] at z
      exact z (q.step s1) _
    | ok j w2 =>
      show Meets _ _ (op1 (cutD i j) x w2)
      unfold op1
      cases e3 : x.d w2 with
      | none => trivial
      | some a =>
        cases e4 : cutD i j a with
        | none => simp only [e4]; trivial
        | some z =>
          simp only [e4]
          refine fun Q q => hL _ fun F1 H1 ι1 s1 d1 => ?_
          have y := hR F1 H1 ι1 d1 s1
          rw [e2] at y
          refine y _ fun F2 H2 ι2 s2 d2 => ?_
          exact rel_sl d2 ((rx.mono (s1.trans s2)).toS d2 e3) e4 (OkV.step (s1.trans s2) q)⟩
/-! ### truth -/
def truD : D → Option Bool
  | .non => some false
  | .bl b => some b
  | .int i => some (i != 0)
  | .str x => if x.length ≤ most then some ((x.length : Int) != 0) else none
  | .lst xs => some (!xs.isEmpty)
  | .tup xs => some (!xs.isEmpty)
  | .dct es => some (!es.isEmpty)
  | _ => none
theorem isEmpty_len {α β : Type} {xs : List α} {ys : List β} (h : xs.length = ys.length) : (!xs.isEmpty) = !ys.isEmpty := by
  cases xs <;> cases ys <;> simp_all
theorem tru_of {F H : Hp} {ι : List Addr} {w : W} {v : V} {x : D} {k : Bool} (wd : Wd K F H ι w) (rx : RepS K F H ι v x) (e : truD x = some k) : TruV K v H k := by
  unfold truD at e
  split at e
  · cases rx; cases e; rfl
  · cases rx; cases e; rfl
  · cases rx; cases e; rfl
  · cases rx
    split at e
    · rename_i h
      cases e
      exact ⟨most_le h, rfl⟩
    · cases e
  · obtain ⟨a, xs, rfl, h, r⟩ := rx
    cases e
    exact .inl ⟨_, SqL.of h, isEmpty_len r.length.symm⟩
  · cases rx with
    | tup h r =>
    cases e
    exact .inr (.inl ⟨_, ex_t wd.ex h, isEmpty_len r.length.symm⟩)
  · obtain ⟨a, xs, rfl, h, r⟩ := rx
    cases e
    exact .inr (.inr ⟨_, h, isEmpty_len r.length.symm⟩)
  · cases e
def truE (s : SemE) : SemT := fun ρ w => (s ρ w).bind fun x w1 => match x.d w1 with
  | some a => (match truD a with
    | some k => .ok k w1
    | none => .stuck)
  | none => .stuck
theorem dt_tru {X : Cx} {E : XK} {a : Expr} {ta : TE} {sa : SemE} (h : DE X E a ta sa) (he : ∀ whole, isTrue a X.env whole = (do let v ← whole; standAt a.pos; holding [v] (truthy v)) := by intro _; rfl) :
    DT X E a (fun σ H Q => ta σ H fun x H' => ∃ k, TruV X.K x H' k ∧ Q k H') (truE sa) := ⟨pt_truth h.pe he, by
  intro H0 F H ι w σ ρ d l
  unfold truE
  cases e : sa ρ w with
  | stuck => trivial
  | exc x w1 => exact fun q Q => h.dr.exc d l e q _
  | ok x w1 =>
    show Meets _ _ (match x.d w1 with | some a => (match truD a with | some k => (.ok k w1 : R Bool) | none => .stuck) | none => .stuck)
    cases e1 : x.d w1 with
    | none => trivial
    | some a =>
      cases e2 : truD a with
      | none => simp only [e2]; trivial
      | some k =>
        simp only [e2]
        exact fun Q q => h.dr.ok d l e fun v F1 H1 ι1 s1 d1 r1 => ⟨k, tru_of d1 (r1.toS d1 e1) e2, q F1 H1 ι1 s1 d1⟩⟩
/-! ### isinstance of a built-in class -/
def D.ty : D → Option String
  | .non => some "NoneType"
  | .bl _ => some "bool"
  | .int _ => some "int"
  | .str _ => some "str"
  | .lst _ => some "list"
  | .tup _ => some "tuple"
  | .dct _ => some "dict"
  | _ => none
theorem ty_of {F H : Hp} {ι : List Addr} {w : W} {v : V} {x : D} {t : String} (wd : Wd K F H ι w) (rx : RepS K F H ι v x) (e : x.ty = some t) : TyX K H v (.type t) := by
  unfold D.ty at e
  split at e
  · cases rx; cases e; exact .base .non
  · cases rx; cases e; exact .base (.bl _)
  · cases rx; cases e; exact .base (.int _)
  · cases rx; cases e; exact .base (.str _)
  · obtain ⟨a, xs, rfl, h, r⟩ := rx
    cases e; exact .base (.lst h)
  · cases rx with
    | tup h r =>
    cases e
    rcases ex_t wd.ex h with (h | ⟨o, h⟩) | ⟨o, its, n, h1, h2, _⟩
    · exact .base (.tup h)
    · exact .fTuple h
    · exact .kTuple h1 h2
  · obtain ⟨a, xs, rfl, h, r⟩ := rx
    cases e; exact .base (.dK h)
  · cases e
def isiD (T : String) (d : D) : Option D := (d.ty.bind fun t => kitB t T).map .bl
theorem rel_isi (T : String) : RelC1 K (fun xs H Q => ∃ v, xs = [v] ∧ rIsi K [v, .ty T] H Q) (isiD T) := by
  intro F H ι w v x z wd rx e Q q
  unfold isiD at e
  cases h : x.ty with
  | none => rw [h] at e; cases e
  | some t =>
    rw [h] at e
    cases h2 : kitB t T with
    | none => simp [h2] at e
    | some b =>
      simp [h2] at e
      cases e
      exact ⟨v, rfl, v, .ty T, .type t, .type T, b, rfl, .ty T, ty_of wd rx h, kit_ty h2, okv_now q wd (Rep.bl b)⟩
theorem de_isi {X : Cx} {E : XK} {a : Expr} {ta : TE} {sa : SemE} {y : Str} {p pos p2 : Pos} (T : String) (hm : X.mg "isinstance" = none) (hy : X.mg y = none) (hT : bootBuiltins y = some (.type T)) (ha : DE X E a ta sa) (hg : Gl X "isinstance" := by rfl) (hgy : Gl X y := by rfl)
    (hn : y ≠ "__name__" := by decide) (hdb : (y == ("__debug__" : Str)) = false := by decide)
    (he : starEach [a, .Name y p2] X.env = (false, eval a X.env) :: starEach [.Name y p2] X.env := by rfl) (hpl : (backTo pos (starEach [.Name y p2] X.env)).any (·.1) = false := by rfl) :
    DE X E (.Call (.Name "isinstance" p) [a, .Name y p2] [] pos) (tCB (rIsi X.K) (tCons ta (tCons (tC (.ty T)) tNil))) (un (isiD T) sa) :=
  ⟨pe_callB call_isi hg hm (by decide +kernel) (pa_cons ha.pe (pa_cons (pe_bltn hgy hy hT rfl hn hdb) pa_nil) he) (by decide) (by decide) he hpl,
    (dr_call1 (rel_isi T) ha.dr).of fun σ H Q q => (show ta σ H _ from by
      have q' : ta σ H fun x H1 => ∃ v, [x] = [v] ∧ rIsi X.K [v, .ty T] H1 Q := q
      exact q') |> fun q => by
        show ta σ H fun x H1 => rIsi X.K [x, .ty T] H1 Q
        have e : (fun x H1 => ∃ v, [x] = [v] ∧ rIsi X.K [v, .ty T] H1 Q) = fun x H1 => rIsi X.K [x, .ty T] H1 Q := by
          funext x H1
          refine propext ⟨fun ⟨v, e, h⟩ => ?_, fun h => ⟨x, rfl, h⟩⟩
          cases e
          exact h
        rw [← e]
        exact q⟩
end
end DL

/-! Statements, defs, calls, loops, comprehensions. -/
namespace DL
open PySem PySem.Spec PyProof.Rows L2

/-! ### statements -/
inductive Out where
  | nx (ρ : List Slot) (w : W) | rt (d : D) (w : W) | bk (ρ : List Slot) (w : W) | ct (ρ : List Slot) (w : W) | exc (x : Exn) (w : W) | stuck
abbrev SemS := List Slot → W → Out
/-- from the def's entry, and from where one stands -/
structure Rch (F0 H0 : Hp) (ι0 : List Addr) (F : Hp) (ι : List Addr) (F' H' : Hp) (ι' : List Addr) : Prop where
  st : Stp F0 H0 ι0 F' H' ι'
  ex : Ex F F'
  ix : ∀ (n : Nat) a, ι[n]? = some a → ι'[n]? = some a
theorem Rch.now {F0 H0 F H : Hp} {ι0 ι : List Addr} (s : Stp F0 H0 ι0 F H ι) : Rch F0 H0 ι0 F ι F H ι := ⟨s, Ex.refl _, fun _ _ h => h⟩
theorem Rch.step {F0 H0 F F1 H1 F2 H2 : Hp} {ι0 ι ι1 ι2 : List Addr} (r : Rch F0 H0 ι0 F ι F1 H1 ι1) (s : Stp F1 H1 ι1 F2 H2 ι2) : Rch F0 H0 ι0 F ι F2 H2 ι2 := ⟨r.st.trans s, r.ex.trans s.ex, fun n a h => s.ix n a (r.ix n a h)⟩
theorem Rch.more {F0 H0 F F1 H1 F2 H2 : Hp} {ι0 ι ι1 ι2 : List Addr} (r : Rch F0 H0 ι0 F ι F1 H1 ι1) (s : Rch F0 H0 ι0 F1 ι1 F2 H2 ι2) : Rch F0 H0 ι0 F ι F2 H2 ι2 := ⟨s.st, r.ex.trans s.ex, fun n a h => s.ix n a (r.ix n a h)⟩
/-- what is wanted behind -/
def OutOk (K : PySem.W.Frag) (E : XK) (F0 H0 : Hp) (ι0 : List Addr) (F : Hp) (ι : List Addr) (D : Ends) : Out → Prop
  | .nx ρ w => ∀ σ F' H' ι', Rch F0 H0 ι0 F ι F' H' ι' → Wd K F' H' ι' w → Sl K H0 F' H' ι' σ ρ → D.nx σ H'
  | .rt d w => ∀ v F' H' ι', Rch F0 H0 ι0 F ι F' H' ι' → Wd K F' H' ι' w → Rep K F' ι' v d → D.rt v H'
  | .bk ρ w => ∀ σ F' H' ι', Rch F0 H0 ι0 F ι F' H' ι' → Wd K F' H' ι' w → Sl K H0 F' H' ι' σ ρ → D.bk σ H'
  | .ct ρ w => ∀ σ F' H' ι', Rch F0 H0 ι0 F ι F' H' ι' → Wd K F' H' ι' w → Sl K H0 F' H' ι' σ ρ → D.ct σ H'
  | .exc x w => XPost K E F0 H0 ι0 x w
  | .stuck => False
theorem OutOk.step {K : PySem.W.Frag} {E : XK} {F0 H0 F F1 H1 : Hp} {ι0 ι ι1 : List Addr} {D : Ends} {o : Out} (r : Rch F0 H0 ι0 F ι F1 H1 ι1) (h : OutOk K E F0 H0 ι0 F ι D o) : OutOk K E F0 H0 ι0 F1 ι1 D o := by
  cases o with
  | nx ρ w => exact fun σ F2 H2 ι2 s d l => h σ F2 H2 ι2 (r.more s) d l
  | rt d w => exact fun σ F2 H2 ι2 s d l => h σ F2 H2 ι2 (r.more s) d l
  | bk ρ w => exact fun σ F2 H2 ι2 s d l => h σ F2 H2 ι2 (r.more s) d l
  | ct ρ w => exact fun σ F2 H2 ι2 s d l => h σ F2 H2 ι2 (r.more s) d l
  | exc x w => exact h
  | stuck => exact h
def DSR (K : PySem.W.Frag) (E : XK) (ts : TS) (s : SemS) : Prop := ∀ (F0 H0 F H : Hp) (ι0 ι : List Addr) (w : W) (σ : L2.St) (ρ : List Slot) (D : Ends), Stp F0 H0 ι0 F H ι → Wd K F H ι w → Sl K H0 F H ι σ ρ → OutOk K E F0 H0 ι0 F ι D (s ρ w) → ts D σ H
structure DS (X : Cx) (E : XK) (st : Stmt) (ts : TS) (s : SemS) : Prop where
  ps : PS X st ts
  dr : DSR X.K E ts s
structure DSs (X : Cx) (E : XK) (st : List Stmt) (ts : TS) (s : SemS) : Prop where
  ps : PSs X st ts
  dr : DSR X.K E ts s
/-- behind an expression -/
def R.out {α : Type} (r : R α) (f : α → W → Out) : Out := match r with
  | .ok a w => f a w
  | .exc x w => .exc x w
  | .stuck => .stuck
def nextS : SemS := fun ρ w => .nx ρ w
def seqS (s t : SemS) : SemS := fun ρ w => match s ρ w with
  | .nx ρ1 w1 => t ρ1 w1
  | o => o
def retS (s : SemE) : SemS := fun ρ w => (s ρ w).out fun x w1 => match x with
  | .dat d => .rt d w1
  | .vw _ => .stuck
def ifS (c : SemT) (s t : SemS) : SemS := fun ρ w => (c ρ w).out fun b w1 => if b then s ρ w1 else t ρ w1
def setS (i : Nat) (s : SemE) : SemS := fun ρ w => (s ρ w).out fun x w1 => match x with
  | .dat d => .nx (ρ.set i (.dat d)) w1
  | .vw _ => .stuck
def dropS (s : SemE) : SemS := fun ρ w => (s ρ w).out fun _ w1 => .nx ρ w1
section
variable {K : PySem.W.Frag} {E : XK}
theorem dsr_expr {te : TE} {s : SemE} {ts : TS} {f : Val → SemS} {k : Ends → V → L2.St → Hp → Prop} (h : DR K E te s) (ht : ∀ D σ H, te σ H (fun v H1 => k D v σ H1) → ts D σ H)
    (hk : ∀ F0 H0 F H ι0 ι w σ ρ D v x, Stp F0 H0 ι0 F H ι → Wd K F H ι w → Sl K H0 F H ι σ ρ → RepV K F H ι v x → OutOk K E F0 H0 ι0 F ι D (f x ρ w) → k D v σ H) : DSR K E ts (fun ρ w => (s ρ w).out fun x w1 => f x ρ w1) := by
  intro F0 H0 F H ι0 ι w σ ρ D st wd l o
  have o : OutOk K E F0 H0 ι0 F ι D ((s ρ w).out fun x w1 => f x ρ w1) := o
  cases e : s ρ w with
  | stuck => rw [e] at o; exact False.elim o
  | exc x w1 => rw [e] at o; exact ht _ _ _ (h.exc wd l e (XPost.step st o) _)
  | ok x w1 =>
    rw [e] at o
    exact ht _ _ _ (h.ok wd l e fun v F1 H1 ι1 s1 d1 r1 => hk F0 H0 F1 H1 ι0 ι1 w1 σ ρ D v x (st.trans s1) d1 (l.mono s1) r1 (OutOk.step ((Rch.now st).step s1) o))
theorem dsr_test {tt : TT} {c : SemT} {ts : TS} {f : Bool → SemS} {k : Ends → Bool → L2.St → Hp → Prop} (h : DRT K E tt c) (ht : ∀ D σ H, tt σ H (fun v H1 => k D v σ H1) → ts D σ H)
    (hk : ∀ b, DSR K E (fun D σ H => k D b σ H) (f b)) : DSR K E ts (fun ρ w => (c ρ w).out fun b w1 => f b ρ w1) := by
  intro F0 H0 F H ι0 ι w σ ρ D st wd l o
  have o : OutOk K E F0 H0 ι0 F ι D ((c ρ w).out fun x w1 => f x ρ w1) := o
  cases e : c ρ w with
  | stuck => rw [e] at o; exact False.elim o
  | exc x w1 => rw [e] at o; exact ht _ _ _ (h.exc wd l e (XPost.step st o) _)
  | ok b w1 =>
    rw [e] at o
    exact ht _ _ _ (h.ok wd l e fun F1 H1 ι1 s1 d1 => hk b F0 H0 F1 H1 ι0 ι1 w1 σ ρ D (st.trans s1) d1 (l.mono s1) (OutOk.step ((Rch.now st).step s1) o))
end
section
variable {X : Cx} {E : XK} {st : Stmt} {rest : List Stmt} {ts us : TS} {s t : SemS} {pos : Pos} {e : Expr} {te : TE} {se : SemE}
theorem dss_nil : DSs X E [] tNext nextS := ⟨pss_nil, fun F0 H0 F H ι0 ι w σ ρ D st wd l o => o σ F H ι (Rch.now st) wd l⟩
theorem dss_cons (h1 : DS X E st ts s) (h2 : DSs X E rest us t) : DSs X E (st :: rest) (tSeq ts us) (seqS s t) := ⟨pss_cons h1.ps h2.ps, by
  intro F0 H0 F H ι0 ι w σ ρ D st wd l o
  show ts { D with nx := us D } σ H
  refine h1.dr F0 H0 F H ι0 ι w σ ρ { D with nx := us D } st wd l ?_
  unfold seqS at o
  cases q : s ρ w with
  | nx ρ1 w1 =>
    rw [q] at o
    exact fun σ1 F1 H1 ι1 s1 d1 l1 => h2.dr F0 H0 F1 H1 ι0 ι1 w1 σ1 ρ1 D s1.st d1 l1 (OutOk.step s1 o)
  | rt d w1 => rw [q] at o; exact o
  | bk ρ1 w1 => rw [q] at o; exact o
  | ct ρ1 w1 => rw [q] at o; exact o
  | exc x w1 => rw [q] at o; exact o
  | stuck => rw [q] at o; exact o⟩
theorem dss_one (h1 : DS X E st ts s) : DSs X E [st] (tSeq ts tNext) (seqS s nextS) := dss_cons h1 dss_nil
theorem ds_ret (h : DE X E e te se) : DS X E (.Return (some e) pos) (tRet te) (retS se) := ⟨ps_ret h.pe,
  dsr_expr (f := fun x _ w1 => match x with | .dat d => .rt d w1 | .vw _ => .stuck) (k := fun D v _ H1 => D.rt v H1) h.dr (fun _ _ _ q => q) fun F0 H0 F H ι0 ι w σ ρ D v x st wd l r o => by
    cases x with
    | dat d => exact o v F H ι (Rch.now st) wd r
    | vw c => exact False.elim o⟩
theorem ds_retN : DS X E (.Return none pos) tRetN (fun _ w => .rt .non w) := ⟨ps_retN, fun F0 H0 F H ι0 ι w σ ρ D st wd l o => o .non F H ι (Rch.now st) wd .non⟩
theorem ds_pass : DS X E (.Pass pos) tNext nextS := ⟨ps_pass, fun F0 H0 F H ι0 ι w σ ρ D st wd l o => o σ F H ι (Rch.now st) wd l⟩
theorem ds_break : DS X E (.Break pos) tBreak (fun ρ w => .bk ρ w) := ⟨ps_break, fun F0 H0 F H ι0 ι w σ ρ D st wd l o => o σ F H ι (Rch.now st) wd l⟩
theorem ds_cont : DS X E (.Continue pos) tCont (fun ρ w => .ct ρ w) := ⟨ps_continue, fun F0 H0 F H ι0 ι w σ ρ D st wd l o => o σ F H ι (Rch.now st) wd l⟩
theorem ds_if {c : Expr} {a b : List Stmt} {tc : TT} {sc : SemT} (hc : DT X E c tc sc) (ha : DSs X E a ts s) (hb : DSs X E b us t) : DS X E (.If c a b pos) (tIfS tc ts us) (ifS sc s t) := ⟨ps_if hc.pt ha.ps hb.ps,
  dsr_test (f := fun b ρ w1 => if b then s ρ w1 else t ρ w1) (k := fun D b σ H1 => if b = true then ts D σ H1 else us D σ H1) hc.dr (fun _ _ _ q => q) fun b => by
    cases b with
    | true =>
      intro F0 H0 F H ι0 ι w σ ρ D st wd l o
      show (if true = true then ts D σ H else us D σ H)
      rw [if_pos rfl]
      exact ha.dr F0 H0 F H ι0 ι w σ ρ D st wd l o
    | false =>
      intro F0 H0 F H ι0 ι w σ ρ D st wd l o
      show (if false = true then ts D σ H else us D σ H)
      rw [if_neg Bool.false_ne_true]
      exact hb.dr F0 H0 F H ι0 ι w σ ρ D st wd l o⟩
theorem dsr_set {K : PySem.W.Frag} (i : Nat) (h : DR K E te se) : DSR K E (tAsg te (gName i)) (setS i se) :=
  dsr_expr (f := fun x ρ w1 => match x with | .dat d => .nx (ρ.set i (.dat d)) w1 | .vw _ => .stuck) (k := fun D v σ H1 => D.nx (σ.set i (some v)) H1) h (fun _ _ _ q => q) fun F0 H0 F H ι0 ι w σ ρ D v x st wd l r o => by
    cases x with
    | dat d => exact o _ F H ι (Rch.now st) wd (l.set r)
    | vw c => exact False.elim o
theorem ds_set {i : Nat} {x : Str} {pos' : Pos} (h : DE X E e te se) (hN : X.N.Nodup) (hi : X.N[i]? = some x := by rfl) (hx : Loc X.env.scope x := by first | exact Or.inl rfl | exact Or.inr rfl)
    (hs : swapsWith e (some (.Name x pos')) pos.line X.env = pure false := by rfl) (hf : X.fn x = true ∨ X.env.scope.names.lookup x = some .local := by first | exact .inl rfl | exact .inr rfl) :
    DS X E (.Assign [.Name x pos'] e pos) (tAsg te (gName i)) (setS i se) := ⟨ps_set hN hi hx h.pe hs hf, dsr_set i h.dr⟩
theorem ds_expr (h : DE X E e te se) (hs : swapsWith e none pos.line X.env = pure false := by rfl) : DS X E (.Expr e pos) (tDrop te) (dropS se) := ⟨ps_expr h.pe hs,
  dsr_expr (f := fun _ ρ w1 => .nx ρ w1) (k := fun D _ σ H1 => D.nx σ H1) h.dr (fun _ _ _ q => q) fun F0 H0 F H ι0 ι w σ ρ D v x st wd l r o => o σ F H ι (Rch.now st) wd l⟩
/-- a = x; b = y at once -/
def setsS (is : List Nat) (sa : SemA) : SemS := fun ρ w => (sa ρ w).out fun ds w1 => if ds.length = is.length then .nx ((is.zip ds).foldl (fun ρ p => ρ.set p.1 (.dat p.2)) ρ) w1 else .stuck
theorem dsr_args {K : PySem.W.Frag} {ta : TA} {sa : SemA} {f : List D → SemS} {k : Ends → List V → L2.St → Hp → Prop} (h : DRA K E ta sa) (ht : ∀ D σ H, ta σ H (fun v H1 => k D v σ H1) → ts D σ H)
    (hk : ∀ F0 H0 F H ι0 ι w σ ρ D v x, Stp F0 H0 ι0 F H ι → Wd K F H ι w → Sl K H0 F H ι σ ρ → RepA K F ι v x → OutOk K E F0 H0 ι0 F ι D (f x ρ w) → k D v σ H) : DSR K E ts (fun ρ w => (sa ρ w).out fun x w1 => f x ρ w1) := by
  intro F0 H0 F H ι0 ι w σ ρ D st wd l o
  have o : OutOk K E F0 H0 ι0 F ι D ((sa ρ w).out fun x w1 => f x ρ w1) := o
  cases e : sa ρ w with
  | stuck => rw [e] at o; exact False.elim o
  | exc x w1 => rw [e] at o; exact ht _ _ _ (h.exc wd l e (XPost.step st o) _)
  | ok x w1 =>
    rw [e] at o
    exact ht _ _ _ (h.ok wd l e fun v F1 H1 ι1 s1 d1 r1 => hk F0 H0 F1 H1 ι0 ι1 w1 σ ρ D v x (st.trans s1) d1 (l.mono s1) r1 (OutOk.step ((Rch.now st).step s1) o))
theorem ds_par {i j : Nat} {x y : Str} {a b : Expr} {ta : TA} {sa : SemA} {px py pt : Pos} {kt k2 pt2} (hN : X.N.Nodup) (ha : DA X E [a, b] ta sa) (hc : X.calm = true := by rfl) (hi : X.N[i]? = some x := by rfl) (hj : X.N[j]? = some y := by rfl) (hij : i ≠ j := by decide)
    (hx : X.env.scope.names.lookup x = some .local := by rfl) (hy : X.env.scope.names.lookup y = some .local := by rfl)
    (hw : swappedStores [.Tuple [.Name x px, .Name y py] kt pt] (.Tuple [a, b] k2 pt2) X.env = pure (some [x, y]) := by rfl)
    (hs : swapsWithSole [.Tuple [.Name x px, .Name y py] kt pt] (.Tuple [a, b] k2 pt2) pos.line X.env = pure false := by rfl) :
    DS X E (.Assign [.Tuple [.Name x px, .Name y py] kt pt] (.Tuple [a, b] k2 pt2) pos) (tPar i j ta) (setsS [i, j] sa) := ⟨ps_par hc hN hi hj hij hx hy ha.pa hw hs, by
  refine dsr_args (f := fun ds ρ w1 => if ds.length = ([i, j] : List Nat).length then .nx ((([i, j] : List Nat).zip ds).foldl (fun ρ p => ρ.set p.1 (.dat p.2)) ρ) w1 else .stuck) (k := fun D vs σ H1 => ∃ v w, vs = [v, w] ∧ D.nx ((σ.set i (some v)).set j (some w)) H1) ha.dr (fun _ _ _ q => q) ?_
  intro F0 H0 F H ι0 ι w σ ρ D v x st wd l r o
  cases r with
  | nil => exact False.elim o
  | cons r1 r =>
    cases r with
    | nil => exact False.elim o
    | cons r2 r =>
      cases r with
      | nil => exact ⟨_, _, rfl, o _ F H ι (Rch.now st) wd ((l.set r1).set r2)⟩
      | cons _ _ => exact False.elim (by simpa [OutOk] using o)⟩
end

/-! ### defs -/
abbrev Sem := List D → W → R D
def Spec (K : PySem.W.Frag) (n : Nat) (f : Sem) : Sp := fun vs H Q E => ∃ F ι w ds, Wd K F H ι w ∧ RepA K F ι vs ds ∧ ds.length = n ∧ match f ds w with
  | .ok d w' => OkV K F H ι (.dat d) w' Q
  | .exc x w' => XPost K E F H ι x w'
  | .stuck => False
theorem Spec.len {K : PySem.W.Frag} {n : Nat} {f : Sem} {vs : List V} {H : Hp} {Q : VK} {E : XK} (h : Spec K n f vs H Q E) : vs.length = n := by
  obtain ⟨F, ι, w, ds, wd, r, l, _⟩ := h
  rw [r.length, l]
def startD (n : Nat) (ds : List D) : List Slot := ds.map .dat ++ List.replicate (n - ds.length) .non
def runD (n : Nat) (s : SemS) : Sem := fun ds w => match s (startD n ds) w with
  | .nx _ w' => .ok .non w'
  | .rt d w' => .ok d w'
  | .exc x w' => .exc x w'
  | _ => .stuck
theorem sl_start {K : PySem.W.Frag} {F H : Hp} {ι : List Addr} {N : List Str} {vs : List V} {ds : List D} (r : RepA K F ι vs ds) : Sl K H F H ι (L2.start N vs) (startD N.length ds) where
  len := by simp [L2.start, startD, r.length]
  at_ := fun i t e => by
    unfold startD at e
    unfold L2.start
    by_cases h : i < ds.length
    · rw [List.getElem?_append_left (by simpa using h), List.getElem?_map] at e
      cases q : ds[i]? with
      | none => rw [q] at e; cases e
      | some d =>
        rw [q] at e
        cases e
        obtain ⟨v, hv, rv⟩ := r.get' q
        exact ⟨v, by rw [List.getElem?_append_left (by simpa [r.length] using h), List.getElem?_map, hv]; rfl, rv⟩
    · rw [List.getElem?_append_right (by simpa using h), List.getElem?_replicate] at e
      split at e
      · cases e; trivial
      · cases e
  sep := fun i j c c' p e1 => by
    unfold startD at e1
    by_cases h : i < ds.length
    · rw [List.getElem?_append_left (by simpa using h), List.getElem?_map] at e1
      cases q : ds[i]? with
      | none => rw [q] at e1; cases e1
      | some d => rw [q] at e1; cases e1
    · rw [List.getElem?_append_right (by simpa using h), List.getElem?_replicate] at e1
      split at e1 <;> cases e1
/-- a def's body meets its promise -/
theorem body_ok {K : PySem.W.Frag} {E : XK} {N : List Str} {n : Nat} {ts : TS} {s : SemS} {vs : List V} {H : Hp} {Q : VK} (h : DSR K E ts s) (sp : Spec K n (runD N.length s) vs H Q E) : ts { nx := fun _ H' => Q .non H', rt := Q } (L2.start N vs) H := by
  obtain ⟨F, ι, w, ds, wd, r, l, o⟩ := sp
  refine h F H F H ι ι w (L2.start N vs) (startD N.length ds) _ Stp.refl wd (sl_start r) ?_
  unfold runD at o
  cases q : s (startD N.length ds) w with
  | nx ρ w' => rw [q] at o; exact fun σ F1 H1 ι1 s1 d1 l1 => o .non F1 H1 ι1 s1.st d1 (Rep.non)
  | rt d w' => rw [q] at o; exact fun v F1 H1 ι1 s1 d1 r1 => o v F1 H1 ι1 s1.st d1 r1
  | exc x w' => rw [q] at o; exact o
  | bk _ _ => rw [q] at o; exact False.elim o
  | ct _ _ => rw [q] at o; exact False.elim o
  | stuck => rw [q] at o; exact False.elim o

/-! ### calls -/
def callE (f : Sem) (sa : SemA) : SemE := fun ρ w => (sa ρ w).bind fun ds w1 => (f ds w1).bind fun d w2 => .ok (.dat d) w2
section
variable {X : Cx} {E : XK} {e : Expr} {es : List Expr} {ta : TA} {sa : SemA} {pos p : Pos} {x : Str} {k n : Nat} {f : Addr} {fd : FuncData} {ps : List Str} {g : Sem}
theorem dr_call {K : PySem.W.Frag} (ha : DRA K E ta sa) (hl : ∀ ρ w ds w1, sa ρ w = .ok ds w1 → ds.length = n) : DR K E (tCall (Spec K n g) [] E ta) (callE g sa) := by
  intro H0 F H ι w σ ρ d l
  unfold callE
  cases e : sa ρ w with
  | stuck => trivial
  | exc y w1 => exact fun q Q => ha.exc d l e q _
  | ok ds w1 =>
    show Meets _ _ ((g ds w1).bind _)
    cases e2 : g ds w1 with
    | stuck => trivial
    | exc y w2 =>
      intro q Q
      refine ha.ok d l e fun vs F1 H1 ι1 s1 d1 r1 => ?_
      show Spec K n g (vs ++ []) H1 Q E
      rw [List.append_nil]
      exact ⟨F1, ι1, w1, ds, d1, r1, hl ρ w ds w1 e, by rw [e2]; exact q.step s1⟩
    | ok z w2 =>
      intro Q q
      refine ha.ok d l e fun vs F1 H1 ι1 s1 d1 r1 => ?_
      show Spec K n g (vs ++ []) H1 Q E
      rw [List.append_nil]
      exact ⟨F1, ι1, w1, ds, d1, r1, hl ρ w ds w1 e, by rw [e2]; exact OkV.step s1 q⟩
theorem lenA_nil : ∀ ρ w ds w1, nilA ρ w = .ok ds w1 → ds.length = 0 := fun ρ w ds w1 h => by cases h; rfl
theorem lenA_cons {a : SemE} {r : SemA} {m : Nat} (h : ∀ ρ w ds w1, r ρ w = .ok ds w1 → ds.length = m) : ∀ ρ w ds w1, consA a r ρ w = .ok ds w1 → ds.length = m + 1 := fun ρ w ds w1 q => by
  unfold consA at q
  cases e : a ρ w with
  | stuck => rw [e] at q; cases q
  | exc _ _ => rw [e] at q; cases q
  | ok y w2 =>
    rw [e] at q
    cases y with
    | vw _ => cases q
    | dat y =>
      cases e2 : r ρ w2 with
      | stuck => simp [R.bind, e2] at q
      | exc _ _ => simp [R.bind, e2] at q
      | ok zs w3 =>
        simp [R.bind, e2] at q
        obtain ⟨q1, q2⟩ := q
        rw [← q1, List.length_cons, h _ _ _ _ e2]
theorem de_call (G : FnOk X.prog X.w X.K X.mg X.base (L2.CX X.prog X.w) k f fd ps (Spec X.K n g)) (hr : Room k X.A) (hm : X.mg x = some (.ref f)) (hk : PySem.W.keepIn X.K (.ref f) = true) (hb : Binds X.K fd ps []) (hx : Passes (L2.CX X.prog X.w) X E)
    (ha : DA X E (e :: es) ta sa) (hl : ∀ ρ w ds w1, sa ρ w = .ok ds w1 → ds.length = n) (hg : Gl X x := by rfl) (hdb : (x == ("__debug__" : Str)) = false := by decide)
    (he : starEach (e :: es) X.env = (false, eval e X.env) :: starEach es X.env := by rfl) (hpl : (backTo pos (starEach es X.env)).any (·.1) = false := by rfl) :
    DE X E (.Call (.Name x p) (e :: es) [] pos) (tCall (Spec X.K n g) [] E ta) (callE g sa) := ⟨pe_call G hr hg hm hk hb .nil hx ha.pa hdb he hpl, dr_call ha.dr hl⟩
end

/-! ### loops -/
def ItOk (K : PySem.W.Frag) (J : It) (F H : Hp) (ι : List Addr) (items : List D) : Prop := ∀ F2 H2 ι2 w2, Ex F F2 → (∀ (n : Nat) a, ι[n]? = some a → ι2[n]? = some a) → Wd K F2 H2 ι2 w2 → ∀ i : Nat, (i < items.length → J.go i H2) ∧ (items.length ≤ i → J.stop i H2) ∧
  ∀ x H3, i < items.length → J.yld i H2 x H3 → ∃ d F3, items[i]? = some d ∧ Stp F2 H2 ι2 F3 H3 ι2 ∧ Wd K F3 H3 ι2 w2 ∧ Rep K F3 ι2 x d
abbrev SemI := List Slot → W → R (List D)
def DRI (K : PySem.W.Frag) (E : XK) (wi : TI) (s : SemI) : Prop := ∀ (H0 F H : Hp) (ι : List Addr) (w : W) (σ : L2.St) (ρ : List Slot), Wd K F H ι w → Sl K H0 F H ι σ ρ →
  Meets (fun items w' => ∀ R : It → Hp → Prop, (∀ J F' H' ι', Stp F H ι F' H' ι' → Wd K F' H' ι' w' → ItOk K J F' H' ι' items → R J H') → wi σ H R) (fun x w' => XPost K E F H ι x w' → ∀ R, wi σ H R) (s ρ w)
structure DI (X : Cx) (E : XK) (tg iter : Expr) (wi : TI) (s : SemI) : Prop where
  pi : PI X tg iter wi
  dr : DRI X.K E wi s
/-- a target -/
abbrev SemG := D → List Slot → Option (List Slot)
def DRG (K : PySem.W.Frag) (g : TG) (s : SemG) : Prop := ∀ (H0 F H : Hp) (ι : List Addr) (σ : L2.St) (ρ ρ' : List Slot) (v : V) (d : D), Ex F H → Sl K H0 F H ι σ ρ → Rep K F ι v d → s d ρ = some ρ' → ∀ Q : L2.St → Hp → Prop, (∀ σ', Sl K H0 F H ι σ' ρ' → Q σ' H) → g v σ H Q
structure DG (X : Cx) (tg : Expr) (g : TG) (s : SemG) : Prop where
  pg : PG X tg g
  dr : DRG X.K g s
def forL (g : SemG) (b : SemS) : List D → SemS
  | [], ρ, w => .nx ρ w
  | d :: r, ρ, w => match g d ρ with
    | none => .stuck
    | some ρ1 => (match b ρ1 w with
      | .nx ρ2 w2 => forL g b r ρ2 w2
      | .ct ρ2 w2 => forL g b r ρ2 w2
      | .bk ρ2 w2 => .nx ρ2 w2
      | o => o)
def forS (si : SemI) (g : SemG) (b : SemS) : SemS := fun ρ w => (si ρ w).out fun items w1 => forL g b items ρ w1
theorem dsr_for {K : PySem.W.Frag} {E : XK} {wi : TI} {g : TG} {tb : TS} {si : SemI} {sg : SemG} {sb : SemS} (hi : DRI K E wi si) (hg : DRG K g sg) (hb : DSR K E tb sb) : DSR K E (tFor wi g tb) (forS si sg sb) := by
  intro F0 H0 F H ι0 ι w σ ρ D st wd l o
  have hI := hi H0 F H ι w σ ρ wd l
  unfold forS at o
  cases e : si ρ w with
  | stuck => rw [e] at o; exact False.elim o
  | exc x w1 => rw [e] at o hI; exact hI (XPost.step st o) _
  | ok items w1 =>
    rw [e] at o hI
    refine hI _ fun J F1 H1 ι1 s1 d1 it => ?_
    have o1 : OutOk K E F0 H0 ι0 F1 ι1 D (forL sg sb items ρ w1) := OutOk.step ((Rch.now st).step s1) o
    refine ⟨fun i m σ' H' => i + m = items.length ∧ ∃ F' ι' w' ρ', Rch F0 H0 ι0 F1 ι1 F' H' ι' ∧ Wd K F' H' ι' w' ∧ Sl K H0 F' H' ι' σ' ρ' ∧ OutOk K E F0 H0 ι0 F1 ι1 D (forL sg sb (items.drop i) ρ' w'),
      ⟨items.length, by simp, F1, ι1, w1, ρ, Rch.now (st.trans s1), d1, l.mono s1, o1⟩, ?_⟩
    rintro i m σ' H' ⟨em, F', ι', w', ρ', rc, wd', l', o'⟩
    obtain ⟨go, stop, yld⟩ := it F' H' ι' w' rc.ex rc.ix wd' i
    by_cases h : i < items.length
    · right
      have ed : items.drop i = items[i] :: items.drop (i + 1) := List.drop_eq_getElem_cons h
      refine ⟨go h, fun σ2 H2 => ∃ F2 ι2 w2 ρ2, Rch F0 H0 ι0 F1 ι1 F2 H2 ι2 ∧ Wd K F2 H2 ι2 w2 ∧ Sl K H0 F2 H2 ι2 σ2 ρ2 ∧ OutOk K E F0 H0 ι0 F1 ι1 D (forL sg sb (items.drop (i + 1)) ρ2 w2),
        fun σ2 H2 hN => ⟨m - 1, by omega, by omega, hN⟩, fun x H3 hy => ?_⟩
      obtain ⟨d, F3, ed2, s3, d3, r3⟩ := yld x H3 h hy
      have edd : items[i] = d := by
        rw [List.getElem?_eq_getElem h] at ed2
        exact Option.some.inj ed2
      rw [ed, edd] at o'
      unfold forL at o'
      cases q : sg d ρ' with
      | none => rw [q] at o'; exact False.elim o'
      | some ρ1 =>
        rw [q] at o'
        refine hg H0 F3 H3 ι' σ' ρ' ρ1 x d d3.ex (l'.mono s3) r3 q _ fun σ1 l1 => ?_
        have rc3 : Rch F0 H0 ι0 F1 ι1 F3 H3 ι' := rc.step s3
        refine hb F0 H0 F3 H3 ι0 ι' w' σ1 ρ1 _ rc3.st d3 l1 ?_
        cases q2 : sb ρ1 w' with
        | stuck => simp only [q2] at o'; exact o'
        | exc y w2 => simp only [q2] at o'; exact o'
        | rt y w2 => simp only [q2] at o'; exact fun v F2 H2 ι2 s2 d2 l2 => o' v F2 H2 ι2 (rc3.more s2) d2 l2
        | bk ρ2 w2 => simp only [q2] at o'; exact fun σ2 F2 H2 ι2 s2 d2 l2 => o' σ2 F2 H2 ι2 (rc3.more s2) d2 l2
        | nx ρ2 w2 => simp only [q2] at o'; exact fun σ2 F2 H2 ι2 s2 d2 l2 => ⟨F2, ι2, w2, ρ2, rc3.more s2, d2, l2, o'⟩
        | ct ρ2 w2 => simp only [q2] at o'; exact fun σ2 F2 H2 ι2 s2 d2 l2 => ⟨F2, ι2, w2, ρ2, rc3.more s2, d2, l2, o'⟩
    · left
      have ed : items.drop i = [] := List.drop_eq_nil_of_le (by omega)
      rw [ed] at o'
      exact ⟨stop (by omega), o' σ' F' H' ι' rc wd' l'⟩
end DL

/-! What is walked, targets, comprehensions, things of a slot's own. -/
namespace DL
open PySem PySem.Spec PyProof.Rows L2

section
variable {K : PySem.W.Frag} {E : XK}
/-! ### iterators -/
theorem it_list {F H : Hp} {ι : List Addr} {a : Addr} {xs : List V} {ds : List D} (h : SqL K F a xs) (r : RepA K F ι xs ds) : ItOk K (Itl K a) F H ι ds := by
  intro F2 H2 ι2 w2 e1 e2 wd i
  have h2 : SqL K H2 a xs := ex_l (e1.trans wd.ex) h
  refine ⟨fun hi => ?_, fun hi => ⟨xs, h2, by rw [r.length]; exact hi⟩, fun x H3 hi hy => ?_⟩
  · obtain ⟨x, hx, _⟩ := r.get' (List.getElem?_eq_getElem hi)
    exact ⟨xs, x, h2, hx⟩
  · obtain ⟨rfl, hy⟩ := hy
    obtain ⟨d, hd, rd⟩ := r.get (hy xs h2)
    exact ⟨d, F2, hd, Stp.refl, wd, rd.mono e1 e2⟩
theorem it_tup {F H : Hp} {ι : List Addr} {a : Addr} {xs : List V} {ds : List D} (h : SqT K F a xs) (r : RepA K F ι xs ds) : ItOk K (Itt K a) F H ι ds := by
  intro F2 H2 ι2 w2 e1 e2 wd i
  have h2 : SqT K H2 a xs := ex_t (e1.trans wd.ex) h
  refine ⟨fun hi => ?_, fun hi => ⟨xs, h2, by rw [r.length]; exact hi⟩, fun x H3 hi hy => ?_⟩
  · obtain ⟨x, hx, _⟩ := r.get' (List.getElem?_eq_getElem hi)
    exact ⟨xs, x, h2, hx⟩
  · obtain ⟨rfl, hy⟩ := hy
    obtain ⟨d, hd, rd⟩ := r.get (hy xs h2)
    exact ⟨d, F2, hd, Stp.refl, wd, rd.mono e1 e2⟩
def rangeD (lo : Int) (n : Nat) : List D := (List.range n).map fun i => .int (lo + (i : Nat))
theorem it_range {F H : Hp} {ι : List Addr} {lo : Int} {n : Nat} : ItOk K (Itr lo n) F H ι (rangeD lo n) := by
  intro F2 H2 ι2 w2 e1 e2 wd i
  have hl : (rangeD lo n).length = n := by simp [rangeD]
  refine ⟨fun hi => by rw [hl] at hi; exact hi, fun hi => by rw [hl] at hi; exact hi, fun x H3 hi hy => ?_⟩
  obtain ⟨rfl, rfl⟩ := hy
  rw [hl] at hi
  exact ⟨.int (lo + (i : Nat)), F2, by simp [rangeD, hi], Stp.refl, wd, .int _⟩
def signsD (x : Str) : List D := x.cps.toList.map fun c => .str ⟨#[c]⟩
theorem it_str {F H : Hp} {ι : List Addr} {x : Str} : ItOk K (Its x) F H ι (signsD x) := by
  intro F2 H2 ι2 w2 e1 e2 wd i
  have hl : (signsD x).length = x.cps.size := by simp [signsD]
  refine ⟨fun hi => by rw [hl] at hi; exact hi, fun hi => by rw [hl] at hi; exact hi, fun v H3 hi hy => ?_⟩
  obtain ⟨rfl, c, hc, rfl⟩ := hy
  exact ⟨.str ⟨#[c]⟩, F2, by simp [signsD, hc], Stp.refl, wd, .str _⟩
/-- what a value is walked as -/
def walkD : D → Option (List D)
  | .lst ds => some ds
  | .tup ds => some ds
  | .str x => some (signsD x)
  | .scr ns => some (ns.map .int)
  | _ => none
def iAny (K : PySem.W.Frag) (te : TE) : TI := fun σ H R => te σ H fun x H1 => (∃ a, x = .ref a ∧ (∃ xs, SqL K H1 a xs) ∧ R (Itl K a) H1) ∨ (∃ a, x = .ref a ∧ (∃ xs, SqT K H1 a xs) ∧ R (Itt K a) H1) ∨ ∃ z, x = .str z ∧ R (Its z) H1
def walkI (s : SemE) : SemI := fun ρ w => (s ρ w).bind fun x w1 => match x with
  | .dat d => (match walkD d with
    | some ds => .ok ds w1
    | none => .stuck)
  | .vw _ => .stuck
theorem dri_any {te : TE} {s : SemE} (h : DR K E te s) : DRI K E (iAny K te) (walkI s) := by
  intro H0 F H ι w σ ρ wd l
  unfold walkI
  cases e : s ρ w with
  | stuck => trivial
  | exc x w1 => exact fun q R => h.exc wd l e q _
  | ok x w1 =>
    cases x with
    | vw c => trivial
    | dat d =>
      show Meets _ _ (match walkD d with | some ds => (.ok ds w1 : R (List D)) | none => .stuck)
      cases e2 : walkD d with
      | none => trivial
      | some ds =>
        intro R hR
        refine h.ok wd l e fun v F1 H1 ι1 s1 d1 r1 => ?_
        have r1 : Rep K F1 ι1 v d := r1
        unfold walkD at e2
        split at e2
        · cases e2
          cases r1 with
          | lst h r => exact .inl ⟨_, rfl, ⟨_, SqL.of (d1.ex _ _ h)⟩, hR _ F1 H1 ι1 s1 d1 (it_list (SqL.of h) r)⟩
        · cases e2
          cases r1 with
          | tup h r => exact .inr (.inl ⟨_, rfl, ⟨_, ex_t d1.ex h⟩, hR _ F1 H1 ι1 s1 d1 (it_tup h r)⟩)
        · cases e2
          cases r1
          exact .inr (.inr ⟨_, rfl, hR _ F1 H1 ι1 s1 d1 it_str⟩)
        · cases e2
          cases r1 with
          | scr h => exact .inl ⟨_, rfl, ⟨_, ex_l d1.ex h⟩, hR _ F1 H1 ι1 s1 d1 (it_list h (RepA.ints _))⟩
        · cases e2
/-- range(n), range(a, b) -/
def range1I (sa : SemA) : SemI := fun ρ w => (sa ρ w).bind fun ds w1 => match ds with
  | [.int j] => if -(2 ^ 62) ≤ j ∧ j < 2 ^ 62 then .ok (rangeD 0 j.toNat) w1 else .stuck
  | _ => .stuck
def range2I (sa : SemA) : SemI := fun ρ w => (sa ρ w).bind fun ds w1 => match ds with
  | [.int i, .int j] => if -(2 ^ 62) ≤ i ∧ i < 2 ^ 62 ∧ -(2 ^ 62) ≤ j ∧ j < 2 ^ 62 then .ok (rangeD i (j - i).toNat) w1 else .stuck
  | _ => .stuck
theorem dri_range1 {ta : TA} {sa : SemA} (h : DRA K E ta sa) : DRI K E (iRng1 ta) (range1I sa) := by
  intro H0 F H ι w σ ρ wd l
  unfold range1I
  cases e : sa ρ w with
  | stuck => trivial
  | exc x w1 => exact fun q R => h.exc wd l e q _
  | ok ds w1 =>
    show Meets _ _ (match ds with | [.int j] => (if -(2 ^ 62) ≤ j ∧ j < 2 ^ 62 then .ok (rangeD 0 j.toNat) w1 else .stuck : R (List D)) | _ => .stuck)
    split
    · rename_i j
      by_cases hj : -(2 ^ 62) ≤ j ∧ j < 2 ^ 62
      · rw [if_pos hj]
        intro R hR
        refine h.ok wd l e fun v F1 H1 ι1 s1 d1 r1 => ?_
        cases r1 with
        | cons r1 r2 =>
        cases r2
        cases r1
        exact ⟨j, rfl, hj.1, hj.2, hR _ F1 H1 ι1 s1 d1 it_range⟩
      · rw [if_neg hj]; trivial
    · trivial
theorem dri_range2 {ta : TA} {sa : SemA} (h : DRA K E ta sa) : DRI K E (iRng2 ta) (range2I sa) := by
  intro H0 F H ι w σ ρ wd l
  unfold range2I
  cases e : sa ρ w with
  | stuck => trivial
  | exc x w1 => exact fun q R => h.exc wd l e q _
  | ok ds w1 =>
    show Meets _ _ (match ds with | [.int i, .int j] => (if -(2 ^ 62) ≤ i ∧ i < 2 ^ 62 ∧ -(2 ^ 62) ≤ j ∧ j < 2 ^ 62 then .ok (rangeD i (j - i).toNat) w1 else .stuck : R (List D)) | _ => .stuck)
    split
    · rename_i i j
      by_cases hj : -(2 ^ 62) ≤ i ∧ i < 2 ^ 62 ∧ -(2 ^ 62) ≤ j ∧ j < 2 ^ 62
      · rw [if_pos hj]
        intro R hR
        refine h.ok wd l e fun v F1 H1 ι1 s1 d1 r1 => ?_
        cases r1 with
        | cons r1 r2 =>
        cases r2 with
        | cons r2 r3 =>
        cases r3
        cases r1
        cases r2
        exact ⟨i, j, rfl, hj, hR _ F1 H1 ι1 s1 d1 it_range⟩
      · rw [if_neg hj]; trivial
    · trivial
end
section
variable {X : Cx} {E : XK} {tg e a b : Expr} {te : TE} {s : SemE} {p pos : Pos} {ta : TA} {sa : SemA}
theorem di_any (h : DE X E e te s) : DI X E tg e (iAny X.K te) (walkI s) := ⟨⟨fun pins st σ H R I hw => by
  refine thn (h.pe.run pins st σ H _ I hw) fun v z ⟨x, G, J, rx, alt⟩ => ?_
  rcases alt with ⟨a, rfl, ⟨xs, hq⟩, q⟩ | ⟨a, rfl, ⟨xs, hq⟩, q⟩ | ⟨y, rfl, q⟩
  · cases rx
    obtain ⟨_, _, p, _⟩ := J.list hq
    exact wpAny_pyIter_list p.isList (pi_one (tk := z.toks) J _ (turn_list a _) ⟨_, Heap.get?_push_size _ rfl, rfl, rfl⟩ q)
  · cases rx
    obtain ⟨its, _, p, _⟩ := J.tuple hq
    have p : z.heap.IsTuple a its.toArray := p
    exact wpAny_pyIter_tuple p (pi_one (tk := z.toks) J _ (turn_tuple a _) ⟨_, Heap.get?_push_size _ rfl, rfl, rfl⟩ q)
  · obtain ⟨t, rfl⟩ := rx
    by_cases wide : y.cps.all (· < 128) = true
    · exact wpAny_pyIter_ascii wide (pi_one (tk := z.toks) J _ (turn_str _ y t _ (.inl rfl)) ⟨_, Heap.get?_push_size _ rfl, rfl, rfl⟩ q)
    · exact wpAny_pyIter_wide (Bool.eq_false_iff.mpr wide) (pi_one (tk := z.toks) J _ (turn_str _ y t _ (.inr rfl)) ⟨_, Heap.get?_push_size _ rfl, rfl, rfl⟩ q)⟩, dri_any h.dr⟩
theorem di_range1 (hm : X.mg "range" = none) (ha : DA X E [a] ta sa) (hg : Gl X "range" := by rfl) (hs : starEach [a] X.env = [(false, eval a X.env)] := by rfl) : DI X E tg (.Call (.Name "range" p) [a] [] pos) (iRng1 ta) (range1I sa) := ⟨pi_range1 hg hm ha.pa hs, dri_range1 ha.dr⟩
theorem di_range2 (hm : X.mg "range" = none) (ha : DA X E [a, b] ta sa) (hg : Gl X "range" := by rfl) (hs : starEach [a, b] X.env = [(false, eval a X.env), (false, eval b X.env)] := by rfl) (hs2 : starEach [b] X.env = [(false, eval b X.env)] := by rfl) :
    DI X E tg (.Call (.Name "range" p) [a, b] [] pos) (iRng2 ta) (range2I sa) := ⟨pi_range2 hg hm ha.pa hs hs2, dri_range2 ha.dr⟩
end
/-! ### targets -/
section
variable {X : Cx} {E : XK} {pos : Pos}
def nameG (i : Nat) : SemG := fun d ρ => some (ρ.set i (.dat d))
theorem dg_name {i : Nat} {x : Str} (hN : X.N.Nodup) (hi : X.N[i]? = some x := by rfl) (hx : Loc X.env.scope x := by first | exact Or.inl rfl | exact Or.inr rfl) (hf : X.fn x = true ∨ X.env.scope.names.lookup x = some .local := by first | exact .inl rfl | exact .inr rfl) : DG X (.Name x pos) (gName i) (nameG i) :=
  ⟨pg_name hN hi hx hf, fun H0 F H ι σ ρ ρ' v d ex l r e Q q => by cases e; exact q _ (l.set r)⟩
abbrev SemGs := List D → List Slot → Option (List Slot)
def DRGs (K : PySem.W.Frag) (g : TGs) (s : SemGs) : Prop := ∀ (H0 F H : Hp) (ι : List Addr) (σ : L2.St) (ρ ρ' : List Slot) (v : List V) (d : List D), Ex F H → Sl K H0 F H ι σ ρ → RepA K F ι v d → s d ρ = some ρ' → ∀ Q : L2.St → Hp → Prop, (∀ σ', Sl K H0 F H ι σ' ρ' → Q σ' H) → g v σ H Q
structure DGs (X : Cx) (ts : List Expr) (g : TGs) (s : SemGs) : Prop where
  pg : PGs X ts g
  dr : DRGs X.K g s
def nilG : SemGs := fun ds ρ => match ds with
  | [] => some ρ
  | _ => none
def consG (g : SemG) (r : SemGs) : SemGs := fun ds ρ => match ds with
  | d :: ds => (g d ρ).bind fun ρ1 => r ds ρ1
  | [] => none
theorem dgs_nil : DGs X [] gNil nilG := ⟨pgs_nil, fun H0 F H ι σ ρ ρ' v d ex l r e Q q => by
  cases r with
  | nil => cases e; exact ⟨rfl, q _ l⟩
  | cons _ _ => cases e⟩
theorem dgs_cons {t : Expr} {ts : List Expr} {g : TG} {gs : TGs} {s : SemG} {ss : SemGs} (h : DG X t g s) (hs : DGs X ts gs ss) (hl : (assignEach (t :: ts) X.env).map (·.2) = assign t X.env :: (assignEach ts X.env).map (·.2) := by rfl) : DGs X (t :: ts) (gCons g gs) (consG s ss) := ⟨pgs_cons h.pg hs.pg hl, fun H0 F H ι σ ρ ρ' v d ex l r e Q q => by
  cases r with
  | nil => cases e
  | @cons x xs y ys h1 h2 =>
    have e : ((s y ρ).bind fun ρ1 => ss ys ρ1) = some ρ' := e
    cases e1 : s y ρ with
    | none => rw [e1] at e; cases e
    | some ρ1 =>
      rw [e1] at e
      exact ⟨x, xs, rfl, h.dr H0 F H ι σ ρ ρ1 x y ex l h1 e1 _ fun σ1 l1 => hs.dr H0 F H ι σ1 ρ1 ρ' xs ys ex l1 h2 e Q q⟩⟩
def tupG (n : Nat) (s : SemGs) : SemG := fun d ρ => match d with
  | .tup ds => if ds.length = n then s ds ρ else none
  | _ => none
theorem dg_tup {es : List Expr} {k : Nat} {t : TGs} {n : Nat} {s : SemGs} (h : DGs X es t s) (hc : X.calm = true := by rfl) (hn : (assignEach es X.env).length = n := by rfl) (hst : (assignEach es X.env).findIdx? (·.1) = none := by rfl) : DG X (.Tuple es k pos) (gTup X.K n t) (tupG n s) :=
  ⟨pg_tup hc h.pg hn hst, fun H0 F H ι σ ρ ρ' v d ex l r e Q q => by
    cases r with
    | tup ht r =>
      unfold tupG at e
      simp only at e
      split at e
      · rename_i hl
        exact ⟨_, _, rfl, ex_t ex ht, by rw [r.length, hl], h.dr H0 F H ι σ ρ ρ' _ _ ex l r e Q q⟩
      · cases e
    | _ => cases e⟩
theorem ds_for {tg iter : Expr} {body : List Stmt} {wi : TI} {g : TG} {tb : TS} {si : SemI} {sg : SemG} {sb : SemS} (hp : PassesOwn (model X.prog X.w) X.A X.env X.xe) (hi : DI X E tg iter wi si) (hg : DG X tg g sg) (hb : DSs X E body tb sb) (hc : X.calm = true := by rfl)
    (hs : ∀ x, foldedSetIterable iter X.env x = pure x := by intro _; rfl) : DS X E (.For tg iter body [] pos) (tFor wi g tb) (forS si sg sb) := ⟨ps_for hp hc hi.pi hg.pg hb.ps hs, dsr_for hi.dr hg.dr hb.dr⟩
/-- target = e, any target -/
def asgS (s : SemE) (g : SemG) : SemS := fun ρ w => (s ρ w).out fun x w1 => match x with
  | .dat d => (match g d ρ with
    | some ρ1 => .nx ρ1 w1
    | none => .stuck)
  | .vw _ => .stuck
theorem ds_asg {tg e : Expr} {te : TE} {g : TG} {se : SemE} {sg : SemG} (he : DE X E e te se) (hg : DG X tg g sg) (hs : swapsWithSole [tg] e pos.line X.env = pure false := by rfl) (hw : swappedStores [tg] e X.env = pure none := by rfl)
    (h1 : (assignEach [tg] X.env).map (·.2) = [assign tg X.env] := by rfl) : DS X E (.Assign [tg] e pos) (tAsg te g) (asgS se sg) := ⟨ps_asg he.pe hg.pg hs hw h1,
  dsr_expr (f := fun x ρ w1 => match x with | .dat d => (match sg d ρ with | some ρ1 => .nx ρ1 w1 | none => .stuck) | .vw _ => .stuck) (k := fun D v σ H1 => g v σ H1 D.nx) he.dr (fun _ _ _ q => q) fun F0 H0 F H ι0 ι w σ ρ D v x st wd l r o => by
    cases x with
    | vw c => exact False.elim o
    | dat d =>
      cases q : sg d ρ with
      | none => simp only [q] at o; exact False.elim o
      | some ρ1 => simp only [q] at o; exact hg.dr H0 F H ι σ ρ ρ1 v d wd.ex l r q _ fun σ' l' => o σ' F H ι (Rch.now st) wd l'⟩
end
end DL

/-! Comprehensions; things of a slot's own; changing things. -/
namespace DL
open PySem PySem.Spec PyProof.Rows L2

/-! ### comprehensions -/
def wipeS (ρ : List Slot) : List Nat → List Slot
  | [] => ρ
  | v :: vs => (wipeS ρ vs).set v .non
section
variable {K : PySem.W.Frag} {E : XK} {F H F' H' : Hp} {ι ι' : List Addr} {H0 : Hp} {σ : L2.St} {ρ : List Slot}
theorem Sl.forget (h : Sl K H0 F H ι σ ρ) (i : Nat) : Sl K H0 F H ι (σ.set i none) (ρ.set i .non) where
  len := by simp [h.len]
  at_ := fun j t e => by
    by_cases z : i = j
    · subst z
      by_cases hl : i < ρ.length
      · rw [List.getElem?_set_self hl] at e; cases e; trivial
      · rw [List.getElem?_eq_none (by simp; omega)] at e; cases e
    · rw [List.getElem?_set_ne z] at e ⊢
      exact h.at_ j t e
  sep := fun j k c c' p e1 e2 e3 e4 => by
    by_cases z : i = j
    · subst z
      by_cases hl : i < ρ.length
      · rw [List.getElem?_set_self hl] at e1; cases e1
      · rw [List.getElem?_eq_none (by simp; omega)] at e1; cases e1
    · by_cases y : i = k
      · subst y
        by_cases hl : i < ρ.length
        · rw [List.getElem?_set_self hl] at e2; cases e2
        · rw [List.getElem?_eq_none (by simp; omega)] at e2; cases e2
      · rw [List.getElem?_set_ne z] at e1 e3
        rw [List.getElem?_set_ne y] at e2 e4
        exact h.sep j k c c' p e1 e2 e3 e4
theorem Sl.wipe (h : Sl K H0 F H ι σ ρ) : ∀ vs : List Nat, Sl K H0 F H ι (L2.wipe σ vs) (wipeS ρ vs)
  | [] => h
  | v :: vs => (Sl.wipe h vs).forget v
/-- something made since H is changed -/
theorem Stp.poke {p : Addr} {o : HO} (s : Stp F H ι F' H' ι') (h : H p = none) : Stp F H ι F' (upd H' p o) ι' where
  ex := s.ex
  keep := fun a u n e => by rw [upd_ne (ne_of_none e h)]; exact s.keep a u n e
  kin := fun a u e => by rw [upd_ne (ne_of_none e h)]; exact s.kin a u e
  new := s.new
  ext := s.ext
theorem Wd.poke {w : W} {p : Addr} {o : HO} (d : Wd K F H ι w) (h : F p = none) (n : p ∉ ι) : Wd K F (upd H p o) ι w := by
  refine ⟨fun a u e => ?_, d.len, d.nd, fun m a c h1 h2 => ?_⟩
  · rw [upd_ne (ne_of_none e h)]; exact d.ex a u e
  · obtain ⟨q, r⟩ := d.cel m a c h1 h2
    have z : a ≠ p := fun z => by
      subst z
      exact n (List.mem_of_getElem? h1)
    exact ⟨q, r.mono (Ex.refl F) (fun _ _ h => h) fun u e => by rw [upd_ne z]; exact e⟩
end
/-- tests -/
def yesT : SemT := fun _ w => .ok true w
structure DTs (X : Cx) (E : XK) (ifs : List Expr) (tt : TT) (s : SemT) : Prop where
  pt : PTs X ifs tt
  dr : DRT X.K E tt s
theorem dts_nil {X : Cx} {E : XK} : DTs X E [] tYes yesT := ⟨pts_nil, drt_c true⟩
theorem dts_one {X : Cx} {E : XK} {c : Expr} {tt : TT} {s : SemT} (h : DT X E c tt s) : DTs X E [c] tt s := ⟨pts_one h.pt, h.dr⟩
abbrev EF : XK := fun _ _ _ => False
def lcL (g : SemG) (st : SemT) (se : SemE) (ρ : List Slot) : List D → W → List D → R (List D)
  | [], w, acc => .ok acc w
  | d :: r, w, acc => match g d ρ with
    | none => .stuck
    | some ρ1 => (match st ρ1 w with
      | .ok true w1 => (match se ρ1 w1 with
        | .ok (.dat y) w2 => if acc.length < most then lcL g st se ρ r w2 (acc ++ [y]) else .stuck
        | _ => .stuck)
      | .ok false w1 => lcL g st se ρ r w1 acc
      | _ => .stuck)
def lcE (si : SemI) (g : SemG) (st : SemT) (se : SemE) (vs : List Nat) : SemE := fun ρ w => (si ρ w).bind fun items w1 => (lcL g st se (wipeS ρ vs) items w1 []).bind fun ds w2 => .ok (.dat (.lst ds)) w2
theorem dr_lc {K : PySem.W.Frag} {E : XK} {wi : TI} {g : TG} {tt : TT} {te : TE} {si : SemI} {sg : SemG} {st : SemT} {se : SemE} {vs : List Nat} (hi : DRI K E wi si) (hg : DRG K g sg) (ht : DRT K EF tt st) (he : DR K EF te se)
    (hw : ∀ x σ H Q, g x (L2.wipe σ vs) H Q → g x (L2.wipe σ vs) H fun σ2 H2 => L2.wipe σ2 vs = L2.wipe σ vs ∧ Q σ2 H2) : DR K E (tLc wi g tt te vs) (lcE si sg st se vs) := by
  intro H0 F H ι w σ ρ wd l
  have hI := hi H0 F H ι w σ ρ wd l
  unfold lcE
  cases e : si ρ w with
  | stuck => trivial
  | exc x w1 => rw [e] at hI; exact fun q Q => hI q _
  | ok items w1 =>
    rw [e] at hI
    show Meets _ _ ((lcL sg st se (wipeS ρ vs) items w1 []).bind _)
    have main : ∀ (r : R (List D)), lcL sg st se (wipeS ρ vs) items w1 [] = r → ∀ ds w2, r = .ok ds w2 → ∀ Q : VK, OkV K F H ι (.dat (.lst ds)) w2 Q → tLc wi g tt te vs σ H Q := by
      intro r er ds w2 ew Q q
      refine hI _ fun J F1 H1 ι1 s1 d1 it D hD => ?_
      have l1 : Sl K H0 F1 H1 ι1 (L2.wipe σ vs) (wipeS ρ vs) := (l.mono s1).wipe vs
      have fD := d1.free hD
      have nD : D ∉ ι1 := fun z => by
        obtain ⟨_, o, ho⟩ := d1.ne z
        rw [hD] at ho; cases ho
      refine ⟨fun i m H' => i + m = items.length ∧ ∃ F' ι' w' acc xs, Stp F1 H1 ι1 F' H' ι' ∧ Wd K F' H' ι' w' ∧ F' D = none ∧ D ∉ ι' ∧ H' D = some (.lst xs) ∧ RepA K F' ι' xs acc ∧ lcL sg st se (wipeS ρ vs) (items.drop i) w' acc = .ok ds w2,
        ⟨items.length, by simp, F1, ι1, w1, [], [], Stp.poke Stp.refl hD, d1.poke fD nD, fD, nD, upd_same, .nil, by rw [List.drop_zero, er, ew]⟩, ?_⟩
      rintro i m H' ⟨em, F', ι', w', acc, xs, s', d', fD', nD', hD', ra, eL⟩
      obtain ⟨go, stop, yld⟩ := it F' H' ι' w' s'.ex s'.ix d' i
      by_cases h : i < items.length
      · right
        have ed : items.drop i = items[i] :: items.drop (i + 1) := List.drop_eq_getElem_cons h
        refine ⟨go h, fun H2 => ∃ F2 ι2 w2' acc2 xs2, Stp F1 H1 ι1 F2 H2 ι2 ∧ Wd K F2 H2 ι2 w2' ∧ F2 D = none ∧ D ∉ ι2 ∧ H2 D = some (.lst xs2) ∧ RepA K F2 ι2 xs2 acc2 ∧ lcL sg st se (wipeS ρ vs) (items.drop (i + 1)) w2' acc2 = .ok ds w2,
          fun H2 hN => ⟨m - 1, by omega, by omega, hN⟩, fun x H3 hy => ?_⟩
        obtain ⟨d, F3, ed2, s3, d3, r3⟩ := yld x H3 h hy
        have edd : items[i] = d := by
          rw [List.getElem?_eq_getElem h] at ed2
          exact Option.some.inj ed2
        rw [ed, edd] at eL
        unfold lcL at eL
        have st3 := s'.trans s3
        have hD3 : H3 D = some (.lst xs) := s3.keep D _ nD' hD'
        have fD3 : F3 D = none := by
          cases z : F3 D with
          | none => rfl
          | some o =>
            rcases s3.new D o z with y | y
            · rw [fD'] at y; cases y
            · rw [hD'] at y; cases y
        have ra3 : RepA K F3 ι' xs acc := ra.mono s3.ex s3.ix
        cases q1 : sg d (wipeS ρ vs) with
        | none => rw [q1] at eL; cases eL
        | some ρ1 =>
          rw [q1] at eL
          refine hw x σ H3 _ ?_
          refine hg H0 F3 H3 ι' (L2.wipe σ vs) (wipeS ρ vs) ρ1 x d d3.ex (l1.mono st3) r3 q1 _ fun σ2 l2 => ?_
          cases q2 : st ρ1 w' with
          | stuck => simp only [q2] at eL; cases eL
          | exc y w3 => simp only [q2] at eL; cases eL
          | ok b w3 =>
            refine ht.ok d3 l2 q2 fun F4 H4 ι4 s4 d4 => ?_
            have hD4 : H4 D = some (.lst xs) := s4.keep D _ nD' hD3
            have nD4 : D ∉ ι4 := s4.out hD3 nD'
            have fD4 : F4 D = none := by
              cases z : F4 D with
              | none => rfl
              | some o =>
                rcases s4.new D o z with y | y
                · rw [fD3] at y; cases y
                · rw [hD3] at y; cases y
            cases b with
            | false =>
              simp only [q2] at eL
              rw [if_neg Bool.false_ne_true]
              exact ⟨F4, ι4, w3, acc, xs, st3.trans s4, d4, fD4, nD4, hD4, ra3.mono s4.ex s4.ix, eL⟩
            | true =>
              simp only [q2] at eL
              rw [if_pos rfl]
              cases q3 : se ρ1 w3 with
              | stuck => simp only [q3] at eL; cases eL
              | exc y w4 => simp only [q3] at eL; cases eL
              | ok v w4 =>
                cases v with
                | vw c => simp only [q3] at eL; cases eL
                | dat y =>
                  simp only [q3] at eL
                  split at eL
                  · rename_i hlen
                    refine he.ok d4 (l2.mono s4) q3 fun u F5 H5 ι5 s5 d5 r5 => ?_
                    have hD5 : H5 D = some (.lst xs) := s5.keep D _ nD4 hD4
                    have nD5 : D ∉ ι5 := s5.out hD4 nD4
                    have fD5 : F5 D = none := by
                      cases z : F5 D with
                      | none => rfl
                      | some o =>
                        rcases s5.new D o z with y | y
                        · rw [fD4] at y; cases y
                        · rw [hD4] at y; cases y
                    have ra5 : RepA K F5 ι5 xs acc := (ra3.mono s4.ex s4.ix).mono s5.ex s5.ix
                    refine ⟨xs, hD5, by rw [ra5.length, sizeLine_eq]; exact hlen, F5, ι5, w4, acc ++ [y], xs ++ [u], Stp.poke ((st3.trans s4).trans s5) hD, d5.poke fD5 nD5, fD5, nD5, upd_same, ra5.snoc r5, eL⟩
                  · cases eL
      · left
        have ed : items.drop i = [] := List.drop_eq_nil_of_le (by omega)
        rw [ed] at eL
        unfold lcL at eL
        cases eL
        refine ⟨stop (by omega), q (.ref D) (upd F' D (.lst xs)) H' ι' ?_ ?_ ?_⟩
        · have z : Stp F1 H1 ι1 (upd F' D (.lst xs)) H' ι' := ⟨fun a o h => by rw [upd_ne (ne_of_none h fD)]; exact s'.ex a o h, s'.keep, s'.kin, fun a o h => by
            by_cases y : a = D
            · subst y; exact .inr hD
            · rw [upd_ne y] at h; exact s'.new a o h, s'.ext⟩
          exact s1.trans z
        · refine ⟨fun a o h => ?_, d'.len, d'.nd, fun n a c h1 h2 => ?_⟩
          · by_cases y : a = D
            · subst y; rw [upd_same] at h; cases h; exact hD'
            · rw [upd_ne y] at h; exact d'.ex a o h
          · obtain ⟨z1, z2⟩ := d'.cel n a c h1 h2
            have y : a ≠ D := fun y => by
              subst y
              exact nD' (List.mem_of_getElem? h1)
            exact ⟨by rw [upd_ne y]; exact z1, z2.mono (Ex.new fD') (fun _ _ h => h) fun _ h => h⟩
        · exact Rep.lst upd_same (ra.mono (Ex.new fD') fun _ _ h => h)
    cases e2 : lcL sg st se (wipeS ρ vs) items w1 [] with
    | stuck => trivial
    | ok ds w2 => exact fun Q q => main _ e2 ds w2 rfl Q q
    | exc y w2 =>
      exfalso
      have noexc : ∀ (items : List D) w acc, ∀ y w2, lcL sg st se (wipeS ρ vs) items w acc ≠ .exc y w2 := by
        intro items
        induction items with
        | nil => intro w acc y w2 h; cases h
        | cons d r ih =>
          intro w acc y w2 h
          unfold lcL at h
          split at h
          · cases h
          · split at h
            · split at h
              · split at h
                · exact ih _ _ _ _ h
                · cases h
              · cases h
            · exact ih _ _ _ _ h
            · cases h
      exact noexc _ _ _ _ _ e2
theorem wipe_name {i : Nat} : ∀ (x : V) (σ : L2.St) H (Q : L2.St → Hp → Prop), gName i x (L2.wipe σ [i]) H Q → gName i x (L2.wipe σ [i]) H fun σ2 H2 => L2.wipe σ2 [i] = L2.wipe σ [i] ∧ Q σ2 H2 := fun x σ H Q q => ⟨by
  show ((σ.set i none).set i (some x)).set i none = σ.set i none
  rw [List.set_set, List.set_set], q⟩
section
variable {X : Cx} {E : XK}
theorem de_lc {elt tg iter : Expr} {ifs : List Expr} {scope : Scope} {own : List (Str × Nat)} {pos : Pos} {wi : TI} {g : TG} {tt : TT} {te : TE} {si : SemI} {sg : SemG} {st : SemT} {se : SemE} (hN : X.N.Nodup) (hi : DI X E tg iter wi si) (ok : BlkOk X.N X.env.scope scope own)
    (hg : ∀ (s : Shared) (H : Hp) (C : Addr) (cl : List (Str × Addr)) (fp : List Addr), DG (X.blk s H scope (compEnvC scope cl C X.env) fp) tg g sg) (ht : ∀ (s : Shared) (H : Hp) (C : Addr) (cl : List (Str × Addr)) (fp : List Addr), DTs (X.blk s H scope (compEnvC scope cl C X.env) fp) EF ifs tt st)
    (he : ∀ (s : Shared) (H : Hp) (C : Addr) (cl : List (Str × Addr)) (fp : List Addr), DE (X.blk s H scope (compEnvC scope cl C X.env) fp) EF elt te se)
    (hw : ∀ x σ H Q, g x (L2.wipe σ (own.map (·.2))) H Q → g x (L2.wipe σ (own.map (·.2))) H fun σ2 H2 => L2.wipe σ2 (own.map (·.2)) = L2.wipe σ (own.map (·.2)) ∧ Q σ2 H2) (hc : X.calm = true := by rfl) (hs : ∀ x, foldedSetIterable iter X.env x = pure x := by intro _; rfl)
    (s0 : Shared) (h0 : Hp) : DE X E (.ListComp elt [⟨tg, iter, ifs, 0⟩] scope pos) (tLc wi g tt te (own.map (·.2))) (lcE si sg st se (own.map (·.2))) :=
  ⟨pe_lc hc hN hi.pi ok (fun s H C cl fp => (hg s H C cl fp).pg) (fun s H C cl fp => (ht s H C cl fp).pt) (fun s H C cl fp => (he s H C cl fp).pe) hs,
    dr_lc hi.dr (hg s0 h0 0 [] []).dr (ht s0 h0 0 [] []).dr (he s0 h0 0 [] []).dr hw⟩
theorem ds_setLc {i : Nat} {y : Str} {py : Pos} {elt tg iter : Expr} {ifs : List Expr} {scope : Scope} {own : List (Str × Nat)} {pos spos : Pos} {wi : TI} {g : TG} {tt : TT} {te : TE} {si : SemI} {sg : SemG} {st : SemT} {se : SemE} (hN : X.N.Nodup)
    (hi : DI X E tg iter wi si) (ok : BlkOk X.N X.env.scope scope own)
    (hg : ∀ (s : Shared) (H : Hp) (C : Addr) (cl : List (Str × Addr)) (fp : List Addr), DG (X.blk s H scope (compEnvC scope cl C X.env) fp) tg g sg) (ht : ∀ (s : Shared) (H : Hp) (C : Addr) (cl : List (Str × Addr)) (fp : List Addr), DTs (X.blk s H scope (compEnvC scope cl C X.env) fp) EF ifs tt st)
    (he : ∀ (s : Shared) (H : Hp) (C : Addr) (cl : List (Str × Addr)) (fp : List Addr), DE (X.blk s H scope (compEnvC scope cl C X.env) fp) EF elt te se)
    (hw : ∀ x σ H Q, g x (L2.wipe σ (own.map (·.2))) H Q → g x (L2.wipe σ (own.map (·.2))) H fun σ2 H2 => L2.wipe σ2 (own.map (·.2)) = L2.wipe σ (own.map (·.2)) ∧ Q σ2 H2)
    (hsw : swapsWith (.ListComp elt [⟨tg, iter, ifs, 0⟩] scope pos) (some (.Name y py)) spos.line X.env = pure true) (s0 : Shared) (h0 : Hp) (hc : X.calm = true := by rfl) (hy : X.N[i]? = some y := by rfl) (hyl : X.env.scope.names.lookup y = some .local := by rfl) (hs : ∀ x, foldedSetIterable iter X.env x = pure x := by intro _; rfl) :
    DS X E (.Assign [.Name y py] (.ListComp elt [⟨tg, iter, ifs, 0⟩] scope pos) spos) (tAsg (tLc wi g tt te (own.map (·.2))) (gName i)) (setS i (lcE si sg st se (own.map (·.2)))) :=
  ⟨ps_setLc hc hN hy hyl hsw hi.pi ok (fun s H C cl fp => (hg s H C cl fp).pg) (fun s H C cl fp => (ht s H C cl fp).pt) (fun s H C cl fp => (he s H C cl fp).pe) hs,
    dsr_set i (dr_lc hi.dr (hg s0 h0 0 [] []).dr (ht s0 h0 0 [] []).dr (he s0 h0 0 [] []).dr hw)⟩
end
end DL

/-! Things of a slot's own; changing things. -/
namespace DL
open PySem PySem.Spec PyProof.Rows L2

/-- a value for a slot: data, or a thing made since the heap B -/
def RepO (K : PySem.W.Frag) (B F H : Hp) (ι : List Addr) (v : V) : Slot → Prop
  | .non => False
  | .dat d => Rep K F ι v d
  | .own c => ∃ p, v = .ref p ∧ B p = none ∧ F p = none ∧ p ∉ ι ∧ CellAt K F H ι p c
abbrev SemO2 := List Slot → W → R Slot
def OkO (K : PySem.W.Frag) (F H : Hp) (ι : List Addr) (x : Slot) (w' : W) (Q : VK) : Prop := ∀ v F' H' ι', Stp F H ι F' H' ι' → Wd K F' H' ι' w' → RepO K H F' H' ι' v x → Q v H'
def DRW (K : PySem.W.Frag) (E : XK) (te : TE) (s : SemO2) : Prop := ∀ (H0 F H : Hp) (ι : List Addr) (w : W) (σ : L2.St) (ρ : List Slot), Wd K F H ι w → Sl K H0 F H ι σ ρ →
  Meets (fun x w' => ∀ Q : VK, OkO K F H ι x w' Q → te σ H Q) (fun x w' => XPost K E F H ι x w' → ∀ Q, te σ H Q) (s ρ w)
/-- an expression for a slot -/
structure DEo (X : Cx) (E : XK) (e : Expr) (te : TE) (s : SemO2) : Prop where
  pe : PE X e te
  dr : DRW X.K E te s
def datO (s : SemE) : SemO2 := fun ρ w => (s ρ w).bind fun x w1 => match x with
  | .dat d => .ok (.dat d) w1
  | .vw _ => .stuck
def lstO (sa : SemA) : SemO2 := fun ρ w => (sa ρ w).bind fun ds w1 => if ds.length ≤ most then .ok (.own (.lst ds)) w1 else .stuck
def dctO : SemO2 := fun _ w => .ok (.own (.dct [])) w
section
variable {X : Cx} {E : XK} {e : Expr} {es : List Expr} {te : TE} {ta : TA} {s : SemE} {sa : SemA} {pos : Pos}
theorem deo (h : DE X E e te s) : DEo X E e te (datO s) := ⟨h.pe, by
  intro H0 F H ι w σ ρ wd l
  unfold datO
  cases e : s ρ w with
  | stuck => trivial
  | exc x w1 => exact fun q Q => h.dr.exc wd l e q _
  | ok x w1 =>
    cases x with
    | vw _ => trivial
    | dat d => exact fun Q q => h.dr.ok wd l e fun v F1 H1 ι1 s1 d1 r1 => q v F1 H1 ι1 s1 d1 r1⟩
theorem Stp.only {F H : Hp} {ι : List Addr} {p : Addr} {o : HO} (h : H p = none) : Stp F H ι F (upd H p o) ι := Stp.poke Stp.refl h
theorem deo_lst (ha : DA X E es ta sa) : DEo X E (.List es pos) (tLst ta) (lstO sa) := ⟨pe_lst ha.pa, by
  intro H0 F H ι w σ ρ wd l
  unfold lstO
  cases e : sa ρ w with
  | stuck => trivial
  | exc x w1 => exact fun q Q => ha.dr.exc wd l e q _
  | ok ds w1 =>
    show Meets _ _ (if ds.length ≤ most then (.ok (.own (.lst ds)) w1 : R Slot) else .stuck)
    by_cases h : ds.length ≤ most
    · rw [if_pos h]
      intro Q q
      refine ha.dr.ok wd l e fun xs F1 H1 ι1 s1 d1 r1 => ⟨by rw [r1.length]; exact most_le h, fun p hp => ?_⟩
      have fp := d1.free hp
      have np : p ∉ ι1 := fun z => by
        obtain ⟨_, o, ho⟩ := d1.ne z
        rw [hp] at ho; cases ho
      have hp0 : H p = none := by
        cases z : H p with
        | none => rfl
        | some o =>
          obtain ⟨o', h'⟩ := s1.kin p o z
          rw [hp] at h'; cases h'
      exact q (.ref p) F1 _ ι1 (s1.trans (Stp.only hp)) (d1.poke fp np) ⟨p, rfl, hp0, fp, np, xs, upd_same, r1⟩
    · rw [if_neg h]; trivial⟩
theorem deo_dct : DEo X E (.Dict [] [] pos) tDNewK dctO := ⟨pe_dnewK, by
  intro H0 F H ι w σ ρ wd l Q q
  intro p hp
  have fp := wd.free hp
  have np : p ∉ ι := fun z => by
    obtain ⟨_, o, ho⟩ := wd.ne z
    rw [hp] at ho; cases ho
  exact q (.ref p) F _ ι (Stp.only hp) (wd.poke fp np) ⟨p, rfl, hp, fp, np, [], upd_same, .nil⟩⟩
end
section
variable {K : PySem.W.Frag} {E : XK} {F H F' H' : Hp} {ι ι' : List Addr} {H0 : Hp} {σ : L2.St} {ρ : List Slot}
theorem RepO.back {B : Hp} {v : V} {x : Slot} (b : ∀ a o, H0 a = some o → ∃ o', B a = some o') (h : RepO K B F H ι v x) : RepO K H0 F H ι v x := by
  cases x with
  | non => exact h
  | dat d => exact h
  | own c =>
    obtain ⟨p, e, h1, h2⟩ := h
    refine ⟨p, e, ?_, h2⟩
    cases z : H0 p with
    | none => rfl
    | some o =>
      obtain ⟨_, y⟩ := b p o z
      rw [h1] at y; cases y
/-- a slot gets such a value; what it owns is not what another slot owns -/
theorem Sl.put {i : Nat} {v : V} {x : Slot} (h : Sl K H0 F H ι σ ρ) (r : RepO K H0 F H ι v x) (fresh : ∀ c p, x = .own c → v = .ref p → ∀ (j : Nat) c', ρ[j]? = some (.own c') → j ≠ i → σ[j]? ≠ some (some (.ref p))) : Sl K H0 F H ι (σ.set i (some v)) (ρ.set i x) where
  len := by simp [h.len]
  at_ := fun j t e => by
    by_cases z : i = j
    · subst z
      by_cases hl : i < ρ.length
      · rw [List.getElem?_set_self hl] at e
        cases e
        rw [List.getElem?_set_self (by rw [h.len]; exact hl)]
        cases x with
        | non => exact False.elim r
        | dat d => exact ⟨v, rfl, r⟩
        | own c => obtain ⟨p, rfl, h1, h2, h3, h4⟩ := r; exact ⟨p, rfl, h1, h2, h3, h4⟩
      · rw [List.getElem?_eq_none (by simp; omega)] at e; cases e
    · rw [List.getElem?_set_ne z] at e ⊢
      exact h.at_ j t e
  sep := fun j k c c' p e1 e2 e3 e4 => by
    by_cases z : i = j
    · subst z
      by_cases y : i = k
      · exact y
      · by_cases hl : i < ρ.length
        · rw [List.getElem?_set_self hl] at e1
          rw [List.getElem?_set_self (by rw [h.len]; exact hl)] at e3
          rw [List.getElem?_set_ne y] at e2 e4
          cases e1
          cases e3
          exact absurd e4 (fresh c p rfl rfl k c' e2 (Ne.symm y))
        · rw [List.getElem?_eq_none (by simp; omega)] at e1; cases e1
    · by_cases y : i = k
      · subst y
        by_cases hl : i < ρ.length
        · rw [List.getElem?_set_self hl] at e2
          rw [List.getElem?_set_self (by rw [h.len]; exact hl)] at e4
          rw [List.getElem?_set_ne z] at e1 e3
          cases e2
          cases e4
          exact absurd e3 (fresh c' p rfl rfl j c e1 (Ne.symm z))
        · rw [List.getElem?_eq_none (by simp; omega)] at e2; cases e2
      · rw [List.getElem?_set_ne z] at e1 e3
        rw [List.getElem?_set_ne y] at e2 e4
        exact h.sep j k c c' p e1 e2 e3 e4
/-- what a slot owns stands in the heap -/
theorem Sl.there (h : Sl K H0 F H ι σ ρ) {j : Nat} {c : Cell} {p : Addr} (e : ρ[j]? = some (.own c)) (e2 : σ[j]? = some (some (.ref p))) : ∃ o, H p = some o := by
  obtain ⟨q, e3, _, _, _, r⟩ := h.at_ j _ e
  rw [e2] at e3
  cases e3
  exact r.there
end
/-- name = e for a slot -/
def setO (i : Nat) (s : SemO2) : SemS := fun ρ w => (s ρ w).out fun x w1 => .nx (ρ.set i x) w1
/-- name, name = e, e for slots -/
def parO (i j : Nat) (s t : SemO2) : SemS := fun ρ w => (s ρ w).out fun x w1 => (t ρ w1).out fun y w2 => .nx ((ρ.set i x).set j y) w2
section
variable {X : Cx} {E : XK} {e e2 : Expr} {te te2 : TE} {so so2 : SemO2} {pos : Pos}
theorem Stp.kinN {F0 H0 F H : Hp} {ι0 ι : List Addr} (s : Stp F0 H0 ι0 F H ι) : ∀ a o, H0 a = some o → ∃ o', H a = some o' := s.kin
theorem ds_setO {i : Nat} {x : Str} {pos' : Pos} (h : DEo X E e te so) (hN : X.N.Nodup) (hi : X.N[i]? = some x := by rfl) (hx : Loc X.env.scope x := by first | exact Or.inl rfl | exact Or.inr rfl)
    (hs : swapsWith e (some (.Name x pos')) pos.line X.env = pure false := by rfl) (hf : X.fn x = true ∨ X.env.scope.names.lookup x = some .local := by first | exact .inl rfl | exact .inr rfl) :
    DS X E (.Assign [.Name x pos'] e pos) (tAsg te (gName i)) (setO i so) := ⟨ps_set hN hi hx h.pe hs hf, by
  intro F0 H0 F H ι0 ι w σ ρ D st wd l o
  have hh := h.dr H0 F H ι w σ ρ wd l
  unfold setO at o
  cases q : so ρ w with
  | stuck => rw [q] at o; exact False.elim o
  | exc x w1 => rw [q] at o hh; exact hh (XPost.step st o) _
  | ok x w1 =>
    rw [q] at o hh
    refine hh _ fun v F1 H1 ι1 s1 d1 r1 => ?_
    refine o _ F1 H1 ι1 ((Rch.now st).step s1) d1 ((l.mono s1).put (r1.back st.kin) fun c p ex ev j c' e1 _ e3 => ?_)
    subst ex ev
    obtain ⟨p', e', h1, _⟩ := r1
    cases e'
    obtain ⟨u, hu⟩ := l.there e1 e3
    rw [h1] at hu; cases hu⟩
theorem ds_parO {i j : Nat} {x y : Str} {a b : Expr} {px py pt : Pos} {kt k2 pt2} (hN : X.N.Nodup) (h1 : DEo X E a te so) (h2 : DEo X E b te2 so2) (hs1 : starEach [a, b] X.env = (false, eval a X.env) :: starEach [b] X.env := by rfl) (hs2 : starEach [b] X.env = (false, eval b X.env) :: starEach [] X.env := by rfl) (hc : X.calm = true := by rfl) (hi : X.N[i]? = some x := by rfl) (hj : X.N[j]? = some y := by rfl) (hij : i ≠ j := by decide)
    (hx : X.env.scope.names.lookup x = some .local := by rfl) (hy : X.env.scope.names.lookup y = some .local := by rfl)
    (hw : swappedStores [.Tuple [.Name x px, .Name y py] kt pt] (.Tuple [a, b] k2 pt2) X.env = pure (some [x, y]) := by rfl)
    (hs : swapsWithSole [.Tuple [.Name x px, .Name y py] kt pt] (.Tuple [a, b] k2 pt2) pos.line X.env = pure false := by rfl) :
    DS X E (.Assign [.Tuple [.Name x px, .Name y py] kt pt] (.Tuple [a, b] k2 pt2) pos) (tPar i j (tCons te (tCons te2 tNil))) (parO i j so so2) := ⟨ps_par hc hN hi hj hij hx hy (pa_cons h1.pe (pa_cons h2.pe pa_nil hs2) hs1) hw hs, by
  intro F0 H0 F H ι0 ι w σ ρ D st wd l o
  have g1 := h1.dr H0 F H ι w σ ρ wd l
  unfold parO at o
  show te σ H _
  cases q : so ρ w with
  | stuck => rw [q] at o; exact False.elim o
  | exc x w1 => rw [q] at o g1; exact g1 (XPost.step st o) _
  | ok x w1 =>
    rw [q] at o g1
    refine g1 _ fun v F1 H1 ι1 s1 d1 r1 => ?_
    show te2 σ H1 _
    have l1 := l.mono s1
    have g2 := h2.dr H0 F1 H1 ι1 w1 σ ρ d1 l1
    have o : OutOk X.K E F0 H0 ι0 F ι D ((so2 ρ w1).out fun y w2 => .nx ((ρ.set i x).set j y) w2) := o
    cases q2 : so2 ρ w1 with
    | stuck => rw [q2] at o; exact False.elim o
    | exc y w2 => rw [q2] at o g2; exact g2 (XPost.step (st.trans s1) o) _
    | ok y w2 =>
      rw [q2] at o g2
      refine g2 _ fun u F2 H2 ι2 s2 d2 r2 => ?_
      refine ⟨v, u, rfl, o _ F2 H2 ι2 (((Rch.now st).step s1).step s2) d2 ?_⟩
      have r1' : RepO X.K H F2 H2 ι2 v x := by
        cases x with
        | non => exact r1
        | dat d => exact Rep.mono s2.ex s2.ix r1
        | own c =>
          obtain ⟨p, e, b1, b2, b3, b4⟩ := r1
          obtain ⟨p', e', z1, z2, z3⟩ := RepV.mono (x := .vw c) s2 (⟨p, rfl, b2, b3, b4⟩ : RepV X.K F1 H1 ι1 (.ref p) (.vw c))
          cases e'
          exact ⟨p, e, b1, z1, z2, z3⟩
      have la : Sl X.K H0 F2 H2 ι2 (σ.set i (some v)) (ρ.set i x) := (l1.mono s2).put (r1'.back st.kin) fun c p ex ev k c' e1 _ e3 => by
        subst ex ev
        obtain ⟨p', e', b1, _⟩ := r1
        cases e'
        obtain ⟨z, hz⟩ := l.there e1 e3
        rw [b1] at hz; cases hz
      refine la.put (r2.back (st.trans s1).kin) fun c p ex ev k c' e1 hk e3 => ?_
      subst ex ev
      obtain ⟨p', e', b1, _⟩ := r2
      cases e'
      by_cases hk2 : i = k
      · subst hk2
        by_cases hl : i < ρ.length
        · rw [List.getElem?_set_self hl] at e1
          rw [List.getElem?_set_self (by rw [l.len]; exact hl)] at e3
          cases e1
          cases e3
          obtain ⟨_, e5, _, _, _, z4⟩ := r1
          cases e5
          obtain ⟨z, hz⟩ := z4.there
          rw [b1] at hz; cases hz
        · rw [List.getElem?_eq_none (by simp; omega)] at e1; cases e1
      · rw [List.getElem?_set_ne hk2] at e1 e3
        obtain ⟨z, hz⟩ := l1.there e1 e3
        rw [b1] at hz; cases hz⟩
end
/-! ### from a slot's own to data -/
def Cell.d : Cell → D
  | .lst ds => .lst ds
  | .dct es => .dct es
  | .obj c es => .obj c es
  | .dead => .non
def frz (i : Nat) (ρ : List Slot) : List Slot := match ρ[i]? with
  | some (.own (.lst ds)) => ρ.set i (.dat (.lst ds))
  | some (.own (.dct es)) => ρ.set i (.dat (.dct es))
  | some (.own (.obj c es)) => ρ.set i (.dat (.obj c es))
  | _ => ρ
def frzS (i : Nat) (s : SemS) : SemS := fun ρ w => s (frz i ρ) w
section
variable {K : PySem.W.Frag} {E : XK} {F H : Hp} {ι : List Addr} {H0 : Hp} {σ : L2.St} {ρ : List Slot}
theorem frz_one {F0 : Hp} {ι0 : List Addr} {w : W} {i : Nat} {p : Addr} {o : HO} {d : D} {c : Cell} (st : Stp F0 H0 ι0 F H ι) (wd : Wd K F H ι w) (l : Sl K H0 F H ι σ ρ) (e : ρ[i]? = some (.own c)) (es : σ[i]? = some (some (.ref p))) (ho : H p = some o) (r : Rep K (upd F p o) ι (.ref p) d)
    (h0 : H0 p = none) (hF : F p = none) (hn : p ∉ ι) : Rch F0 H0 ι0 F ι (upd F p o) H ι ∧ Wd K (upd F p o) H ι w ∧ Sl K H0 (upd F p o) H ι σ (ρ.set i (.dat d)) := by
  have hx : Ex F (upd F p o) := Ex.new hF
  refine ⟨⟨⟨st.ex.trans hx, st.keep, st.kin, fun a u q => ?_, st.ext⟩, hx, fun _ _ h => h⟩, ⟨fun a u q => ?_, wd.len, wd.nd, fun n a c h1 h2 => ?_⟩, ?_⟩
  · by_cases z : a = p
    · subst z; exact .inr h0
    · rw [upd_ne z] at q; exact st.new a u q
  · by_cases z : a = p
    · subst z; rw [upd_same] at q; cases q; exact ho
    · rw [upd_ne z] at q; exact wd.ex a u q
  · obtain ⟨q1, q2⟩ := wd.cel n a c h1 h2
    have z : a ≠ p := fun z => by
      subst z
      exact hn (List.mem_of_getElem? h1)
    exact ⟨by rw [upd_ne z]; exact q1, q2.mono hx (fun _ _ h => h) fun _ h => h⟩
  · refine ⟨by simp [l.len], fun j t q => ?_, fun j k c1 c2 p' e1 e2 e3 e4 => ?_⟩
    · by_cases z : i = j
      · subst z
        have hl : i < ρ.length := (List.getElem?_eq_some_iff.mp e).1
        rw [List.getElem?_set_self hl] at q
        cases q
        exact ⟨_, es, r⟩
      · rw [List.getElem?_set_ne z] at q
        have y := l.at_ j t q
        cases t with
        | non => trivial
        | dat d' => obtain ⟨v, y1, y2⟩ := y; exact ⟨v, y1, y2.mono hx fun _ _ h => h⟩
        | own c' =>
          obtain ⟨p', y1, y2, y3, y4, y5⟩ := y
          have np : p' ≠ p := fun u => by
            subst u
            exact z (l.sep i j c c' p' e q es y1)
          exact ⟨p', y1, y2, by rw [upd_ne np]; exact y3, y4, y5.mono hx (fun _ _ h => h) fun _ h => h⟩
    · by_cases z : i = j
      · subst z
        have hl : i < ρ.length := (List.getElem?_eq_some_iff.mp e).1
        rw [List.getElem?_set_self hl] at e1; cases e1
      · by_cases y : i = k
        · subst y
          have hl : i < ρ.length := (List.getElem?_eq_some_iff.mp e).1
          rw [List.getElem?_set_self hl] at e2; cases e2
        · rw [List.getElem?_set_ne z] at e1
          rw [List.getElem?_set_ne y] at e2
          exact l.sep j k c1 c2 p' e1 e2 e3 e4
theorem dsr_frz {ts : TS} {s : SemS} (i : Nat) (h : DSR K E ts s) : DSR K E ts (frzS i s) := by
  intro F0 H0 F H ι0 ι w σ ρ D st wd l o
  have o : OutOk K E F0 H0 ι0 F ι D (s (frz i ρ) w) := o
  have same : frz i ρ = ρ → ts D σ H := fun e => h F0 H0 F H ι0 ι w σ ρ D st wd l (by rw [e] at o; exact o)
  cases e : ρ[i]? with
  | none => exact same (by unfold frz; rw [e])
  | some t =>
    cases t with
    | non => exact same (by unfold frz; rw [e])
    | dat d => exact same (by unfold frz; rw [e])
    | own c =>
      obtain ⟨p, es, h0, hF, hn, hc⟩ := l.at_ i _ e
      cases c with
      | dead => exact same (by unfold frz; rw [e])
      | lst ds =>
        obtain ⟨xs, hx, r⟩ := hc
        obtain ⟨a, b, c⟩ := frz_one st wd l e es hx (Rep.lst upd_same (r.mono (Ex.new hF) fun _ _ h => h)) h0 hF hn
        have ef : frz i ρ = ρ.set i (.dat (.lst ds)) := by unfold frz; rw [e]
        rw [ef] at o
        exact h F0 H0 _ H ι0 ι w σ _ D a.st b c (OutOk.step a o)
      | dct ds =>
        obtain ⟨xs, hx, r⟩ := hc
        obtain ⟨a, b, c⟩ := frz_one st wd l e es hx (Rep.dct upd_same (r.mono (Ex.new hF) fun _ _ h => h)) h0 hF hn
        have ef : frz i ρ = ρ.set i (.dat (.dct ds)) := by unfold frz; rw [e]
        rw [ef] at o
        exact h F0 H0 _ H ι0 ι w σ _ D a.st b c (OutOk.step a o)
      | obj cn ds =>
        obtain ⟨dx, xs, hx, r⟩ := hc
        obtain ⟨a, b, c⟩ := frz_one st wd l e es hx (Rep.obj upd_same (r.mono (Ex.new hF) fun _ _ h => h)) h0 hF hn
        have ef : frz i ρ = ρ.set i (.dat (.obj cn ds)) := by unfold frz; rw [e]
        rw [ef] at o
        exact h F0 H0 _ H ι0 ι w σ _ D a.st b c (OutOk.step a o)
end
theorem ds_frz {X : Cx} {E : XK} {st : Stmt} {ts : TS} {s : SemS} (i : Nat) (h : DS X E st ts s) : DS X E st ts (frzS i s) := ⟨h.ps, dsr_frz i h.dr⟩
/-! ### append, a[i] = e -/
/-- the thing of a slot changes -/
def chg (i : Nat) (f : Cell → Option Cell) (ρ : List Slot) (w : W) : Option (List Slot × W) := match ρ[i]? with
  | some (.own c) => (f c).map fun c' => (ρ.set i (.own c'), w)
  | some (.dat (.ptr n)) => (match w[n]? with
    | some c => (f c).map fun c' => (ρ, w.set n c')
    | none => none)
  | _ => none
section
variable {K : PySem.W.Frag} {E : XK} {F H : Hp} {ι : List Addr} {H0 : Hp} {σ : L2.St} {ρ : List Slot}
/-- behind a change -/
theorem chg_ok {F0 : Hp} {ι0 : List Addr} {w : W} {i : Nat} {f : Cell → Option Cell} {ρ' : List Slot} {w' : W} (st : Stp F0 H0 ι0 F H ι) (wd : Wd K F H ι w) (l : Sl K H0 F H ι σ ρ) (e : chg i f ρ w = some (ρ', w')) :
    ∃ p c c', σ[i]? = some (some (.ref p)) ∧ F p = none ∧ CellAt K F H ι p c ∧ f c = some c' ∧ ∀ o, CellAt K F (upd H p o) ι p c' → Rch F0 H0 ι0 F ι F (upd H p o) ι ∧ Wd K F (upd H p o) ι w' ∧ Sl K H0 F (upd H p o) ι σ ρ' := by
  unfold chg at e
  cases q : ρ[i]? with
  | none => rw [q] at e; cases e
  | some t =>
    cases t with
    | non => rw [q] at e; cases e
    | own c =>
      rw [q] at e
      have e : (f c).map (fun c' => (ρ.set i (.own c'), w)) = some (ρ', w') := e
      cases q2 : f c with
      | none => rw [q2] at e; cases e
      | some c' =>
        rw [q2] at e
        cases e
        obtain ⟨p, es, h0, hF, hn, hc⟩ := l.at_ i _ q
        refine ⟨p, c, c', es, hF, hc, q2, fun o ho => ⟨⟨st.poke h0, Ex.refl _, fun _ _ h => h⟩, wd.poke hF hn, ?_⟩⟩
        have keepD : ∀ j t, i ≠ j → ρ[j]? = some t → SlAt K H0 F (upd H p o) ι σ[j]? t := fun j t z e => by
          have y := l.at_ j t e
          cases t with
          | non => trivial
          | dat d => exact y
          | own c2 =>
            obtain ⟨p', y1, y2, y3, y4, y5⟩ := y
            have np : p' ≠ p := fun u => by
              subst u
              exact z (l.sep i j c c2 p' q e es y1)
            exact ⟨p', y1, y2, y3, y4, y5.mono (Ex.refl _) (fun _ _ h => h) fun u hu => by rw [upd_ne np]; exact hu⟩
        have hl : i < ρ.length := (List.getElem?_eq_some_iff.mp q).1
        refine ⟨by simp [l.len], fun j t e => ?_, fun j k c1 c2 p' e1 e2 e3 e4 => ?_⟩
        · by_cases z : i = j
          · subst z
            rw [List.getElem?_set_self hl] at e
            cases e
            exact ⟨p, es, h0, hF, hn, ho⟩
          · rw [List.getElem?_set_ne z] at e
            exact keepD j t z e
        · have own : ∀ (j : Nat) c1, (ρ.set i (Slot.own c'))[j]? = some (Slot.own c1) → ∃ c3, ρ[j]? = some (Slot.own c3) := fun j c1 e => by
            by_cases z : i = j
            · subst z; exact ⟨c, q⟩
            · rw [List.getElem?_set_ne z] at e; exact ⟨c1, e⟩
          obtain ⟨c3, e5⟩ := own j c1 e1
          obtain ⟨c4, e6⟩ := own k c2 e2
          exact l.sep j k c3 c4 p' e5 e6 e3 e4
    | dat d =>
      cases d with
      | ptr n =>
        rw [q] at e
        cases q1 : w[n]? with
        | none => simp only [q1] at e; cases e
        | some c =>
          simp only [q1] at e
          have e : (f c).map (fun c' => (ρ, w.set n c')) = some (ρ', w') := e
          cases q2 : f c with
          | none => rw [q2] at e; cases e
          | some c' =>
            rw [q2] at e
            cases e
            obtain ⟨v, es, r⟩ := l.at_ i _ q
            cases r with
            | @ptr a _ hp =>
            obtain ⟨hF, hc⟩ := wd.cel n a c hp q1
            refine ⟨a, c, c', es, hF, hc, q2, fun o ho => ?_⟩
            have ma : a ∈ ι := List.mem_of_getElem? hp
            have hn : n < w.length := (List.getElem?_eq_some_iff.mp q1).1
            refine ⟨⟨⟨st.ex, fun b u nb hb => ?_, fun b u hb => ?_, st.new, st.ext⟩, Ex.refl _, fun _ _ h => h⟩, ⟨fun b u hb => ?_, by rw [wd.len, List.length_set], wd.nd, fun m b c1 h1 h2 => ?_⟩, ⟨l.len, fun j t e => ?_, l.sep⟩⟩
            · have z : b ≠ a := fun z => by
                subst z
                obtain ⟨more, em, hm⟩ := st.ext
                rw [em] at ma
                rcases List.mem_append.mp ma with y | y
                · exact nb y
                · rw [hm b y] at hb; cases hb
              rw [upd_ne z]
              exact st.keep b u nb hb
            · by_cases z : b = a
              · subst z; exact ⟨o, upd_same⟩
              · rw [upd_ne z]; exact st.kin b u hb
            · rw [upd_ne (ne_of_none hb hF)]; exact wd.ex b u hb
            · by_cases z : n = m
              · subst z
                rw [hp] at h1
                cases h1
                rw [List.getElem?_set_self hn] at h2
                cases h2
                exact ⟨hF, ho⟩
              · rw [List.getElem?_set_ne z] at h2
                obtain ⟨y1, y2⟩ := wd.cel m b c1 h1 h2
                have nb : b ≠ a := fun y => by
                  subst y
                  obtain ⟨g1, g2⟩ := List.getElem?_eq_some_iff.mp hp
                  obtain ⟨g3, g4⟩ := List.getElem?_eq_some_iff.mp h1
                  exact z ((List.getElem_inj wd.nd).mp (g2.trans g4.symm))
                exact ⟨y1, y2.mono (Ex.refl _) (fun _ _ h => h) fun u hu => by rw [upd_ne nb]; exact hu⟩
            · have y := l.at_ j t e
              cases t with
              | non => trivial
              | dat d => exact y
              | own c2 =>
                obtain ⟨p', y1, y2, y3, y4, y5⟩ := y
                have np : p' ≠ a := fun u => by
                  subst u
                  exact y4 ma
                exact ⟨p', y1, y2, y3, y4, y5.mono (Ex.refl _) (fun _ _ h => h) fun u hu => by rw [upd_ne np]; exact hu⟩
      | _ => rw [q] at e; cases e
end
def appF (d : D) : Cell → Option Cell
  | .lst ds => if ds.length < most then some (.lst (ds ++ [d])) else none
  | _ => none
/-- slot i holds a list -/
def lstAt (i : Nat) (ρ : List Slot) (w : W) : Bool := match ρ[i]? with
  | some (.own (.lst _)) => true
  | some (.dat (.ptr n)) => (match w[n]? with
    | some (.lst _) => true
    | _ => false)
  | _ => false
def appS (i : Nat) (s : SemE) : SemS := fun ρ w => if lstAt i ρ w then (s ρ w).out fun x w1 => match x with
  | .dat d => (match chg i (appF d) ρ w1 with
    | some (ρ', w') => .nx ρ' w'
    | none => .stuck)
  | .vw _ => .stuck
  else .stuck
def setF (k : Int) (d : D) : Cell → Option Cell
  | .lst ds => (ixN ds.length k).map fun j => .lst (ds.set j d)
  | _ => none
/-- slot i's thing [k] = e -/
def setIx2 (i : Nat) (ρ : List Slot) (x y : Val) (w : W) : Out := match x, y with
  | .dat d, .dat (.int k) => (match chg i (setF k d) ρ w with
    | some (ρ', w') => .nx ρ' w'
    | none => .stuck)
  | _, _ => .stuck
def setIxS (i : Nat) (s sk : SemE) : SemS := fun ρ w => (s ρ w).out fun x w1 => if lstAt i ρ w1 then (sk ρ w1).out fun y w2 => setIx2 i ρ x y w2 else .stuck
theorem setIx2_ok {K : PySem.W.Frag} {E : XK} {F0 H0 F : Hp} {ι0 ι : List Addr} {D : Ends} {i : Nat} {ρ : List Slot} {x y : Val} {w : W} (o : OutOk K E F0 H0 ι0 F ι D (setIx2 i ρ x y w)) :
    ∃ d k ρ' w', x = .dat d ∧ y = .dat (.int k) ∧ chg i (setF k d) ρ w = some (ρ', w') ∧ OutOk K E F0 H0 ι0 F ι D (.nx ρ' w') := by
  cases x with
  | vw _ => exact False.elim o
  | dat d =>
    cases y with
    | vw _ => exact False.elim o
    | dat y =>
      cases y with
      | int k =>
        unfold setIx2 at o
        cases q2 : chg i (setF k d) ρ w with
        | none => simp only [q2] at o; exact False.elim o
        | some pw =>
          obtain ⟨ρ', w'⟩ := pw
          simp only [q2] at o
          exact ⟨d, k, ρ', w', rfl, rfl, q2, o⟩
      | _ => exact False.elim o
theorem lstAt_ok {K : PySem.W.Frag} {F H H0 : Hp} {ι : List Addr} {w : W} {σ : L2.St} {ρ : List Slot} {i : Nat} (wd : Wd K F H ι w) (l : Sl K H0 F H ι σ ρ) (h : lstAt i ρ w = true) : ∃ p xs, σ[i]? = some (some (.ref p)) ∧ H p = some (.lst xs) := by
  unfold lstAt at h
  split at h
  · rename_i ds q
    obtain ⟨p, es, _, _, _, xs, hx, _⟩ := l.at_ i _ q
    exact ⟨p, xs, es, hx⟩
  · rename_i n q
    split at h
    · rename_i ds q1
      obtain ⟨v, es, r⟩ := l.at_ i _ q
      cases r with
      | @ptr a _ hp =>
      obtain ⟨_, xs, hx, _⟩ := wd.cel n a _ hp q1
      exact ⟨a, xs, es, hx⟩
    · cases h
  · cases h
theorem dsr_app {K : PySem.W.Frag} {E : XK} {te : TE} {s : SemE} (i : Nat) (h : DR K E te s) : DSR K E (tDrop (tBM K "list" rAppend (tVar i) (tCons te tNil))) (appS i s) := by
  intro F0 H0 F H ι0 ι w σ ρ D st wd l o
  unfold appS at o
  by_cases hl : lstAt i ρ w = true
  · rw [if_pos hl] at o
    obtain ⟨p, xs, e1, e2⟩ := lstAt_ok wd l hl
    refine ⟨.ref p, e1, .inl ⟨rfl, xs, SqL.of e2⟩, ?_⟩
    show te σ H fun y H2 => rAppend (.ref p) [y] H2 fun _ H1 => D.nx σ H1
    cases e : s ρ w with
    | stuck => rw [e] at o; exact False.elim o
    | exc x w1 => rw [e] at o; exact h.exc wd l e (XPost.step st o) _
    | ok x w1 =>
      rw [e] at o
      refine h.ok wd l e fun v F1 H1 ι1 s1 d1 r1 => ?_
      cases x with
      | vw c => exact False.elim o
      | dat d =>
        cases q : chg i (appF d) ρ w1 with
        | none => simp only [R.out, q] at o; exact False.elim o
        | some pw =>
          obtain ⟨ρ', w'⟩ := pw
          simp only [R.out, q] at o
          obtain ⟨p', c, c', e3, hF, hc, hf, k⟩ := chg_ok (st.trans s1) d1 (l.mono s1) q
          rw [e1] at e3
          cases e3
          cases c with
          | lst ds =>
            obtain ⟨ys, hy, ra⟩ := hc
            have hf : (if ds.length < most then some (Cell.lst (ds ++ [d])) else none) = some c' := hf
            by_cases hm : ds.length < most
            · rw [if_pos hm] at hf
              cases hf
              obtain ⟨a, b, c⟩ := k (.lst (ys ++ [v])) ⟨_, upd_same, ra.snoc r1⟩
              refine ⟨p, ys, v, rfl, rfl, hy, by rw [ra.length, sizeLine_eq]; exact hm, ?_⟩
              exact o σ F1 _ ι1 (((Rch.now st).step s1).more a) b c
            · rw [if_neg hm] at hf; cases hf
          | dct _ => cases hf
          | obj _ _ => cases hf
          | dead => cases hf
  · rw [if_neg hl] at o; exact False.elim o
theorem ds_app {X : Cx} {E : XK} {x : Str} {a : Expr} {ta : TE} {sa : SemE} {p apos cpos pos : Pos} (i : Nat) (h : DE X E a ta sa) (hN : X.N[i]? = some x := by rfl) (hv : Vis X.env.scope x := by first | exact Or.inl rfl | exact Or.inr (Or.inl rfl) | exact Or.inr (Or.inr rfl)) (hd : (x == ("__debug__" : Str)) = false := by decide)
    (hcd : (x == ("__classdict__" : Str)) = false := by decide) (hbase : attributeBase (.Name x p) "append" X.env (eval (.Name x p) X.env) = eval (.Name x p) X.env := by rfl)
    (hfew : ((backTo cpos (starEach [a] X.env)).all (fun x => !x.1) && (backToKw cpos (keywordEach [] X.env)).all (fun x => x.1.isSome)
      && decide ([a].length + ([] : List Keyword).length + (if ([] : List Keyword).isEmpty then 0 else 1) < 30)) = true := by rfl)
    (hline : (apos.endLine == cpos.line) = true := by rfl) (hs : starEach [a] X.env = (false, eval a X.env) :: starEach [] X.env := by rfl) (hplain : (backTo cpos (starEach [] X.env)).any (·.1) = false := by rfl)
    (hsw : swapsWith (.Call (.Attribute (.Name x p) "append" apos) [a] [] cpos) none pos.line X.env = pure false := by rfl) :
    DS X E (.Expr (.Call (.Attribute (.Name x p) "append" apos) [a] [] cpos) pos) (tDrop (tBM X.K "list" rAppend (tVar i) (tCons ta tNil))) (appS i sa) :=
  ⟨ps_expr (pe_bm PySem.F.plainAttrs_list PySem.F.slot_list_append PySem.F.type_list_append mt_append (pe_var hN hv hd hcd) (pa_cons h.pe pa_nil hs) hbase hfew hline hs hplain) hsw, dsr_app i h.dr⟩
theorem dsr_setIx {K : PySem.W.Frag} {E : XK} {te tk : TE} {s sk : SemE} (i : Nat) (h : DR K E te s) (hk : DR K E tk sk) : DSR K E (tAsg te (gSub (tVar i) tk rSetL)) (setIxS i s sk) := by
  intro F0 H0 F H ι0 ι w σ ρ D st wd l o
  unfold setIxS at o
  show te σ H fun v H1 => gSub (tVar i) tk rSetL v σ H1 D.nx
  cases e : s ρ w with
  | stuck => rw [e] at o; exact False.elim o
  | exc x w1 => rw [e] at o; exact h.exc wd l e (XPost.step st o) _
  | ok x w1 =>
    rw [e] at o
    refine h.ok wd l e fun v F1 H1 ι1 s1 d1 r1 => ?_
    have l1 := l.mono s1
    have o : OutOk K E F0 H0 ι0 F ι D (if lstAt i ρ w1 then (sk ρ w1).out fun y w2 => setIx2 i ρ x y w2 else .stuck) := o
    by_cases hl : lstAt i ρ w1 = true
    · rw [if_pos hl] at o
      obtain ⟨p, xs, hs, _⟩ := lstAt_ok d1 l1 hl
      refine ⟨.ref p, hs, ?_⟩
      cases e2 : sk ρ w1 with
      | stuck => rw [e2] at o; exact False.elim o
      | exc y w2 => rw [e2] at o; exact hk.exc d1 l1 e2 (XPost.step (st.trans s1) o) _
      | ok y w2 =>
        rw [e2] at o
        refine hk.ok d1 l1 e2 fun u F2 H2 ι2 s2 d2 r2 => ?_
        obtain ⟨d, k, ρ', w', rfl, rfl, q2, o⟩ := setIx2_ok o
        obtain ⟨p', c, c', e3, hF, hc, hf, kk⟩ := chg_ok ((st.trans s1).trans s2) d2 (l1.mono s2) q2
        rw [hs] at e3
        cases e3
        have r2' : Rep K F2 ι2 u (.int k) := r2
        cases r2'
        cases c with
        | lst ds =>
          obtain ⟨ys, hy, ra⟩ := hc
          have hf : (ixN ds.length k).map (fun j => Cell.lst (ds.set j d)) = some c' := hf
          cases q4 : ixN ds.length k with
          | none => rw [q4] at hf; cases hf
          | some j =>
            rw [q4] at hf
            cases hf
            have r1' : Rep K F2 ι2 v d := Rep.mono s2.ex s2.ix r1
            obtain ⟨a, b, c⟩ := kk (.lst (ys.set j v)) ⟨_, upd_same, ra.set r1'⟩
            exact ⟨p, ys, k, j, rfl, rfl, hy, by rw [ra.length]; exact q4, o σ F2 _ ι2 ((((Rch.now st).step s1).step s2).more a) b c⟩
        | dct _ => cases hf
        | obj _ _ => cases hf
        | dead => cases hf
    · rw [if_neg hl] at o; exact False.elim o
theorem ds_setIx {X : Cx} {E : XK} {x : Str} {a k : Expr} {ta tk : TE} {sa sk : SemE} {p p2 pos : Pos} (i : Nat) (h : DE X E a ta sa) (hk : DE X E k tk sk) (hN : X.N[i]? = some x := by rfl) (hv : Vis X.env.scope x := by first | exact Or.inl rfl | exact Or.inr (Or.inl rfl) | exact Or.inr (Or.inr rfl)) (hd : (x == ("__debug__" : Str)) = false := by decide)
    (hcd : (x == ("__classdict__" : Str)) = false := by decide)
    (hs : swapsWithSole [.Subscript (.Name x p) k p2] a pos.line X.env = pure false := by rfl) (hw : swappedStores [.Subscript (.Name x p) k p2] a X.env = pure none := by rfl)
    (h1 : (assignEach [.Subscript (.Name x p) k p2] X.env).map (·.2) = [assign (.Subscript (.Name x p) k p2) X.env] := by rfl) (hg : PG X (.Subscript (.Name x p) k p2) (gSub (tVar i) tk rSetL)) :
    DS X E (.Assign [.Subscript (.Name x p) k p2] a pos) (tAsg ta (gSub (tVar i) tk rSetL)) (setIxS i sa sk) := ⟨ps_asg h.pe hg hs hw h1, dsr_setIx i h.dr hk.dr⟩
/-! ### a changing thing is handed back -/
def newW (s : SemO2) : SemS := fun ρ w => (s ρ w).out fun x w1 => match x with
  | .own c => .rt (.ptr w1.length) (w1 ++ [c])
  | _ => .stuck
theorem ds_retNew {X : Cx} {E : XK} {e : Expr} {te : TE} {so : SemO2} {pos : Pos} (h : DEo X E e te so) : DS X E (.Return (some e) pos) (tRet te) (newW so) := ⟨ps_ret h.pe, by
  intro F0 H0 F H ι0 ι w σ ρ D st wd l o
  have hh := h.dr H0 F H ι w σ ρ wd l
  unfold newW at o
  cases q : so ρ w with
  | stuck => rw [q] at o; exact False.elim o
  | exc x w1 => rw [q] at o hh; exact hh (XPost.step st o) _
  | ok x w1 =>
    rw [q] at o hh
    refine hh _ fun v F1 H1 ι1 s1 d1 r1 => ?_
    cases x with
    | non => exact False.elim o
    | dat d => exact False.elim o
    | own c =>
      obtain ⟨p, rfl, hB, hF, hn, hc⟩ := r1
      have hx : ∀ (n : Nat) a, ι1[n]? = some a → (ι1 ++ [p])[n]? = some a := fun n a h => by
        rw [List.getElem?_append_left (List.getElem?_eq_some_iff.mp h).1]; exact h
      have h0 : H0 p = none := by
        cases z : H0 p with
        | none => rfl
        | some u =>
          obtain ⟨_, y⟩ := st.kin p u z
          rw [hB] at y; cases y
      have st1 := st.trans s1
      have cm : ∀ a c, CellAt X.K F1 H1 ι1 a c → CellAt X.K F1 H1 (ι1 ++ [p]) a c := fun a c h => h.mono (Ex.refl _) hx fun _ h => h
      refine o (.ref p) F1 H1 (ι1 ++ [p]) ⟨⟨st1.ex, st1.keep, st1.kin, st1.new, ?_⟩, s1.ex, fun n a h => hx n a (s1.ix n a h)⟩ ⟨d1.ex, by simp [d1.len], ?_, fun n a c' e1 e2 => ?_⟩ (.ptr (by rw [← d1.len]; simp))
      · obtain ⟨m, rfl, hm⟩ := st1.ext
        refine ⟨m ++ [p], by simp, fun a ha => ?_⟩
        rcases List.mem_append.mp ha with y | y
        · exact hm a y
        · rw [List.mem_singleton.mp y]; exact h0
      · exact List.nodup_append.mpr ⟨d1.nd, by simp, fun a ha b hb => by
          rw [List.mem_singleton.mp hb]
          intro z
          subst z
          exact hn ha⟩
      · by_cases hlt : n < ι1.length
        · rw [List.getElem?_append_left hlt] at e1
          rw [List.getElem?_append_left (by rw [← d1.len]; exact hlt)] at e2
          obtain ⟨y1, y2⟩ := d1.cel n a c' e1 e2
          exact ⟨y1, cm _ _ y2⟩
        · rw [List.getElem?_append_right (by omega)] at e1
          rw [List.getElem?_append_right (by rw [← d1.len]; omega)] at e2
          rw [← d1.len] at e2
          cases hz : n - ι1.length with
          | zero =>
            rw [hz] at e1 e2
            cases e1
            cases e2
            exact ⟨hF, cm _ _ hc⟩
          | succ k => rw [hz] at e1; simp at e1⟩
end DL

/-! Defs called where nothing is being shown (repr asks that); repr; texts; a law's end. -/
namespace DL
open PySem PySem.Spec PyProof.Rows L2

/-- a def keeps its promise wherever no repr runs around it -/
structure GOk (P : Program) (w : World) (K : PySem.W.Frag) (mg : Str → Option Value) (base : Heap) (k : Nat) (f : Addr) (fd : FuncData) (ps : List Str) (sp : Sp) : Prop where
  len : ∀ vs H Q E, sp vs H Q E → vs.length = ps.length
  run : ∀ (A : Around) (outer : List Env) (s : Shared) (H : Hp) (args : Args) (us : List Value) (vs : List V) (Q : VK) (E : XK),
    A.guards = some [] → Room k A → Env0 P w K mg base A outer s H → BindsTo s fd args (ps.zip us) → Vals vs us → sp vs H Q E →
    codeAny (model P w) A (.call (.ref f) args) (L2.CR (L2.CX P w) outer P w H s Q E) s
theorem GOk.of {P : Program} {w : World} {K : PySem.W.Frag} {mg : Str → Option Value} {base : Heap} {k : Nat} {f : Addr} {fd : FuncData} {ps : List Str} {sp : Sp} (F : FnOk P w K mg base (L2.CX P w) k f fd ps sp) : GOk P w K mg base k f fd ps sp :=
  ⟨F.len, fun A outer s H args us vs Q E _ => F.run A outer s H args us vs Q E⟩
section
variable {X : Cx} {k : Nat} {f : Addr} {fd : FuncData} {ps : List Str} {sp : Sp} {E : XK} {x : Str} {p pos : Pos} {e : Expr} {es : List Expr} {t : TA}
theorem pe_gcall (G : GOk X.prog X.w X.K X.mg X.base k f fd ps sp) (hG : X.A.guards = some []) (hr : Room k X.A) (hg : Gl X x) (hm : X.mg x = some (.ref f)) (hk : PySem.W.keepIn X.K (.ref f) = true)
    (hb : Binds X.K fd ps []) (hx : Passes (L2.CX X.prog X.w) X E) (ha : PA X (e :: es) t) (hdb : (x == ("__debug__" : Str)) = false := by decide)
    (he : starEach (e :: es) X.env = (false, eval e X.env) :: starEach es X.env := by rfl) (hpl : (backTo pos (starEach es X.env)).any (·.1) = false := by rfl) : PE X (.Call (.Name x p) (e :: es) [] pos) (tCall sp [] E t) := by
  refine ⟨fun pn st σ H Q J hw => wpAny_Call_Name_kw (ld_glob J hg hm ?_ hdb)⟩
  refine PySem.W.callWith_K (h₀ := X.base) J.ok.mod.kin hk ?_ he hpl
  refine thn (ha.run pos pn st σ H _ J hw) fun us z ⟨vs, H1, J1, rv, q⟩ => ⟨J1.kIn, ?_⟩
  have q : sp vs H1 Q E := by
    have q' : sp (vs ++ []) H1 Q E := q
    rw [List.append_nil] at q'
    exact q'
  have hl : us.length = ps.length := by rw [← rv.length]; exact G.len _ _ _ _ q
  have hbd := hb z us J1.kIn (by rw [List.append_nil]; exact hl)
  rw [List.append_nil] at hbd
  refine wpAny_call (codeAny_mono (G.run X.A X.stack z H1 ⟨us, []⟩ us vs Q E hG hr J1.env0 hbd rv q) fun r z2 hz => ?_)
  cases r with
  | error er => exact hx pn σ H1 z er z2 J1 hz
  | ok fl =>
    cases fl with
    | ret u => exact J1.after hz
    | _ => exact hz.elim
end
/-- a def by its body, where no repr runs -/
theorem gn_of {P : Program} {w : World} {K : PySem.W.Frag} {mg : Str → Option Value} {base : Heap} {k : Nat} {f : Addr} {name qual : Str} {params : Arguments} {body : List Stmt} {scope : Scope} {dV kV doc pm cdv ct oc : Value} {an od : Option Addr}
    {osl : Array (Option Value)} {N ps : List Str} {sp : Sp} (lk : K.lookup f = some ⟨oc, od, .func (PySem.W.fnOf name qual params body scope dV kV doc pm an cdv ct), osl⟩) (hcd : PySem.W.codeIn K cdv qual = true)
    (S : FnScope N ps scope) (len : ∀ vs H Q E, sp vs H Q E → vs.length = ps.length)
    (hbody : ∀ (A : Around) (outer : List Env) (s : Shared) (H : Hp) (vs : List V) (Q : VK) (E : XK), A.guards = some [] → Room k (A.deeper (envOfC qual scope s.heap.objs.size f cdv)) → sp vs H Q E →
      ∃ t, PSs (cxOf (L2.CX P w) P w K mg base N qual scope f cdv A outer s H E) body t ∧ t { nx := fun _ H' => Q .non H', rt := Q } (L2.start N vs) H) :
    GOk P w K mg base (k + 1) f (PySem.W.fnOf name qual params body scope dV kV doc pm an cdv ct) ps sp := by
  refine ⟨len, fun A outer st H args us vs Q E hG hr e0 hb rv hs => ?_⟩
  have KX : K.In st.heap := e0.mod.kin.keeps fun b o q => (e0.bs b o q).1
  have nl : st.heap.NoLimit := e0.mod.nolimit.keeps fun b o q => (e0.bs b o q).1
  refine codeAny_call_function hr.depth (KX _ _ lk) rfl S.co S.gen rfl (PySem.W.codeRec_of KX hcd) (hb _ _ _ _ ?_)
  refine wpAny_newFunctionEnv_cells S.kind ?_ fun env he z hz => ?_
  · rintro ⟨n, v⟩ hy
    refine (S.par n (List.of_mem_zip hy).1).imp_right fun q => ⟨q, PySem.W.cellsFrom_some _ _ _ (.inl q)⟩
  · subst he
    refine ⟨nl.keeps hz.toInCall.keep, codeAny_func ?_⟩
    obtain ⟨t, ht, hq⟩ := hbody A outer st H vs Q E hG (hr.deeper _) hs
    have J : Inv (cxOf (L2.CX P w) P w K mg base N qual scope f cdv A outer st H E) [] (L2.start N vs) H z := inv_start S hr.hd e0 (len _ _ _ _ hs) rv hz
    refine wpAny_mono (ht.run [] z (L2.start N vs) H _ J hq) (fun fl y hy => ?_) fun er y hy => hy
    cases fl with
    | ret u =>
      obtain ⟨v, σ', H', J', r', q⟩ := hy
      exact ⟨v, H', J'.os, J'.bare, J'.base, J'.hok, r', q⟩
    | next =>
      obtain ⟨σ', H', J', q⟩ := hy
      exact ⟨.non, H', J'.os, J'.bare, J'.base, J'.hok, rfl, q⟩
    | brk => obtain ⟨_, _, _, q⟩ := hy; exact q.elim
    | cont => obtain ⟨_, _, _, q⟩ := hy; exact q.elim
/-! ### repr of plain data -/
def rRepr (K : PySem.W.Frag) : List V → Hp → VK → Prop := fun xs H Q => ∃ v d, xs = [v] ∧ Dp K H v d ∧ (∀ b, d ≠ .bool b) ∧ d ≠ .none ∧ (∀ i, d ≠ .int i) ∧ (∀ x, d ≠ .str x) ∧ d.showable = true ∧ d.hasDict = false ∧ d.depth ≤ 60 ∧ d.shown.length ≤ sizeLine ∧ Q (.str d.shown) H
theorem call_reprD {X : Cx} (hG : X.A.guards = some []) (hu : X.A.units + 64 < cLine) : CallR X (.builtin "repr") (rRepr X.K) := by
  intro pins s σ H xs us Q I r h
  obtain ⟨v, d, rfl, hd, n1, n2, n3, n4, h1, h2, h3, h4, q⟩ := h
  obtain ⟨u, rfl, ru⟩ := vals1 r
  obtain ⟨as, hr⟩ := Dp.reads I d v u hd ru
  cases hd with
  | non => exact absurd rfl n2
  | bl b => exact absurd rfl (n1 b)
  | int i => exact absurd rfl (n3 i)
  | str z => exact absurd rfl (n4 z)
  | lst _ _ =>
    cases ru
    exact repr_of_reads' hr h1 (by rw [h2]; intro z; cases z) hG (by omega) (fun _ _ e => e) (fun h' z tk kp => ⟨.str _, H, I.kept kp, ⟨_, rfl⟩, q⟩) h4
  | tup _ _ =>
    cases ru
    exact repr_of_reads' hr h1 (by rw [h2]; intro z; cases z) hG (by omega) (fun _ _ e => e) (fun h' z tk kp => ⟨.str _, H, I.kept kp, ⟨_, rfl⟩, q⟩) h4
def isSeqD : D → Bool
  | .lst _ => true
  | .tup _ => true
  | _ => false
def reprF (d : D) : Option D := if isSeqD d then (match toPy d with
  | some p => if p.showable && !p.hasDict && decide (p.depth ≤ 60) && decide (p.shown.length ≤ most) then some (.str p.shown) else none
  | none => none) else none
theorem rel_repr {K : PySem.W.Frag} : RelC1 K (rRepr K) reprF := by
  intro F H ι w v x z wd rx e Q q
  unfold reprF at e
  by_cases hs : isSeqD x = true
  · rw [if_pos hs] at e
    cases h : toPy x with
    | none => rw [h] at e; cases e
    | some p =>
      rw [h] at e
      by_cases hc : (p.showable && !p.hasDict && decide (p.depth ≤ 60) && decide (p.shown.length ≤ most)) = true
      · simp only [hc, if_true] at e
        cases e
        simp only [Bool.and_eq_true, Bool.not_eq_true', decide_eq_true_eq] at hc
        obtain ⟨⟨⟨c1, c2⟩, c3⟩, c4⟩ := hc
        have hd := rx.dp wd.ex h
        have shape : (∀ b, p ≠ .bool b) ∧ p ≠ .none ∧ (∀ i, p ≠ .int i) ∧ (∀ x, p ≠ .str x) := by
          cases x with
          | lst ds =>
            unfold toPy at h
            cases q2 : toPyA ds with
            | none => rw [q2] at h; cases h
            | some ps => rw [q2] at h; cases h; exact ⟨fun _ => nofun, nofun, fun _ => nofun, fun _ => nofun⟩
          | tup ds =>
            unfold toPy at h
            cases q2 : toPyA ds with
            | none => rw [q2] at h; cases h
            | some ps => rw [q2] at h; cases h; exact ⟨fun _ => nofun, nofun, fun _ => nofun, fun _ => nofun⟩
          | _ => cases hs
        exact ⟨v, p, rfl, hd, shape.1, shape.2.1, shape.2.2.1, shape.2.2.2, c1, c2, c3, most_le c4, okv_now q wd (Rep.str _)⟩
      · simp only [hc, if_false] at e
        cases e
  · rw [if_neg hs] at e; cases e
end DL

/-! Texts, a def with a star, own errors raised and caught. -/
namespace DL
open PySem PySem.Spec PyProof.Rows L2

section
variable {K : PySem.W.Frag}
/-! ### more operators -/
def isBD : D → D → Option D
  | .bl a, .bl b => some (.bl (decide (a = b)))
  | _, _ => none
theorem rel_isB : RelOp K rIsB isBD := by
  intro F H ι w vx vy x y z wd rx ry e Q q
  unfold isBD at e
  split at e
  · cases rx; cases ry; cases e
    exact ⟨_, _, rfl, rfl, okv_flat wd q (.bl _)⟩
  · cases e
def negF : D → Option D
  | .int i => some (.int (-i))
  | _ => none
theorem de_neg {X : Cx} {E : XK} {a : Expr} {ta : TE} {sa : SemE} {pos : Pos} (ha : DE X E a ta sa) : DE X E (.UnaryOp .USub a pos) (tUn (rU fun i => .int (-i)) ta) (un negF sa) := ⟨pe_un un_neg ha.pe,
  dr_un (k := fun v _ H Q => rU (fun i => .int (-i)) v H Q) ha.dr (fun _ _ _ q => q) fun F H ι w _ v x z d rx e Q q => by
    unfold negF at e
    split at e
    · cases rx; cases e
      exact ⟨_, rfl, okv_flat d q (.int _)⟩
    · cases e⟩
/-! ### texts -/
def splitD : D → D → Option D
  | .str a, .str b => if b.length ≠ 0 ∧ a.length + 2 ≤ most then some (.lst ((Txt.split a b).map .str)) else none
  | _, _ => none
def rSplitD : V → List V → Hp → VK → Prop := fun x xs H Q => ∃ a b, x = .str a ∧ xs = [.str b] ∧ (b.length == 0) = false ∧ a.length + 2 ≤ sizeLine ∧ rNewStrs (Txt.split a b) H Q
theorem RepA.strs {F : Hp} {ι : List Addr} : ∀ ns : List Str, RepA K F ι (ns.map V.str) (ns.map D.str)
  | [] => .nil
  | n :: r => .cons (.str n) (RepA.strs r)
theorem dr_m1 {E : XK} {r : V → List V → Hp → VK → Prop} {g : D → D → Option D} {to te : TE} {so se : SemE} (hs : ∀ x y z, g x y = some z → ∃ a, x = .str a) (hr : ∀ F H ι (w : W) vx vy x y z, Wd K F H ι w → RepS K F H ι vx x → RepS K F H ι vy y → g x y = some z → ∀ Q : VK, OkV K F H ι (.dat z) w Q → r vx [vy] H Q)
    (ho : DR K E to so) (he : DR K E te se) (hstr : ∀ ρ w x w1, so ρ w = .ok x w1 → ∃ a, x = .dat (.str a)) : DR K E (tM1 r to te) (bin g so se) := by
  intro H0 F H ι w σ ρ d l
  unfold bin
  cases e : so ρ w with
  | stuck => trivial
  | exc x w1 => exact fun q Q => ho.exc d l e q _
  | ok x w1 =>
    obtain ⟨a, rfl⟩ := hstr ρ w x w1 e
    show Meets _ _ ((se ρ w1).bind _)
    cases e2 : se ρ w1 with
    | stuck => trivial
    | exc y w2 =>
      intro q Q
      refine ho.ok d l e fun v F1 H1 ι1 s1 d1 r1 => ?_
      have r1 : Rep K F1 ι1 v (.str a) := r1
      cases r1
      exact ⟨⟨a, rfl⟩, he.exc d1 (l.mono s1) e2 (q.step s1) _⟩
    | ok y w2 =>
      show Meets _ _ (op2 g (.dat (.str a)) y w2)
      unfold op2
      cases e3 : y.d w2 with
      | none => trivial
      | some b =>
        show Meets _ _ (match g (.str a) b with | some z => (.ok (.dat z) w2 : R Val) | none => .stuck)
        cases e4 : g (.str a) b with
        | none => trivial
        | some z =>
          refine fun Q q => ho.ok d l e fun v F1 H1 ι1 s1 d1 r1 => ?_
          have r1 : Rep K F1 ι1 v (.str a) := r1
          cases r1
          refine ⟨⟨a, rfl⟩, he.ok d1 (l.mono s1) e2 fun u F2 H2 ι2 s2 d2 r2 => ?_⟩
          exact hr F2 H2 ι2 w2 _ u (.str a) b z d2 (Rep.str a) (r2.toS d2 e3) e4 Q (OkV.step (s1.trans s2) q)
/-- the receiver must be a text -/
def strE (s : SemE) : SemE := fun ρ w => (s ρ w).bind fun x w1 => match x with
  | .dat (.str a) => .ok (.dat (.str a)) w1
  | _ => .stuck
theorem dr_str {E : XK} {te : TE} {s : SemE} (h : DR K E te s) : DR K E te (strE s) := by
  intro H0 F H ι w σ ρ d l
  unfold strE
  cases e : s ρ w with
  | stuck => trivial
  | exc x w1 => exact fun q Q => h.exc d l e q _
  | ok x w1 =>
    cases x with
    | vw _ => trivial
    | dat y =>
      cases y with
      | str a => exact fun Q q => h.ok d l e q
      | _ => trivial
theorem strE_str (s : SemE) : ∀ ρ w x w1, strE s ρ w = .ok x w1 → ∃ a, x = .dat (.str a) := by
  intro ρ w x w1 q
  unfold strE at q
  cases e : s ρ w with
  | stuck => rw [e] at q; cases q
  | exc _ _ => rw [e] at q; cases q
  | ok y w2 =>
    rw [e] at q
    cases y with
    | vw _ => cases q
    | dat y =>
      cases y with
      | str a => cases q; exact ⟨a, rfl⟩
      | _ => cases q
def toStr : D → Option Str
  | .str x => some x
  | _ => none
def toStrs : List D → Option (List Str)
  | [] => some []
  | d :: r => match toStr d, toStrs r with
    | some v, some vs => some (v :: vs)
    | _, _ => none
theorem toStrs_ok {F : Hp} {ι : List Addr} : ∀ {ds : List D} {vs : List V} {us : List Str}, RepA K F ι vs ds → toStrs ds = some us → vs = us.map V.str
  | [], _, _, r, e => by cases r; cases e; rfl
  | d :: ds, _, _, r, e => by
    cases r with
    | cons h r =>
      unfold toStrs at e
      cases q1 : toStr d with
      | none => rw [q1] at e; cases e
      | some a =>
        cases q2 : toStrs ds with
        | none => rw [q1, q2] at e; cases e
        | some b =>
          rw [q1, q2] at e; cases e
          have := toStrs_ok r q2
          subst this
          cases d with
          | str x => cases q1; cases h; rfl
          | _ => cases q1
def seqStrs : D → Option (List Str)
  | .lst ds => toStrs ds
  | .tup ds => toStrs ds
  | _ => none
def joinD : D → D → Option D
  | .str a, y => (match seqStrs y with
    | some ys => if (ys.map (·.length)).sum + ys.length * a.length ≤ most then some (.str (Txt.join a ys)) else none
    | none => none)
  | _, _ => none
end
section
variable {X : Cx} {E : XK} {o e : Expr} {to te : TE} {so se : SemE} {apos pos : Pos}
theorem de_split (ho : DE X E o to so) (he : DE X E e te se) (hs : starEach [e] X.env = [(false, eval e X.env)] := by rfl) (hbase : attributeBase o "split" X.env (eval o X.env) = eval o X.env := by rfl) (hline : (apos.endLine == pos.line) = true := by rfl) :
    DE X E (.Call (.Attribute o "split" apos) [e] [] pos) (tM1 rSplitD to te) (bin splitD (strE so) se) := ⟨pe_split ho.pe he.pe hs hbase hline,
  dr_m1 (fun x y z h => by unfold splitD at h; split at h; exact ⟨_, rfl⟩; cases h) (fun F H ι w vx vy x y z wd rx ry h Q q => by
    unfold splitD at h
    split at h
    · cases rx; cases ry
      split at h
      · rename_i hc
        cases h
        refine ⟨_, _, rfl, rfl, by simpa using hc.1, most_le hc.2, fun p hp => okv_new wd q hp (.lst upd_same (RepA.strs _))⟩
      · cases h
    · cases h) (dr_str ho.dr) he.dr (strE_str so)⟩
theorem de_join (ho : DE X E o to so) (he : DE X E e te se) (hs : starEach [e] X.env = [(false, eval e X.env)] := by rfl) (hbase : attributeBase o "join" X.env (eval o X.env) = eval o X.env := by rfl) (hline : (apos.endLine == pos.line) = true := by rfl) :
    DE X E (.Call (.Attribute o "join" apos) [e] [] pos) (tM1 (fun x xs H Q => ∃ a p, ∃ ys : List Str, x = .str a ∧ xs = [.ref p] ∧ (SqL X.K H p (ys.map V.str) ∨ SqT X.K H p (ys.map V.str)) ∧
      (ys.map (·.length)).sum + ys.length * a.length ≤ 16777216 ∧ Q (.str (Txt.join a ys)) H) to te) (bin joinD (strE so) se) := ⟨pe_join ho.pe he.pe hs hbase hline,
  dr_m1 (fun x y z h => by unfold joinD at h; split at h; exact ⟨_, rfl⟩; cases h) (fun F H ι w vx vy x y z wd rx ry h Q q => by
    unfold joinD at h
    split at h
    · rename_i a y'
      cases rx
      cases hm : seqStrs y with
      | none => simp only [hm] at h; cases h
      | some ys =>
        simp only [hm] at h
        split at h
        · rename_i hc
          cases h
          cases y with
          | lst ds =>
            obtain ⟨p, xs, rfl, hx, r⟩ := ry
            have := toStrs_ok r hm
            subst this
            exact ⟨_, p, ys, rfl, rfl, .inl (SqL.of hx), hc, okv_now q wd (Rep.str _)⟩
          | tup ds =>
            cases ry with
            | tup hx r =>
            have z := toStrs_ok r hm
            subst z
            exact ⟨_, _, ys, rfl, rfl, .inr (ex_t wd.ex hx), hc, okv_now q wd (Rep.str _)⟩
          | _ => cases hm
        · cases h
    · cases h) (dr_str ho.dr) he.dr (strE_str so)⟩
end
section
variable {X : Cx} {E : XK} {pos : Pos}
/-- a, b, c = x, y, z -/
theorem ds_par3 {i j l : Nat} {x y z : Str} {a b c : Expr} {ta : TA} {sa : SemA} {px py pz pt : Pos} {kt k2 pt2} (hN : X.N.Nodup) (ha : DA X E [a, b, c] ta sa) (hc : X.calm = true := by rfl) (hi : X.N[i]? = some x := by rfl) (hj : X.N[j]? = some y := by rfl) (hl : X.N[l]? = some z := by rfl) (hij : i ≠ j := by decide) (hil : i ≠ l := by decide) (hjl : j ≠ l := by decide)
    (hx : X.env.scope.names.lookup x = some .local := by rfl) (hy : X.env.scope.names.lookup y = some .local := by rfl) (hz : X.env.scope.names.lookup z = some .local := by rfl)
    (hw : swappedStores [.Tuple [.Name x px, .Name y py, .Name z pz] kt pt] (.Tuple [a, b, c] k2 pt2) X.env = pure (some [x, y, z]) := by rfl)
    (hs : swapsWithSole [.Tuple [.Name x px, .Name y py, .Name z pz] kt pt] (.Tuple [a, b, c] k2 pt2) pos.line X.env = pure false := by rfl) :
    DS X E (.Assign [.Tuple [.Name x px, .Name y py, .Name z pz] kt pt] (.Tuple [a, b, c] k2 pt2) pos) (tPar3 i j l ta) (setsS [i, j, l] sa) := ⟨ps_par3 hc hN hi hj hl hij hil hjl hx hy hz ha.pa hw hs, by
  refine dsr_args (f := fun ds ρ w1 => if ds.length = ([i, j, l] : List Nat).length then .nx ((([i, j, l] : List Nat).zip ds).foldl (fun ρ p => ρ.set p.1 (.dat p.2)) ρ) w1 else .stuck) (k := fun D vs σ H1 => tPar3 i j l (fun _ H Q => Q vs H) D σ H1) ha.dr (fun _ _ _ q => q) ?_
  intro F0 H0 F H ι0 ι w σ ρ D v x st wd l r o
  cases r with
  | nil => exact False.elim o
  | cons r1 r =>
    cases r with
    | nil => exact False.elim (by simpa [OutOk] using o)
    | cons r2 r =>
      cases r with
      | nil => exact False.elim (by simpa [OutOk] using o)
      | cons r3 r =>
        cases r with
        | nil => exact ⟨_, _, _, rfl, o _ F H ι (Rch.now st) wd (((l.set r1).set r2).set r3)⟩
        | cons _ _ => exact False.elim (by simpa [OutOk] using o)⟩
end
/-! ### a def with a star -/
def SpecN (K : PySem.W.Frag) (f : Sem) : Sp := fun vs H Q E => ∃ F ι w ds, Wd K F H ι w ∧ RepA K F ι vs ds ∧ ds.length ≤ most ∧ match f ds w with
  | .ok d w' => OkV K F H ι (.dat d) w' Q
  | .exc x w' => XPost K E F H ι x w'
  | .stuck => False
theorem fn_starD {P : Program} {w : World} {K : PySem.W.Frag} {mg : Str → Option Value} {base : Heap} {k : Nat} {f : Addr} {name qual : Str} {params : Arguments} {body : List Stmt} {scope : Scope} {dV kV doc pm cdv ct oc : Value} {an od : Option Addr}
    {osl : Array (Option Value)} {N : List Str} {pv : Str} {s : SemS} (lk : K.lookup f = some ⟨oc, od, .func (PySem.W.fnOf name qual params body scope dV kV doc pm an cdv ct), osl⟩) (hcd : PySem.W.codeIn K cdv qual = true) (S : FnScope N [pv] scope)
    (hb : ∀ rest : List Value, bindArgs (PySem.W.fnOf name qual params body scope dV kV doc pm an cdv ct) ⟨rest, []⟩ = (newTuple rest >>= fun t => pure [(pv, t)]))
    (hbody : ∀ (A : Around) (outer : List Env) (st : Shared) (H : Hp) (E : XK), Room k (A.deeper (envOfC qual scope st.heap.objs.size f cdv)) → ∃ t, DSs (cxOf (L2.CX P w) P w K mg base N qual scope f cdv A outer st H E) E body t s) :
    FnR P w K mg base (L2.CX P w) (k + 1) f (SpecN K (fun ds w => runD N.length s [.tup ds] w)) := by
  refine (StX.fn_star (ps := []) (sp := Spec K 1 (runD N.length s)) lk hcd S StX.cxUp (fun us rest hl => ?_) (fun A outer st H vs Q E hr hs => ?_)).imp fun vs H Q E h => ?_
  · cases us with
    | nil => exact hb rest
    | cons _ _ => cases hl
  · obtain ⟨t, ht⟩ := hbody A outer st H E hr
    exact ⟨t, ht.ps, body_ok ht.dr hs⟩
  · obtain ⟨F, ι, w1, ds, wd, r, hm, o⟩ := h
    refine ⟨[], vs, rfl, rfl, by rw [r.length]; exact most_le hm, fun p hp => ?_⟩
    refine ⟨upd F p (.tup vs), ι, w1, [.tup ds], wd.fresh hp, .cons (.tup (SqT.of upd_same) (r.up wd hp)) .nil, rfl, ?_⟩
    have st : Stp F H ι (upd F p (.tup vs)) (upd H p (.tup vs)) ι := Stp.fresh hp (wd.free hp)
    cases q : runD N.length s [.tup ds] w1 with
    | ok d w2 => simp only [q] at o ⊢; exact OkV.step st o
    | exc x w2 => simp only [q] at o ⊢; exact XPost.step st o
    | stuck => simp only [q] at o
theorem dr_callN {K : PySem.W.Frag} {E : XK} {ta : TA} {sa : SemA} {g : Sem} {n : Nat} (ha : DRA K E ta sa) (hl : ∀ ρ w ds w1, sa ρ w = .ok ds w1 → ds.length = n) (hn : n ≤ most) : DR K E (fun σ H Q => ta σ H fun vs H1 => SpecN K g vs H1 Q E) (callE g sa) := by
  intro H0 F H ι w σ ρ d l
  unfold callE
  cases e : sa ρ w with
  | stuck => trivial
  | exc y w1 => exact fun q Q => ha.exc d l e q _
  | ok ds w1 =>
    show Meets _ _ ((g ds w1).bind _)
    cases e2 : g ds w1 with
    | stuck => trivial
    | exc y w2 => exact fun q Q => ha.ok d l e fun vs F1 H1 ι1 s1 d1 r1 => ⟨F1, ι1, w1, ds, d1, r1, by rw [hl ρ w ds w1 e]; exact hn, by rw [e2]; exact q.step s1⟩
    | ok z w2 => exact fun Q q => ha.ok d l e fun vs F1 H1 ι1 s1 d1 r1 => ⟨F1, ι1, w1, ds, d1, r1, by rw [hl ρ w ds w1 e]; exact hn, by rw [e2]; exact OkV.step s1 q⟩
theorem de_callN {X : Cx} {E : XK} {e : Expr} {es : List Expr} {ta : TA} {sa : SemA} {pos p : Pos} {x : Str} {k n : Nat} {f : Addr} {g : Sem} (G : FnR X.prog X.w X.K X.mg X.base (L2.CX X.prog X.w) k f (SpecN X.K g)) (hr : Room k X.A) (hm : X.mg x = some (.ref f)) (hk : PySem.W.keepIn X.K (.ref f) = true) (hx : Passes (L2.CX X.prog X.w) X E)
    (ha : DA X E (e :: es) ta sa) (hl : ∀ ρ w ds w1, sa ρ w = .ok ds w1 → ds.length = n) (hn : n ≤ most := by decide) (hg : Gl X x := by rfl) (hdb : (x == ("__debug__" : Str)) = false := by decide)
    (he : starEach (e :: es) X.env = (false, eval e X.env) :: starEach es X.env := by rfl) (hpl : (backTo pos (starEach es X.env)).any (·.1) = false := by rfl) :
    DE X E (.Call (.Name x p) (e :: es) [] pos) (fun σ H Q => ta σ H fun vs H1 => SpecN X.K g vs H1 Q E) (callE g sa) := ⟨⟨fun pn st σ H Q J hw => by
  refine wpAny_Call_Name_kw (ld_glob J hg hm ?_ hdb)
  refine PySem.W.callWith_K (h₀ := X.base) J.ok.mod.kin hk ?_ he hpl
  refine thn (ha.pa.run pos pn st σ H _ J hw) fun us z ⟨vs, H1, J1, rv, q⟩ => ⟨J1.kIn, ?_⟩
  exact wpAny_call (run_fnR G hr hx J1 rv q)⟩, dr_callN ha.dr hl hn⟩
end DL

/-! Own errors: made, raised, caught by a name. -/
namespace DL
open PySem PySem.Spec PyProof.Rows L2

/-- __init__ of an own error: it stores its arguments under these names -/
def spInit (C : Addr) (names : List Str) : Sp := fun vs H Q _ => ∃ (a : Addr) (ws : List V), vs = .ref a :: ws ∧ ws.length = names.length ∧ H a = some (exo a C none) ∧
  ∀ (d : Addr) (H' : Hp), H d = none → H' a = some (exo a C (some d)) → H' d = some (exd d (names.zip ws).reverse) → (∀ b, b ≠ a → b ≠ d → H' b = H b) → Q .non H'
theorem spInit.len {C : Addr} {names : List Str} {vs : List V} {H : Hp} {Q : VK} {E : XK} (h : spInit C names vs H Q E) : vs.length = names.length + 1 := by
  obtain ⟨a, ws, rfl, hl, _⟩ := h
  simp [hl]
section
variable {P : Program} {w : World} {K : PySem.W.Frag} {mg : Str → Option Value} {base : Heap} {k : Nat}
/-- one field, two fields -/
theorem init1_ok {N : List Str} {C : Addr} {f : Str} {vs : List V} {H : Hp} {Q : VK} {E : XK} (T : OexC K C) (h1 : PySem.W.findIn K (.ref C) f = some none) (sp : spInit C [f] vs H Q E) :
    tSeq (tOst K f (tVar 0) (tVar 1)) tNext { nx := fun _ H' => Q .non H', rt := Q } (L2.start ["self", N.headD "x"] vs) H := by
  obtain ⟨a, ws, rfl, hl, ha, q⟩ := sp
  match ws, hl with
  | [v], _ =>
    refine ⟨v, rfl, .ref a, rfl, a, C, rfl, T, h1, .inl ⟨ha, fun dx hd hne => ?_⟩⟩
    refine q dx _ hd upd_same ?_ fun b n1 n2 => by rw [upd_ne n1, upd_ne n2]
    rw [upd_ne hne, upd_same]
    rfl
theorem init2_ok {x y : Str} {C : Addr} {f g : Str} {vs : List V} {H : Hp} {Q : VK} {E : XK} (T : OexC K C) (h1 : PySem.W.findIn K (.ref C) f = some none) (h2 : PySem.W.findIn K (.ref C) g = some none) (sp : spInit C [f, g] vs H Q E) :
    tSeq (tOst K f (tVar 0) (tVar 1)) (tSeq (tOst K g (tVar 0) (tVar 2)) tNext) { nx := fun _ H' => Q .non H', rt := Q } (L2.start ["self", x, y] vs) H := by
  obtain ⟨a, ws, rfl, hl, ha, q⟩ := sp
  match ws, hl with
  | [v, u], _ =>
    refine ⟨v, rfl, .ref a, rfl, a, C, rfl, T, h1, .inl ⟨ha, fun dx hd hne => ?_⟩⟩
    refine ⟨u, rfl, .ref a, rfl, a, C, rfl, T, h2, .inr ⟨dx, _, upd_same, by rw [upd_ne hne, upd_same], by show 1 ≤ 900; decide, ?_⟩⟩
    refine q dx _ hd ?_ upd_same fun b n1 n2 => by rw [upd_ne n2, upd_ne n1, upd_ne n2]
    rw [upd_ne (Ne.symm hne), upd_same]
end
def raiseS (c : Str) (names : List Str) (sa : SemA) : SemS := fun ρ w => (sa ρ w).out fun ds w1 => if ds.length = names.length then .exc ⟨c, (names.zip ds).reverse⟩ w1 else .stuck
theorem RepF.zip {K : PySem.W.Frag} {F : Hp} {ι : List Addr} : ∀ (names : List Str) {vs : List V} {ds : List D}, RepA K F ι vs ds → RepF K F ι (names.zip vs) (names.zip ds)
  | [], _, _, _ => .nil
  | n :: r, vs, ds, h => by
    cases h with
    | nil => exact .nil
    | cons h1 h2 => exact .cons h1 (RepF.zip r h2)
theorem RepF.append {K : PySem.W.Frag} {F : Hp} {ι : List Addr} {a b : List (Str × V)} {c d : List (Str × D)} (h : RepF K F ι a c) (q : RepF K F ι b d) : RepF K F ι (a ++ b) (c ++ d) := by
  induction c generalizing a with
  | nil => cases h; exact q
  | cons x c ih =>
    cases h with
    | cons h1 h2 => exact .cons h1 (ih h2)
theorem RepF.reverse {K : PySem.W.Frag} {F : Hp} {ι : List Addr} {a : List (Str × V)} {c : List (Str × D)} (h : RepF K F ι a c) : RepF K F ι a.reverse c.reverse := by
  induction c generalizing a with
  | nil => cases h; exact .nil
  | cons x c ih =>
    cases h with
    | cons h1 h2 =>
      rw [List.reverse_cons, List.reverse_cons]
      exact (ih h2).append (.cons h1 .nil)
theorem RepF.lookup {K : PySem.W.Frag} {F : Hp} {ι : List Addr} {a : List (Str × V)} {c : List (Str × D)} (h : RepF K F ι a c) {f : Str} {d : D} (e : c.lookup f = some d) : ∃ v, a.lookup f = some v ∧ Rep K F ι v d := by
  induction c generalizing a with
  | nil => cases e
  | cons x c ih =>
    cases h with
    | @cons k v vs d' ds h1 h2 =>
      rw [List.lookup_cons] at e ⊢
      cases q : f == k with
      | true => rw [q] at e; cases e; exact ⟨v, by simp [q], h1⟩
      | false => rw [q] at e; simp only [q]; exact ih h2 e
section
variable {X : Cx} {E : XK}
theorem ds_raise {c : Str} {fI : Addr} {k : Nat} {fd : FuncData} {ps names : List Str} {x : Str} {e : Expr} {es : List Expr} {ta : TA} {sa : SemA} {p pos pos2 : Pos} (T : OexC X.K (He.ga X.K c)) (iC : PySem.W.findIn X.K (.ref (He.ga X.K c)) "__init__" = some (some (.ref fI))) (tI : PySem.W.typeIn X.K (.ref fI) = some (.type "function"))
    (F1 : FnOk X.prog X.w X.K X.mg X.base (L2.CX X.prog X.w) k fI fd ps (spInit (He.ga X.K c) names)) (hr : Room (k + 1) X.A) (hb : Binds X.K fd ps []) (hm : X.mg x = some (.ref (He.ga X.K c))) (tk : Takes X fun cls d _ H => E cls d H) (ha : DA X E (e :: es) ta sa) (hn : names.length ≤ 900)
    (hc : X.calm = true := by rfl) (hg : Gl X x := by rfl) (hdb : (x == ("__debug__" : Str)) = false := by decide) (he : starEach (e :: es) X.env = (false, eval e X.env) :: starEach es X.env := by rfl) (hpl : (backTo pos (starEach es X.env)).any (·.1) = false := by rfl) :
    DS X E (.Raise (some (.Call (.Name x p) (e :: es) [] pos)) none pos2) (fun _ σ H => tMkO (He.ga X.K c) (spInit (He.ga X.K c) names) [] ta σ H fun cls d H' => E cls d H') (raiseS c names sa) := ⟨ps_raise hc tk (pmk_oex T iC tI F1 hr hb .nil passL hg hm ha.pa hdb he hpl), by
  refine dsr_args (f := fun ds _ w1 => if ds.length = names.length then .exc ⟨c, (names.zip ds).reverse⟩ w1 else .stuck) (k := fun _ vs σ H1 => tMkO (He.ga X.K c) (spInit (He.ga X.K c) names) [] (fun _ H Q => Q vs H) σ H1 fun cls d H' => E cls d H') ha.dr (fun _ _ _ q => q) ?_
  intro F0 H0 F H ι0 ι w σ ρ D vs ds st wd l r o
  by_cases hl : ds.length = names.length
  · have o : XPost X.K E F0 H0 ι0 ⟨c, (names.zip ds).reverse⟩ w := by
      have o' := o
      simp only [hl, if_true] at o'
      exact o'
    refine ⟨by rw [r.length, hl]; omega, fun a ha' => ⟨a, vs, by rw [List.append_nil], by rw [r.length, hl], upd_same, fun d H2 hd e1 e2 e3 => ⟨rfl, d, _, e1, e2, ?_, ?_⟩⟩⟩
    · by_cases z : d = a
      · subst z; exact ha'
      · rw [upd_ne z] at hd; exact hd
    · have hda : d ≠ a := fun z => by
        subst z
        rw [upd_same] at hd; cases hd
      have hd0 : H d = none := by rw [upd_ne hda] at hd; exact hd
      have fD := wd.free hd0
      have hx : Ex F (upd F d (.xd (names.zip vs).reverse)) := Ex.new fD
      have hH : ∀ b o, H b = some o → (upd (L2.del H2 a) d (.xd (names.zip vs).reverse)) b = some o := fun b o hb => by
        have n1 : b ≠ a := ne_of_none hb ha'
        have n2 : b ≠ d := ne_of_none hb hd0
        rw [upd_ne n2]
        show (if b = a then none else H2 b) = some o
        rw [if_neg n1, e3 b n1 n2, upd_ne n1]
        exact hb
      have s1 : Stp F H ι (upd F d (.xd (names.zip vs).reverse)) (upd (L2.del H2 a) d (.xd (names.zip vs).reverse)) ι := ⟨hx, fun b o _ hb => hH b o hb, fun b o hb => ⟨o, hH b o hb⟩, fun b o hb => by
        by_cases z : b = d
        · subst z; exact .inr hd0
        · rw [upd_ne z] at hb; exact .inl hb, [], by simp, fun _ h => nomatch h⟩
      refine o _ _ ι d (names.zip vs).reverse (st.trans s1) ⟨fun b o hb => ?_, wd.len, wd.nd, fun n b c' h1 h2 => ?_⟩ upd_same ?_
      · by_cases z : b = d
        · subst z; rw [upd_same] at hb; cases hb; exact upd_same
        · rw [upd_ne z] at hb; exact hH b o (wd.ex b o hb)
      · obtain ⟨y1, y2⟩ := wd.cel n b c' h1 h2
        obtain ⟨oo, ho⟩ := y2.there
        exact ⟨by rw [upd_ne (ne_of_none ho hd0)]; exact y1, y2.mono hx (fun _ _ h => h) fun u hu => hH b u hu⟩
      · exact ((RepF.zip names r).reverse).mono hx fun _ _ h => h
  · simp only [hl, if_false] at o
    exact False.elim o⟩
/-! ### try: y = f(..) except C as n: suite -/
/-- a suite: x is the error that is held -/
def DSU (K : PySem.W.Frag) (E : XK) (i : Nat) (ts : Addr → Value → Option Addr → TS) (ss : Exn → SemS) : Prop := ∀ (x : Exn) (a d : Addr) (fs : List (Str × V)) (F0 H0 F H : Hp) (ι0 ι : List Addr) (w : W) (σ : L2.St) (ρ : List Slot) (D : Ends), Stp F0 H0 ι0 F H ι → Wd K F H ι w → Sl K H0 F H ι σ ρ → σ[i]? = some (some (.ref a)) →
  F d = some (.xd fs) → RepF K F ι fs x.fs → OutOk K E F0 H0 ι0 F ι D (ss x ρ w) → ts a (.ref (He.ga K x.c)) (some d) D σ H
/-- the held error's slot is empty before and behind -/
def Out.clr (i : Nat) : Out → Out
  | .nx ρ w => .nx (ρ.set i .non) w
  | .bk ρ w => .bk (ρ.set i .non) w
  | .ct ρ w => .ct (ρ.set i .non) w
  | o => o
def tryS (j i : Nat) (c : Str) (f : Sem) (sa : SemA) (ss : Exn → SemS) : SemS := fun ρ w => match (sa ρ w) with
  | .ok ds w1 => (match f ds w1 with
    | .ok d w2 => .nx (ρ.set j (.dat d)) w2
    | .exc x w2 => if x.c = c then (ss x (ρ.set i .non) w2).clr i else .stuck
    | .stuck => .stuck)
  | _ => .stuck
theorem Sl.setRef {K : PySem.W.Frag} {F H H0 : Hp} {ι : List Addr} {σ : L2.St} {ρ : List Slot} (l : Sl K H0 F H ι σ ρ) (i : Nat) (v : Option V) : Sl K H0 F H ι (σ.set i v) (ρ.set i .non) where
  len := by simp [l.len]
  at_ := fun j t e => by
    by_cases z : i = j
    · subst z
      by_cases hl : i < ρ.length
      · rw [List.getElem?_set_self hl] at e; cases e; trivial
      · rw [List.getElem?_eq_none (by simp; omega)] at e; cases e
    · rw [List.getElem?_set_ne z] at e ⊢
      exact l.at_ j t e
  sep := fun j k c c' p e1 e2 e3 e4 => by
    by_cases z : i = j
    · subst z
      by_cases hl : i < ρ.length
      · rw [List.getElem?_set_self hl] at e1; cases e1
      · rw [List.getElem?_eq_none (by simp; omega)] at e1; cases e1
    · by_cases y : i = k
      · subst y
        by_cases hl : i < ρ.length
        · rw [List.getElem?_set_self hl] at e2; cases e2
        · rw [List.getElem?_eq_none (by simp; omega)] at e2; cases e2
      · rw [List.getElem?_set_ne z] at e1 e3
        rw [List.getElem?_set_ne y] at e2 e4
        exact l.sep j k c c' p e1 e2 e3 e4
theorem dsr_try {K : PySem.W.Frag} {n : Nat} {g : Sem} {ta : TA} {sa : SemA} {i j : Nat} {c : Str} {ts : Addr → Value → Option Addr → TS} {ss : Exn → SemS} {E : XK} (ha : DRA K EF ta sa) (hl : ∀ ρ w ds w1, sa ρ w = .ok ds w1 → ds.length = n) (hx : PySem.W.exmOne K (.ref (He.ga K c)) (.ref (He.ga K c)) = some true)
    (hs : DSU K E i ts ss) (Wout : WX) (N : Nat) (hiN : i < N) :
    ∀ (F0 H0 F H : Hp) (ι0 ι : List Addr) (w : W) (σ : L2.St) (ρ : List Slot) (D : Ends), ρ.length = N → Stp F0 H0 ι0 F H ι → Wd K F H ι w → Sl K H0 F H ι σ ρ → OutOk K E F0 H0 ι0 F ι D (tryS j i c g sa ss ρ w) →
      tSeq (tAsg (tCallS (Spec K n g) (WE (wAs K (.ref (He.ga K c)) i ts Wout D)) ta) (gName j)) tNext D σ H := by
  intro F0 H0 F H ι0 ι w σ ρ D hN st wd l o
  unfold tryS at o
  show ta σ H fun vs H1 => Spec K n g vs H1 (fun x H1 => D.nx (σ.set j (some x)) H1) (WE (wAs K (.ref (He.ga K c)) i ts Wout D) σ)
  cases e : sa ρ w with
  | stuck => rw [e] at o; exact False.elim o
  | exc y w1 => rw [e] at o; exact False.elim o
  | ok ds w1 =>
    simp only [e] at o
    refine ha.ok wd l e fun vs F1 H1 ι1 s1 d1 r1 => ⟨F1, ι1, w1, ds, d1, r1, hl ρ w ds w1 e, ?_⟩
    cases e2 : g ds w1 with
    | stuck => simp only [e2] at o; exact o
    | ok d w2 =>
      simp only [e2] at o ⊢
      exact fun v F2 H2 ι2 s2 d2 r2 => o _ F2 H2 ι2 (((Rch.now st).step s1).step s2) d2 (((l.mono s1).mono s2).set r2)
    | exc x w2 =>
      simp only [e2] at o ⊢
      intro F2 H2 ι2 d fs s2 d2 hd rf
      by_cases hc : x.c = c
      · rw [if_pos hc] at o
        show ∃ b, _
        rw [hc]
        refine ⟨true, hx, fun _ a ha0 => ?_, fun z => by cases z⟩
        have l2 : Sl K H0 F2 H2 ι2 (σ.set i (some (.ref a))) (ρ.set i .non) := ((l.mono s1).mono s2).setRef i _
        have rc : Rch F0 H0 ι0 F ι F2 H2 ι2 := ((Rch.now st).step s1).step s2
        have key := hs x a d fs F0 H0 F2 H2 ι0 ι2 w2 (σ.set i (some (.ref a))) (ρ.set i .non) { nx := fun σ' H' => D.nx (σ'.set i none) H', rt := D.rt, bk := fun σ' H' => D.bk (σ'.set i none) H', ct := fun σ' H' => D.ct (σ'.set i none) H' } rc.st d2 l2
          (by rw [List.getElem?_set_self (by rw [l.len, hN]; exact hiN)]) hd rf ?_
        · rw [hc] at key; exact key
        · cases q : ss x (ρ.set i .non) w2 with
          | nx ρ3 w3 => rw [q] at o; exact fun σ3 F3 H3 ι3 s3 d3 l3 => o _ F3 H3 ι3 (rc.more s3) d3 (l3.setRef i none)
          | bk ρ3 w3 => rw [q] at o; exact fun σ3 F3 H3 ι3 s3 d3 l3 => o _ F3 H3 ι3 (rc.more s3) d3 (l3.setRef i none)
          | ct ρ3 w3 => rw [q] at o; exact fun σ3 F3 H3 ι3 s3 d3 l3 => o _ F3 H3 ι3 (rc.more s3) d3 (l3.setRef i none)
          | rt y w3 => rw [q] at o; exact fun v F3 H3 ι3 s3 d3 r3 => o v F3 H3 ι3 (rc.more s3) d3 r3
          | exc y w3 => rw [q] at o; exact o
          | stuck => rw [q] at o; exact o
      · rw [if_neg hc] at o; exact False.elim o
end
/-- isinstance of the held error, which has a dict of its own -/
structure KitE (K : PySem.W.Frag) (C : Addr) : Prop where
  cl : (PySem.W.clsIn K C).isSome = true
  ga : PySem.W.findIn K (.ref C) "__getattribute__" = some (some (.builtin "BaseException.__getattribute__"))
  gg : PySem.W.findIn K (.ref C) "__getattr__" = some none
  sb : PySem.W.subIn K (.ref C) (.type "BaseException") = some true
  ca : PySem.W.findIn K (.ref C) "__class__" = some (some (.builtin "object.__class__"))
  sp : PySem.W.specialIn K (.builtin "object.__class__") "__get__" = some (some (.builtin "getset_descriptor.__get__"))
  tk : PySem.W.takesIn K (.builtin "object.__class__") = some true
  mr : PySem.W.mroIn K C (.type "object") = some true
def rIsH (K : PySem.W.Frag) (C a : Addr) (d : Option Addr) : List V → Hp → VK → Prop := fun xs H Q => ∃ (D : Addr) (b : Bool) (dd : Addr) (fs : List (Str × V)), xs = [.ref a, .ref D] ∧ PySem.W.kitOne K (.ref C) (.ref D) = some b ∧ d = some dd ∧ H dd = some (.xd fs) ∧ Q (.bl b) H
theorem call_isH {X : Cx} {a C : Addr} {oe : Obj} {pn : List (Addr × Obj)} {d : Option Addr} (T : KitE X.K C) (hz : Zc (.ref C) d oe) (hf : ∃ vs, oe.data = .fields vs) : CallR (X.suite a ((a, oe) :: pn)) (.builtin "isinstance") (rIsH X.K C a d) := by
  intro pins s σ H xs us Q I r h
  obtain ⟨D, b, dd, fs, rfl, hk, rfl, hd, q⟩ := h
  obtain ⟨u1, u2, rfl, r1, r2⟩ := vals2 r
  cases r1
  cases r2
  obtain ⟨hget, _⟩ := I.pin (a, oe) (List.mem_append_left _ List.mem_cons_self)
  obtain ⟨vs, hv⟩ := hf
  have hx : ObjOk X.prog X.w H s.heap dd (.xd fs) := I.hok dd _ hd
  obtain ⟨mA, hns, hr⟩ := hx
  obtain ⟨od, ho, hl⟩ := lookIn_ns hns
  have J : PySem.W.InstAt s.heap a oe C (some od) := ⟨hget, hz.1, by unfold PySem.W.notCls; rw [hv] <;> rfl, by rw [hz.2]; exact ho⟩
  exact PySem.W.kia_one (PySem.W.kitx_exc T.cl T.ga T.gg T.sb T.ca T.sp T.tk T.mr) I.kIn J hk (fun z => nomatch z) fun tk => ⟨.bl b, H, I.kept (t' := tk) fun _ _ z => z, rfl, q⟩
end DL

/-! What the top has written; defs by their names; a law's end. -/
namespace DL
open PySem PySem.Spec PyProof.Rows L2

/-! ### own errors, by one Bool -/
def oexB (K : PySem.W.Frag) (C : Addr) : Bool := match K.lookup C with
  | some ⟨.type "type", _, .cls cd, sl⟩ => (match cd.mro, sl.toList with
    | .ref D :: bm, [_, _, _, _, some (.builtin n), _] => (D == C) && (n == "ValueError.__new__") && !cd.hasDel && cd.hasDict && PySem.HandSPX.refsVE bm
    | _, _ => false)
  | _ => false
theorem oexB_ok {K : PySem.W.Frag} {C : Addr} (q : oexB K C = true) : ∃ nm q N bs bm sn sub ab col dd k0 k1 k2 k3 k5, K.lookup C = some (excClassObj nm q C N bs bm true sn sub ab col dd k0 k1 k2 k3 k5 "ValueError.__new__") ∧ PySem.HandSPX.refsVE bm = true := by
  unfold oexB at q
  split at q
  · rename_i od cd slots hk
    split at q
    · rename_i D tl a0 a1 a2 a3 nn a5 e1 e2
      simp only [Bool.and_eq_true, beq_iff_eq, Bool.not_eq_true'] at q
      obtain ⟨⟨⟨⟨rfl, rfl⟩, hdel⟩, hdct⟩, hb⟩ := q
      obtain ⟨c1, c2, c3, c4, c5, c6, c7, c8, c9, c10, c11⟩ := cd
      dsimp only at e1 hdel hdct
      subst e1 hdel hdct
      obtain rfl : slots = #[a0, a1, a2, a3, some (.builtin "ValueError.__new__"), a5] := Array.toList_inj.mp e2
      exact ⟨_, _, _, _, _, _, _, _, _, _, _, _, _, _, _, hk, hb⟩
    · cases q
  · cases q
structure ExcOk (K : PySem.W.Frag) (c : Str) (fs : List Str) : Prop where
  T : OexC K (He.ga K c)
  iC : PySem.W.findIn K (.ref (He.ga K c)) "__init__" = some (some (.ref (He.ma K (He.ga K c) "__init__")))
  tI : PySem.W.typeIn K (.ref (He.ma K (He.ga K c) "__init__")) = some (.type "function")
  no : ∀ f ∈ fs, PySem.W.findIn K (.ref (He.ga K c)) f = some none
  me : PySem.W.exmOne K (.ref (He.ga K c)) (.ref (He.ga K c)) = some true
  kit : KitE K (He.ga K c)
  xf : XfC K (He.ga K c)
def excB (K : PySem.W.Frag) (c : Str) (fs : List Str) : Bool :=
  oexB K (He.ga K c) && decide (PySem.W.findIn K (.ref (He.ga K c)) "__setattr__" = some (some (.builtin "object.__setattr__"))) && decide (PySem.W.subIn K (.ref (He.ga K c)) (.type "BaseException") = some true) && decide (PySem.W.typeIn K (.ref (He.ga K c)) = some (.type "type")) && PySem.W.keepIn K (.ref (He.ga K c)) &&
  decide (PySem.W.findIn K (.ref (He.ga K c)) "__init__" = some (some (.ref (He.ma K (He.ga K c) "__init__")))) && decide (PySem.W.typeIn K (.ref (He.ma K (He.ga K c) "__init__")) = some (.type "function")) && fs.all (fun f => decide (PySem.W.findIn K (.ref (He.ga K c)) f = some none)) && decide (PySem.W.exmOne K (.ref (He.ga K c)) (.ref (He.ga K c)) = some true) &&
  (PySem.W.clsIn K (He.ga K c)).isSome && decide (PySem.W.findIn K (.ref (He.ga K c)) "__getattribute__" = some (some (.builtin "BaseException.__getattribute__"))) && decide (PySem.W.findIn K (.ref (He.ga K c)) "__getattr__" = some none) && decide (PySem.W.findIn K (.ref (He.ga K c)) "__class__" = some (some (.builtin "object.__class__"))) &&
  decide (PySem.W.specialIn K (.builtin "object.__class__") "__get__" = some (some (.builtin "getset_descriptor.__get__"))) && decide (PySem.W.takesIn K (.builtin "object.__class__") = some true) && decide (PySem.W.mroIn K (He.ga K c) (.type "object") = some true) && PySem.W.hasDictIn K (He.ga K c)
theorem excB_ok {K : PySem.W.Frag} {c : Str} {fs : List Str} (h : excB K c fs = true) : ExcOk K c fs := by
  unfold excB at h
  simp only [Bool.and_eq_true, decide_eq_true_eq, List.all_eq_true] at h
  obtain ⟨⟨⟨⟨⟨⟨⟨⟨⟨⟨⟨⟨⟨⟨⟨⟨h1, h2⟩, h3⟩, h4⟩, h5⟩, h6⟩, h7⟩, h8⟩, h9⟩, h10⟩, h11⟩, h12⟩, h13⟩, h14⟩, h15⟩, h16⟩, h17⟩ := h
  exact ⟨⟨oexB_ok h1, h2, h3, h4, h5⟩, h6, h7, h8, h9, ⟨h10, h11, h12, h3, h13, h14, h15, h16⟩, ⟨h11, h12, h3, h17⟩⟩
def kitB2 (K : PySem.W.Frag) (c s : Str) (b : Bool) : Bool := decide (PySem.W.kitOne K (.ref (He.ga K c)) (.ref (He.ga K s)) = some b)
theorem kitB2_ok {K : PySem.W.Frag} {c s : Str} {b : Bool} (h : kitB2 K c s b = true) : PySem.W.kitOne K (.ref (He.ga K c)) (.ref (He.ga K s)) = some b := of_decide_eq_true h

/-! ### a def of the text -/
abbrev FnP (K : PySem.W.Frag) (x : Str) (st : Stmt) (f : Addr) (fd : FuncData) : Prop := FunD K x x (defArgs st) (defBody st) (defScope st) [] [] f fd
/-- the def x, at its level, does what g tells of n values -/
structure DefOk (P : Program) (w : World) (K : PySem.W.Frag) (mg : Str → Option Value) (base : Heap) (x : Str) (k n : Nat) (g : Sem) : Prop where
  hm : mg x = some (.ref (He.ga K x))
  kp : PySem.W.keepIn K (.ref (He.ga K x)) = true
  ex : ∃ fd ps, Binds K fd ps [] ∧ FnOk P w K mg base (L2.CX P w) k (He.ga K x) fd ps (Spec K n g)
structure DefOkG (P : Program) (w : World) (K : PySem.W.Frag) (mg : Str → Option Value) (base : Heap) (x : Str) (k n : Nat) (g : Sem) : Prop where
  hm : mg x = some (.ref (He.ga K x))
  kp : PySem.W.keepIn K (.ref (He.ga K x)) = true
  ex : ∃ fd ps, Binds K fd ps [] ∧ GOk P w K mg base k (He.ga K x) fd ps (Spec K n g)
structure DefOkN (P : Program) (w : World) (K : PySem.W.Frag) (mg : Str → Option Value) (base : Heap) (x : Str) (k : Nat) (g : Sem) : Prop where
  hm : mg x = some (.ref (He.ga K x))
  kp : PySem.W.keepIn K (.ref (He.ga K x)) = true
  ex : FnR P w K mg base (L2.CX P w) k (He.ga K x) (SpecN K g)
section
variable {X : Cx} {E : XK} {e : Expr} {es : List Expr} {ta : TA} {sa : SemA} {pos p : Pos} {x : Str} {k j n : Nat} {g : Sem}
theorem pass_own {C : Cx} {W : XK} (tk : Takes C fun cls d _ H => W cls d H) : Passes (L2.CX C.prog C.w) C W := passes_call (W := fun cls d _ H => W cls d H) tk fun _ _ _ _ h => h
theorem dc (D : DefOk X.prog X.w X.K X.mg X.base x k n g) (hr : Room j X.A) (hkj : k ≤ j) (hx : Passes (L2.CX X.prog X.w) X E) (ha : DA X E (e :: es) ta sa) (hl : ∀ ρ w ds w1, sa ρ w = .ok ds w1 → ds.length = n) (hg : Gl X x := by rfl) (hdb : (x == ("__debug__" : Str)) = false := by decide)
    (he : starEach (e :: es) X.env = (false, eval e X.env) :: starEach es X.env := by rfl) (hpl : (backTo pos (starEach es X.env)).any (·.1) = false := by rfl) : DE X E (.Call (.Name x p) (e :: es) [] pos) (tCall (Spec X.K n g) [] E ta) (callE g sa) := by
  obtain ⟨fd, ps, hb, G⟩ := D.ex
  exact de_call (G.mono hkj) hr D.hm D.kp hb hx ha hl hg hdb he hpl
theorem dcG (D : DefOkG X.prog X.w X.K X.mg X.base x k n g) (hG : X.A.guards = some []) (hr : Room j X.A) (hkj : k ≤ j) (hx : Passes (L2.CX X.prog X.w) X E) (ha : DA X E (e :: es) ta sa) (hl : ∀ ρ w ds w1, sa ρ w = .ok ds w1 → ds.length = n) (hg : Gl X x := by rfl) (hdb : (x == ("__debug__" : Str)) = false := by decide)
    (he : starEach (e :: es) X.env = (false, eval e X.env) :: starEach es X.env := by rfl) (hpl : (backTo pos (starEach es X.env)).any (·.1) = false := by rfl) : DE X E (.Call (.Name x p) (e :: es) [] pos) (tCall (Spec X.K n g) [] E ta) (callE g sa) := by
  obtain ⟨fd, ps, hb, G⟩ := D.ex
  exact ⟨pe_gcall (k := k) G hG (hr.mono hkj) hg D.hm D.kp hb hx ha.pa hdb he hpl, dr_call ha.dr hl⟩
theorem dcN (D : DefOkN X.prog X.w X.K X.mg X.base x k g) (hr : Room j X.A) (hkj : k ≤ j) (hx : Passes (L2.CX X.prog X.w) X E) (ha : DA X E (e :: es) ta sa) (hl : ∀ ρ w ds w1, sa ρ w = .ok ds w1 → ds.length = n) (hn : n ≤ most := by decide) (hg : Gl X x := by rfl) (hdb : (x == ("__debug__" : Str)) = false := by decide)
    (he : starEach (e :: es) X.env = (false, eval e X.env) :: starEach es X.env := by rfl) (hpl : (backTo pos (starEach es X.env)).any (·.1) = false := by rfl) : DE X E (.Call (.Name x p) (e :: es) [] pos) (fun σ H Q => ta σ H fun vs H1 => SpecN X.K g vs H1 Q E) (callE g sa) :=
  de_callN (D.ex.mono hkj) hr D.hm D.kp hx ha hl hn hg hdb he hpl
end
section
variable {P : Program} {w : World} {K : PySem.W.Frag} {mg : Str → Option Value} {base : Heap}
/-- a def is what its body's term tells -/
theorem def_ok {x : Str} {st : Stmt} {fd : FuncData} {N ps : List Str} {k n : Nat} {s : SemS} (F : FnP K x st (He.ga K x) fd) (hm : mg x = some (.ref (He.ga K x))) (S : FnScope N ps (defScope st)) (hn : ps.length = n)
    (hb : ∀ (kV doc pm : Value) (an : Option Addr) (cdv ct : Value) (us : List Value), us.length = ps.length → bindArgs (PySem.W.fnOf x x (defArgs st) (defBody st) (defScope st) .none kV doc pm an cdv ct) ⟨us, []⟩ = pure (ps.zip us))
    (hbody : ∀ (cdv : Value) (A : Around) (outer : List Env) (s0 : Shared) (H : Hp) (E : XK), Room k (A.deeper (envOfC x (defScope st) s0.heap.objs.size (He.ga K x) cdv)) →
      ∃ t, DSs (cxOf (L2.CX P w) P w K mg base N x (defScope st) (He.ga K x) cdv A outer s0 H E) E (defBody st) t s) : DefOk P w K mg base x (k + 1) n (runD N.length s) := by
  refine ⟨hm, F.kp, fd, ps, F.bindsN hb, F.ok S (fun vs H Q E h => by rw [hn]; exact Spec.len h) fun cdv A outer s0 H vs Q E hr h => ?_⟩
  obtain ⟨t, ht⟩ := hbody cdv A outer s0 H E hr
  exact ⟨t, ht.ps, body_ok ht.dr h⟩
theorem defG_ok {x : Str} {st : Stmt} {fd : FuncData} {N ps : List Str} {k n : Nat} {s : SemS} (F : FnP K x st (He.ga K x) fd) (hm : mg x = some (.ref (He.ga K x))) (S : FnScope N ps (defScope st)) (hn : ps.length = n)
    (hb : ∀ (kV doc pm : Value) (an : Option Addr) (cdv ct : Value) (us : List Value), us.length = ps.length → bindArgs (PySem.W.fnOf x x (defArgs st) (defBody st) (defScope st) .none kV doc pm an cdv ct) ⟨us, []⟩ = pure (ps.zip us))
    (hbody : ∀ (cdv : Value) (A : Around) (outer : List Env) (s0 : Shared) (H : Hp) (E : XK), A.guards = some [] → Room k (A.deeper (envOfC x (defScope st) s0.heap.objs.size (He.ga K x) cdv)) →
      ∃ t, DSs (cxOf (L2.CX P w) P w K mg base N x (defScope st) (He.ga K x) cdv A outer s0 H E) E (defBody st) t s) : DefOkG P w K mg base x (k + 1) n (runD N.length s) := by
  refine ⟨hm, F.kp, fd, ps, F.bindsN hb, ?_⟩
  obtain ⟨oc, od, dV, kV, doc, pm, an, cdv, ct, osl, rfl, lk, hcd, _, _⟩ := F.ex
  refine gn_of lk hcd S (fun vs H Q E h => by rw [hn]; exact Spec.len h) fun A outer s0 H vs Q E hG hr h => ?_
  obtain ⟨t, ht⟩ := hbody cdv A outer s0 H E hG hr
  exact ⟨t, ht.ps, body_ok ht.dr h⟩
theorem defN_ok {x pv : Str} {st : Stmt} {fd : FuncData} {N : List Str} {k : Nat} {s : SemS} (F : FnP K x st (He.ga K x) fd) (hm : mg x = some (.ref (He.ga K x))) (S : FnScope N [pv] (defScope st))
    (hb : ∀ (kV doc pm : Value) (an : Option Addr) (cdv ct : Value) (rest : List Value), bindArgs (PySem.W.fnOf x x (defArgs st) (defBody st) (defScope st) .none kV doc pm an cdv ct) ⟨rest, []⟩ = (newTuple rest >>= fun t => pure [(pv, t)]))
    (hbody : ∀ (cdv : Value) (A : Around) (outer : List Env) (s0 : Shared) (H : Hp) (E : XK), Room k (A.deeper (envOfC x (defScope st) s0.heap.objs.size (He.ga K x) cdv)) →
      ∃ t, DSs (cxOf (L2.CX P w) P w K mg base N x (defScope st) (He.ga K x) cdv A outer s0 H E) E (defBody st) t s) : DefOkN P w K mg base x (k + 1) (fun ds w => runD N.length s [.tup ds] w) := by
  refine ⟨hm, F.kp, ?_⟩
  obtain ⟨oc, od, dV, kV, doc, pm, an, cdv, ct, osl, rfl, lk, hcd, hD, _⟩ := F.ex
  rcases hD with ⟨_, rfl⟩ | ⟨z, _⟩
  · exact fn_starD lk hcd S (hb kV doc pm an cdv ct) fun A outer s0 H E hr => hbody cdv A outer s0 H E hr
  · exact absurd rfl z
end
end DL

/-! Displays of dicts; a law's end with repr; try. -/
namespace DL
open PySem PySem.Spec PyProof.Rows L2

/-! ### {k: v, ..} -/
def toKey : D → Option Key
  | .int i => some (.inl i)
  | .str x => some (.inr x)
  | _ => none
theorem toKey_ok {K : PySem.W.Frag} {F : Hp} {ι : List Addr} {v : V} {d : D} {k : Key} (r : Rep K F ι v d) (e : toKey d = some k) : v = kV k := by
  cases r with
  | int i => cases e; rfl
  | str x => cases e; rfl
  | _ => cases e
def putD {κ : Type} [DecidableEq κ] (kvs : List (κ × D)) (k : κ) (v : D) : List (κ × D) :=
  if (kvs.any fun kv => decide (kv.1 = k)) = true then kvs.map (fun kv => if kv.1 = k then (kv.1, v) else kv) else kvs ++ [(k, v)]
def mergeD (kvs more : List (Key × D)) : List (Key × D) := more.foldl (fun acc kv => putD acc kv.1 kv.2) kvs
section
variable {K : PySem.W.Frag} {F : Hp} {ι : List Addr}
theorem RepK.any {xs : List (Key × V)} {ds : List (Key × D)} (r : RepK K F ι xs ds) (k : Key) : (xs.any fun kv => decide (kv.1 = k)) = ds.any fun kv => decide (kv.1 = k) := by
  induction ds generalizing xs with
  | nil => cases r; rfl
  | cons d ds ih => cases r with | cons h r => rw [List.any_cons, List.any_cons, ih r]
theorem RepK.mapPut {xs : List (Key × V)} {ds : List (Key × D)} (r : RepK K F ι xs ds) {k : Key} {v : V} {d : D} (q : Rep K F ι v d) : RepK K F ι (xs.map fun kv => if kv.1 = k then (kv.1, v) else kv) (ds.map fun kv => if kv.1 = k then (kv.1, d) else kv) := by
  induction ds generalizing xs with
  | nil => cases r; exact .nil
  | cons e ds ih =>
    cases r with
    | @cons k' v' vs d' ds' h r =>
      rw [List.map_cons, List.map_cons]
      by_cases z : k' = k
      · simp only [z, if_true]; exact .cons q (ih r)
      · simp only [z, if_false]; exact .cons h (ih r)
theorem RepK.snoc {xs : List (Key × V)} {ds : List (Key × D)} (r : RepK K F ι xs ds) {k : Key} {v : V} {d : D} (q : Rep K F ι v d) : RepK K F ι (xs ++ [(k, v)]) (ds ++ [(k, d)]) := by
  induction ds generalizing xs with
  | nil => cases r; exact .cons q .nil
  | cons e ds ih => cases r with | cons h r => exact .cons h (ih r)
theorem RepK.put {xs : List (Key × V)} {ds : List (Key × D)} (r : RepK K F ι xs ds) {k : Key} {v : V} {d : D} (q : Rep K F ι v d) : RepK K F ι (putK xs k v) (putD ds k d) := by
  unfold putK putD
  rw [r.any k]
  split
  · exact r.mapPut q
  · exact r.snoc q
theorem RepK.merge {more : List (Key × V)} {mds : List (Key × D)} (q : RepK K F ι more mds) : ∀ {xs : List (Key × V)} {ds : List (Key × D)}, RepK K F ι xs ds → RepK K F ι (mergeK xs more) (mergeD ds mds) := by
  induction mds generalizing more with
  | nil => cases q; intro xs ds r; exact r
  | cons e mds ih =>
    cases q with
    | cons h t =>
      intro xs ds r
      exact ih t (r.put h)
end
abbrev SemP := List Slot → W → R (List (Key × D))
def OkP (K : PySem.W.Frag) (F H : Hp) (ι : List Addr) (x : List (Key × D)) (w' : W) (Q : List (V × V) → Hp → Prop) : Prop := ∀ kvs F' H' ι', Stp F H ι F' H' ι' → Wd K F' H' ι' w' → RepK K F' ι' kvs x → Q (kvs.map fun kv => (kV kv.1, kv.2)) H'
def DRP (K : PySem.W.Frag) (E : XK) (trs : List (TE × TE)) (s : SemP) : Prop := ∀ (H0 F H : Hp) (ι : List Addr) (w : W) (σ : L2.St) (ρ : List Slot), Wd K F H ι w → Sl K H0 F H ι σ ρ →
  Meets (fun x w' => ∀ Q, OkP K F H ι x w' Q → tPairs trs σ H Q) (fun x w' => XPost K E F H ι x w' → ∀ Q, tPairs trs σ H Q) (s ρ w)
structure DP (X : Cx) (E : XK) (pos : Pos) (ks : List (Option Expr)) (vs : List Expr) (trs : List (TE × TE)) (s : SemP) : Prop where
  pp : PPs X pos ks vs trs
  dr : DRP X.K E trs s
def nilP : SemP := fun _ w => .ok [] w
def consP (k : Key) (s : SemE) (r : SemP) : SemP := fun ρ w => (s ρ w).bind fun x w1 => match x with
  | .dat d => (r ρ w1).bind fun ps w2 => .ok ((k, d) :: ps) w2
  | .vw _ => .stuck
section
variable {X : Cx} {E : XK} {pos : Pos} {ks : List (Option Expr)} {vs : List Expr} {trs : List (TE × TE)} {s : SemE} {r : SemP}
theorem dp_nil : DP X E pos [] [] [] nilP := ⟨pps_nil, fun _ F H ι w σ ρ d l Q q => q [] F H ι Stp.refl d .nil⟩
theorem dp_cons {k v : Expr} {tk tv : TE} {key : Key} (hk : PE X k tk) (ek : tk = tC (kV key)) (hv : DE X E v tv s) (hr : DP X E pos ks vs trs r) : DP X E pos (some k :: ks) (v :: vs) ((tk, tv) :: trs) (consP key s r) := ⟨pps_cons hk hv.pe hr.pp, by
  subst ek
  intro H0 F H ι w σ ρ d l
  unfold consP
  cases e : s ρ w with
  | stuck => trivial
  | exc x w1 => exact fun q Q => hv.dr.exc d l e q _
  | ok x w1 =>
    cases x with
    | vw c => trivial
    | dat y =>
      show Meets _ _ ((r ρ w1).bind _)
      cases e2 : r ρ w1 with
      | stuck => trivial
      | exc x w2 =>
        intro q Q
        refine hv.dr.ok d l e fun v F1 H1 ι1 s1 d1 r1 => ?_
        have z := hr.dr H0 F1 H1 ι1 w1 σ ρ d1 (l.mono s1)
        rw [e2] at z
        exact z (q.step s1) _
      | ok ps w2 =>
        intro Q q
        refine hv.dr.ok d l e fun v F1 H1 ι1 s1 d1 r1 => ?_
        have z := hr.dr H0 F1 H1 ι1 w1 σ ρ d1 (l.mono s1)
        rw [e2] at z
        refine z _ fun kvs F2 H2 ι2 s2 d2 r2 => ?_
        exact q ((key, v) :: kvs) F2 H2 ι2 (s1.trans s2) d2 (.cons (Rep.mono s2.ex s2.ix r1) r2)⟩
theorem dp_str {x : Str} {j p} {v : Expr} {tv : TE} (hv : DE X E v tv s) (hr : DP X E pos ks vs trs r) : DP X E pos (some (.Constant (.str x) j p) :: ks) (v :: vs) ((tC (.str x), tv) :: trs) (consP (.inr x) s r) := dp_cons (key := .inr x) pe_str rfl hv hr
theorem dp_int {i : Int} {j p} {v : Expr} {tv : TE} (hv : DE X E v tv s) (hr : DP X E pos ks vs trs r) : DP X E pos (some (.Constant (.int i) j p) :: ks) (v :: vs) ((tC (.int i), tv) :: trs) (consP (.inl i) s r) := dp_cons (key := .inl i) pe_int rfl hv hr
def dctE (s : SemP) : SemE := fun ρ w => (s ρ w).bind fun ps w1 => if ps.length ≤ 15 then .ok (.dat (.dct (mergeD [] ps))) w1 else .stuck
theorem Wd.notin {K : PySem.W.Frag} {F H : Hp} {ι : List Addr} {w : W} {p : Addr} (d : Wd K F H ι w) (h : H p = none) : p ∉ ι := fun m => by
  obtain ⟨_, o, z⟩ := d.ne m
  rw [h] at z; cases z
theorem de_disp (h : DP X E pos ks vs trs r) (hall : ks.all (·.isSome) = true := by rfl) (hl : ks.length = vs.length := by rfl) (h0 : ks ≠ [] := by exact fun z => nomatch z) (h15 : ks.length ≤ 15 := by decide) : DE X E (.Dict ks vs pos) (tDisp trs) (dctE r) := ⟨pe_disp h.pp hall hl h0 h15, by
  intro H0 F H ι w σ ρ d l
  unfold dctE
  have st0 : ∀ p, H p = none → Stp F H ι F (upd H p (.dK [])) ι := fun p hp => Stp.only hp
  have wd0 : ∀ p, H p = none → Wd X.K F (upd H p (.dK [])) ι w := fun p hp => d.poke (d.free hp) (d.notin hp)
  cases e : r ρ w with
  | stuck => trivial
  | exc x w1 =>
    intro q Q p hp
    have z := h.dr H0 F (upd H p (.dK [])) ι w σ ρ (wd0 p hp) (l.mono (st0 p hp))
    rw [e] at z
    exact z (q.step (st0 p hp)) _
  | ok ps w1 =>
    show Meets _ _ (if ps.length ≤ 15 then _ else _)
    split
    · rename_i h15
      intro Q q p hp
      have z := h.dr H0 F (upd H p (.dK [])) ι w σ ρ (wd0 p hp) (l.mono (st0 p hp))
      rw [e] at z
      refine z _ fun kvs F2 H2 ι2 s2 d2 r2 => ?_
      have np : p ∉ ι := d.notin hp
      have h2p : H2 p = some (.dK []) := s2.keep p _ np upd_same
      have n2 : p ∉ ι2 := s2.out (show (upd H p (.dK [])) p = some _ from upd_same) np
      have f2 : F2 p = none := by
        cases z : F2 p with
        | none => rfl
        | some o =>
          rcases s2.new p o z with y | y
          · rw [d.free hp] at y; cases y
          · rw [upd_same] at y; cases y
      have len : kvs.length = ps.length := r2.length
      refine ⟨h2p, kvs, rfl, by rw [len]; exact h15, ?_⟩
      have exF : Ex F2 (upd F2 p (.dK (mergeK [] kvs))) := Ex.new f2
      refine q (.ref p) (upd F2 p (.dK (mergeK [] kvs))) (upd H2 p (.dK (mergeK [] kvs))) ι2 ⟨((st0 p hp).trans s2).ex.trans exF, fun a o n ha => ?_, fun a o ha => ?_, fun a o ha => ?_, ((st0 p hp).trans s2).ext⟩ ⟨fun a o ha => ?_, d2.len, d2.nd, fun n a c h1 h2 => ?_⟩ (.dct upd_same ((r2.mono exF fun _ _ h => h).merge .nil))
      · rw [upd_ne (ne_of_none ha hp)]; exact ((st0 p hp).trans s2).keep a o n ha
      · rw [upd_ne (ne_of_none ha hp)]; exact ((st0 p hp).trans s2).kin a o ha
      · by_cases z : a = p
        · subst z; exact .inr hp
        · rw [upd_ne z] at ha; exact ((st0 p hp).trans s2).new a o ha
      · by_cases z : a = p
        · subst z; rw [upd_same] at ha ⊢; exact ha
        · rw [upd_ne z] at ha ⊢; exact d2.ex a o ha
      · obtain ⟨y1, y2⟩ := d2.cel n a c h1 h2
        have z : a ≠ p := fun z => n2 (z ▸ List.mem_of_getElem? h1)
        exact ⟨by rw [upd_ne z]; exact y1, y2.mono exF (fun _ _ h => h) fun u hu => by rw [upd_ne z]; exact hu⟩
    · trivial⟩
theorem de_dct0 : DE X E (.Dict [] [] pos) tDNewK (cst (.dct [])) := ⟨pe_dnewK, fun H0 F H ι w σ ρ d l Q q p hp => okv_new d q hp (.dct upd_same .nil)⟩
end
end DL

/-! A law's end, repr reached. -/
namespace DL
open PySem PySem.Spec PyProof.Rows L2
/-- what is tracked at a law's call: the script, if it is no object of the module -/
def lawH (K : PySem.W.Frag) (a : Addr) (vs : List Value) (ns : List Int) : Hp := fun b => if b = a ∧ K.lookup a = none then some (.frz { cls := .type "list", data := .seq vs.toArray } (.lst (ns.map V.int))) else none
theorem lawH_other {K : PySem.W.Frag} {a b : Addr} {vs : List Value} {ns : List Int} (h : b ≠ a) : lawH K a vs ns b = none := if_neg fun z => h z.1
theorem lawH_at {K : PySem.W.Frag} {a b : Addr} {vs : List Value} {ns : List Int} {u : HO} (h : lawH K a vs ns b = some u) : b = a ∧ K.lookup a = none ∧ u = .frz { cls := .type "list", data := .seq vs.toArray } (.lst (ns.map V.int)) := by
  unfold lawH at h
  split at h
  · rename_i z
    cases h
    exact ⟨z.1, z.2, rfl⟩
  · cases h
section
variable {P : Program} {w : World} {K : PySem.W.Frag} {mg mb : Str → Option Value} {k : Nat} {fa a : Addr} {fd : FuncData} {x : Str} {g : Sem} {t : Shared} {vs : List Value} {ns : List Int}
theorem lawH_only : Only (lawH K a vs ns) := fun b => by
  cases q : lawH K a vs ns b with
  | none => exact .inl rfl
  | some u => obtain ⟨_, _, rfl⟩ := lawH_at q; exact .inr ⟨_, _, rfl⟩
theorem lawG (inK : K.In t.heap) (nG : t.heap.Ns mainGlobals mg) (nB : t.heap.Ns builtinsNs mb) (boot : ∀ y : Str, y ≠ "__name__" → mb y = bootBuiltins y) (free : t.heap.NoLimit) (gens : t.gens = #[])
    (obj : t.heap.get? a = some { cls := .type "list", data := .seq vs.toArray }) (hints : IntsAre vs ns) (few : ns.length ≤ sizeLine) (rm : Room k callerA) (gd : callerA.guards = some [])
    (F : ∀ b : Heap, K.In b → b.Ns mainGlobals mg → GOk P w K mg b k fa fd [x] (Spec K 1 g)) (bd : ∀ (s : Shared) (u : Value), BindsTo s fd ⟨[u], []⟩ [(x, u)]) (law : ∃ w1, g [.scr ns] [] = .ok (.bl true) w1) :
    codeAny (model P w) callerA (.call (.ref fa) ⟨[.ref a], []⟩) (fun r s' => r = .ok (.ret (.bool true)) ∧ OldK t.heap s'.heap ∧ s'.os = t.os ∧ AllBare s'.gens) t := by
  have rv := vals_ints hints
  have nlen := hints.length
  have seqAt : SqL K (lawH K a vs ns) a (ns.map V.int) := by
    cases q : K.lookup a with
    | none => exact .inl (.inr ⟨_, if_pos ⟨rfl, q⟩⟩)
    | some o =>
      have same := inK a o q
      rw [obj] at same
      cases same
      exact .inr ⟨_, vs.toArray, _, q, rfl, rfl, rfl, by rw [List.size_toArray, nlen]; exact few, by simpa using rv⟩
  have hok : HOk P w (lawH K a vs ns) t.heap := fun b u z => by
    obtain ⟨rfl, _, rfl⟩ := lawH_at z
    exact ⟨obj, by rw [List.length_map]; exact few, vs, _, rv, obj⟩
  have clear : ∀ {b : Addr} {o : Obj}, t.heap.get? b = some o → lawH K a vs ns b = none → (hidT t.heap (lawH K a vs ns)).get? b = some o := fun e n => hidT_get e n
  have dicts : ∀ {b : Addr} {o : Obj} {es : Array DictEntry} {ep : Nat}, t.heap.get? b = some o → o.data = .dict es ep → lawH K a vs ns b = none := fun {b o es ep} e d => by
    by_cases z : b = a
    · subst z
      rw [obj] at e
      cases e
      cases (show Data.seq vs.toArray _ = Data.dict es ep from d)
    · exact lawH_other z
  have spaces : ∀ {b : Addr} {m : Str → Option Value}, t.heap.Ns b m → (hidT t.heap (lawH K a vs ns)).Ns b m := fun {b m} ⟨o, es, ep, e, d, r⟩ => ⟨o, es, ep, clear e (dicts e d), d, r⟩
  have known : K.In (hidT t.heap (lawH K a vs ns)) := fun b o e => clear (inK b o e) (by
    cases q : lawH K a vs ns b with
    | none => rfl
    | some u =>
      obtain ⟨rfl, z, _⟩ := lawH_at q
      rw [e] at z; cases z)
  have module : Mod K mg (hidT t.heap (lawH K a vs ns)) := ⟨known, spaces nG, ⟨mb, spaces nB, boot⟩, by obtain ⟨mc, h1, h2⟩ := free; exact ⟨mc, spaces h1, h2⟩⟩
  have none0 : ∀ {α : Type} {l : List α} {b : α}, b ∈ ([] : List α) → False := fun h => nomatch h
  have enter : Env0 P w K mg (hidT t.heap (lawH K a vs ns)) callerA [] t (lawH K a vs ns) := ⟨rfl, module, fun b o e => of_hidT e, Nat.le_of_eq (hidT_size _ _), trivial, fun b hb => absurd (show b ∈ ([] : List Addr) from hb) (by simp), hok, .of_eq gens⟩
  obtain ⟨w1, law⟩ := law
  have said : Spec K 1 g [.ref a] (lawH K a vs ns) (fun v _ => v = .bl true) fun _ _ _ => False := by
    refine ⟨lawH K a vs ns, [], [], [.scr ns], ⟨Ex.refl _, rfl, List.nodup_nil, fun n b c h => by cases h⟩, .cons (.scr seqAt) .nil, rfl, ?_⟩
    rw [law]
    intro v F' H' ι' _ _ r
    cases r
    rfl
  refine codeAny_mono ((F _ known (spaces nG)).run callerA [] t _ ⟨[.ref a], []⟩ [.ref a] [.ref a] _ _ gd rm enter (bd t (.ref a)) (.cons rfl .nil) said) fun r s' h => ?_
  match r with
  | .error e =>
    obtain ⟨_, _, _, _, _, _, _, _, _, _, _, _, z⟩ := h
    exact z.elim
  | .ok .next => exact h.elim
  | .ok .brk => exact h.elim
  | .ok .cont => exact h.elim
  | .ok (.ret u) =>
    obtain ⟨v, H', os, bare, un, hok', rel, q⟩ := h
    obtain rfl : v = .bl true := q
    obtain rfl : u = Value.bool true := rel
    refine ⟨rfl, OldK.of_keep fun b o e => ?_, os, bare⟩
    cases q : lawH K a vs ns b with
    | none => exact un.keep b o e q (by intro z; exact absurd (show b ∈ ([] : List Addr) from z) (by simp)) (by simp)
    | some u =>
      obtain ⟨_, _, rfl⟩ := lawH_at q
      have there := un.frzs b _ _ q
      obtain ⟨e1, _⟩ := hok b _ q
      obtain ⟨e2, _⟩ := hok' b _ there
      rw [e] at e1
      cases e1
      exact e2
/-- a law over the head: the def's term, what it tells of a script -/
theorem walkG {l : PySem.W.OpenLaw} {n : Nat} {q : Program} {loose : List Str} {XP : (Str → Option Value) → Heap → Prop} {YP : World → Heap → Prop} {d : DefRec} (hn : l.most = some n) (hn2 : n ≤ sizeLine) (hdf : d.params.defaults = []) (rm : Room k callerA) (gd : callerA.guards = some [])
    (G : ∀ (w : World) (mg : Str → Option Value) (fa : Addr) (h : Heap), YP w h → h.Ns mainGlobals mg → mg d.name = some (.ref fa) → ∃ (K : PySem.W.Frag) (fd : FuncData), K.In h ∧ (∀ (s : Shared) (u : Value), BindsTo s fd ⟨[u], []⟩ [(x, u)]) ∧
      ∀ b : Heap, K.In b → b.Ns mainGlobals mg → GOk l.prog w K mg b k fa fd [x] (Spec K 1 g)) (law : ∀ ns : List Int, ns.length ≤ n → ∃ w1, g [.scr ns] [] = .ok (.bl true) w1) : PySem.W.WalkO q loose XP YP l.row.toRowW d [] (fun f vs => PySem.call f vs) :=
  Att.attach_call hn hdf fun w _ s mg mb fa _ _ _ _ a vs ns gr y _ _ _ named listed hints len gens => by
    obtain ⟨K, fd, inK, bd, F⟩ := G w mg fa s.heap y gr.T.g named
    exact lawG inK gr.T.g gr.T.b gr.T.builtins gr.T.nolimit gens listed hints (Nat.le_trans len hn2) rm gd F bd (law ns len)
end
end DL

/-! try: y = f(..) except C as n: z = (n.f, .., isinstance(n, S)). -/
namespace DL
open PySem PySem.Spec PyProof.Rows L2

/-- readings of the held error: a the error, d its dict -/
abbrev TAX := Addr → Value → Option Addr → TA
abbrev TEX := Addr → Value → Option Addr → TE
def DRX (K : PySem.W.Frag) (i : Nat) (c : Str) (te : TEX) (g : Exn → Option D) : Prop := ∀ (x : Exn) (a d : Addr) (fs : List (Str × V)) (F H : Hp) (ι : List Addr) (w : W) (σ : L2.St), Wd K F H ι w → σ[i]? = some (some (.ref a)) → F d = some (.xd fs) → RepF K F ι fs x.fs →
  ∀ z, g x = some z → ∀ Q : VK, OkV K F H ι (.dat z) w Q → te a (.ref (He.ga K c)) (some d) σ H Q
def DRXA (K : PySem.W.Frag) (i : Nat) (c : Str) (ta : TAX) (g : Exn → Option (List D)) : Prop := ∀ (x : Exn) (a d : Addr) (fs : List (Str × V)) (F H : Hp) (ι : List Addr) (w : W) (σ : L2.St), Wd K F H ι w → σ[i]? = some (some (.ref a)) → F d = some (.xd fs) → RepF K F ι fs x.fs →
  ∀ z, g x = some z → ∀ Q : List V → Hp → Prop, OkA K F H ι z w Q → ta a (.ref (He.ga K c)) (some d) σ H Q
/-- an expression in the suite -/
structure DX (X : Cx) (i : Nat) (c : Str) (e : Expr) (te : TEX) (g : Exn → Option D) : Prop where
  pe : ∀ (a : Addr) (oe : Obj) (cls : Value) (d : Option Addr) (pn : List (Addr × Obj)), Zc cls d oe → (∃ vs, oe.data = .fields vs) → PE (X.suite a ((a, oe) :: pn)) e (te a cls d)
  dr : DRX X.K i c te g
structure DXA (X : Cx) (i : Nat) (c : Str) (es : List Expr) (ta : TAX) (g : Exn → Option (List D)) : Prop where
  pa : ∀ (a : Addr) (oe : Obj) (cls : Value) (d : Option Addr) (pn : List (Addr × Obj)), Zc cls d oe → (∃ vs, oe.data = .fields vs) → PA (X.suite a ((a, oe) :: pn)) es (ta a cls d)
  dr : DRXA X.K i c ta g
section
variable {X : Cx} {i : Nat} {c : Str} {pos p apos : Pos} {n : Str}
/-- error.f -/
theorem dx_field {f : Str} (T : XfC X.K (He.ga X.K c)) (no : PySem.W.findIn X.K (.ref (He.ga X.K c)) f = some none) (hN : X.N[i]? = some n := by rfl) (hv : Vis X.env.scope n := by first | exact Or.inl rfl | exact Or.inr (Or.inl rfl) | exact Or.inr (Or.inr rfl)) (hd : (n == ("__debug__" : Str)) = false := by decide)
    (hcd : (n == ("__classdict__" : Str)) = false := by decide) (hb : attributeBase (.Name n p) f X.env (eval (.Name n p) X.env) = eval (.Name n p) X.env := by rfl) : DX X i c (.Attribute (.Name n p) f pos) (fun a cls d => tXf a cls d (He.ga X.K c) f (tVar i)) (fun x => x.fs.lookup f) :=
  ⟨fun a oe cls d pn hz hf => pe_xf T no hz hf (pe_var hN hv hd hcd) hb, fun x a d fs F H ι w σ wd e hd r z hz Q q => by
    obtain ⟨v, l, rv⟩ := r.lookup hz
    exact ⟨.ref a, e, rfl, rfl, d, fs, v, rfl, wd.ex _ _ hd, l, okv_now q wd rv⟩⟩
def rIsX (K : PySem.W.Frag) (C a : Addr) (cls : Value) (d : Option Addr) : List V → Hp → VK → Prop := fun xs H Q => cls = .ref C ∧ rIsH K C a d xs H Q
theorem call_isX {a C : Addr} {oe : Obj} {cls : Value} {pn : List (Addr × Obj)} {d : Option Addr} (T : KitE X.K C) (hz : Zc cls d oe) (hf : ∃ vs, oe.data = .fields vs) : CallR (X.suite a ((a, oe) :: pn)) (.builtin "isinstance") (rIsX X.K C a cls d) := by
  intro pins s σ H xs us Q I r h
  obtain ⟨e, h⟩ := h
  subst e
  exact call_isH T hz hf pins s σ H xs us Q I r h
/-- isinstance(error, S) -/
theorem dx_isi {S : Str} {b : Bool} {p2 p3 : Pos} (T : KitE X.K (He.ga X.K c)) (hk : PySem.W.kitOne X.K (.ref (He.ga X.K c)) (.ref (He.ga X.K S)) = some b) (hi : X.mg "isinstance" = none) (hS : X.mg S = some (.ref (He.ga X.K S))) (hN : X.N[i]? = some n := by rfl) (hv : Vis X.env.scope n := by first | exact Or.inl rfl | exact Or.inr (Or.inl rfl) | exact Or.inr (Or.inr rfl)) (hd : (n == ("__debug__" : Str)) = false := by decide)
    (hcd : (n == ("__classdict__" : Str)) = false := by decide) (hg : Gl X "isinstance" := by rfl) (hgS : Gl X S := by rfl) (hdS : (S == ("__debug__" : Str)) = false := by decide)
    (he : starEach [.Name n p, .Name S p2] X.env = (false, eval (.Name n p) X.env) :: starEach [.Name S p2] X.env := by rfl) (he2 : starEach [.Name S p2] X.env = (false, eval (.Name S p2) X.env) :: starEach [] X.env := by rfl) (hpl : (backTo pos (starEach [.Name S p2] X.env)).any (·.1) = false := by rfl) :
    DX X i c (.Call (.Name "isinstance" p3) [.Name n p, .Name S p2] [] pos) (fun a cls d => tCB (rIsX X.K (He.ga X.K c) a cls d) (tCons (tVar i) (tCons (tC (.ref (He.ga X.K S))) tNil))) (fun _ => some (.bl b)) :=
  ⟨fun a oe cls d pn hz hf => pe_callB (call_isX T hz hf) hg hi (by decide +kernel) (pa_cons (pe_var hN hv hd hcd) (pa_cons (pe_glob hgS hS rfl hdS) pa_nil he2) he) (by decide) (by decide) he hpl, fun x a d fs F H ι w σ wd e hd r z hz Q q => by
    cases hz
    exact ⟨.ref a, e, rfl, He.ga X.K S, b, d, fs, rfl, hk, rfl, wd.ex _ _ hd, okv_now q wd (.bl b)⟩⟩
theorem dxa_nil : DXA X i c [] (fun _ _ _ => tNil) (fun _ => some []) := ⟨fun _ _ _ _ _ _ _ => pa_nil, fun x a d fs F H ι w σ wd e hd r z hz Q q => by cases hz; exact q [] F H ι Stp.refl wd .nil⟩
def consX (g : Exn → Option D) (h : Exn → Option (List D)) : Exn → Option (List D) := fun x => (g x).bind fun d => (h x).map (d :: ·)
theorem dxa_cons {e : Expr} {es : List Expr} {te : TEX} {ta : TAX} {g : Exn → Option D} {h : Exn → Option (List D)} (he : DX X i c e te g) (hr : DXA X i c es ta h) (hs : starEach (e :: es) X.env = (false, eval e X.env) :: starEach es X.env := by rfl) : DXA X i c (e :: es) (fun a cls d => tCons (te a cls d) (ta a cls d)) (consX g h) :=
  ⟨fun a oe cls d pn hz hf => pa_cons (he.pe a oe cls d pn hz hf) (hr.pa a oe cls d pn hz hf) hs, fun x a d fs F H ι w σ wd e hd r z hz Q q => by
    unfold consX at hz
    cases e1 : g x with
    | none => rw [e1] at hz; cases hz
    | some y =>
      cases e2 : h x with
      | none => rw [e1, e2] at hz; cases hz
      | some ys =>
        rw [e1, e2] at hz
        cases hz
        refine he.dr x a d fs F H ι w σ wd e hd r y e1 _ fun v F1 H1 ι1 s1 d1 r1 => ?_
        refine hr.dr x a d fs F1 H1 ι1 w σ d1 e (s1.ex _ _ hd) (r.mono s1.ex s1.ix) ys e2 _ fun vs F2 H2 ι2 s2 d2 r2 => ?_
        exact q (v :: vs) F2 H2 ι2 (s1.trans s2) d2 (.cons (Rep.mono s2.ex s2.ix r1) r2)⟩
/-- the suite: z = (..) -/
def suiteS (c : Str) (j : Nat) (g : Exn → Option (List D)) (x : Exn) : SemS := fun ρ w => if x.c = c then (match g x with
  | some ds => if ds.length ≤ most then .nx (ρ.set j (.dat (.tup ds))) w else .stuck
  | none => .stuck) else .stuck
theorem dsu_set {K : PySem.W.Frag} {E : XK} {ta : TAX} {g : Exn → Option (List D)} {j : Nat} (h : DRXA K i c ta g) : DSU K E i (fun a cls d => tSeq (tAsg (tTup (ta a cls d)) (gName j)) tNext) (suiteS c j g) := by
  intro x a d fs F0 H0 F H ι0 ι w σ ρ D st wd l e hd r o
  unfold suiteS at o
  split at o
  · rename_i hc
    cases q : g x with
    | none => rw [q] at o; exact False.elim o
    | some ds =>
      simp only [q] at o
      split at o
      · rename_i hm
        rw [hc]
        refine h x a d fs F H ι w σ wd e hd r ds q _ fun vs F1 H1 ι1 s1 d1 r1 => ⟨by rw [r1.length]; exact most_le hm, fun p hp => ?_⟩
        have s2 : Stp F1 H1 ι1 (upd F1 p (.tup vs)) (upd H1 p (.tup vs)) ι1 := Stp.fresh hp (d1.free hp)
        exact o (σ.set j (some (.ref p))) _ _ ι1 (((Rch.now st).step s1).step s2) (d1.fresh hp) (((l.mono s1).mono s2).set (.tup (SqT.of upd_same) (r1.up d1 hp)))
      · exact False.elim o
  · exact False.elim o
def tryS2 (j i : Nat) (c : Str) (f : Sem) (sa : SemA) (ss : Exn → SemS) : SemS := fun ρ w => if i < ρ.length then tryS j i c f sa ss ρ w else .stuck
theorem ds_tryAs {E : XK} {k kk m j l : Nat} {c x y z : Str} {g : Sem} {gx : Exn → Option (List D)} {e : Expr} {es ex : List Expr} {ta : TA} {sa : SemA} {tx : TAX} {py pz pt pc p1 p2 p3 p4 p5 : Pos} (D : DefOk X.prog X.w X.K X.mg X.base x k m g) (hr : Room kk X.A) (hkj : k ≤ kk) (hs : X.stack = X.env :: X.outer) (hf : X.env.frame = some X.env.locals) (hN : X.N.Nodup) (tk : Takes X fun cls d _ H => E cls d H)
    (hm : X.mg c = some (.ref (He.ga X.K c))) (me : PySem.W.exmOne X.K (.ref (He.ga X.K c)) (.ref (He.ga X.K c)) = some true) (ha : ∀ pn xe, DA (X.tr pn xe) EF (e :: es) ta sa) (hl : ∀ ρ w ds w1, sa ρ w = .ok ds w1 → ds.length = m) (hx : DXA X i c ex tx gx) {kt : Nat}
    (hi : X.N[i]? = some n := by rfl) (hj : X.N[j]? = some y := by rfl) (hl2 : X.N[l]? = some z := by rfl) (hn : X.env.scope.names.lookup n = some .local := by rfl) (hy : X.env.scope.names.lookup y = some .local := by rfl) (hz : X.env.scope.names.lookup z = some .local := by rfl)
    (hg : Gl X x := by rfl) (hgc : Gl X c := by rfl) (hdb : (x == ("__debug__" : Str)) = false := by decide) (hdc : (c == ("__debug__" : Str)) = false := by decide) (he : starEach (e :: es) X.env = (false, eval e X.env) :: starEach es X.env := by rfl) (hpl : (backTo p1 (starEach es X.env)).any (·.1) = false := by rfl)
    (hs1 : swapsWith (.Call (.Name x pc) (e :: es) [] p1) (some (.Name y py)) p2.line X.env = pure false := by rfl) (hs2 : swapsWith (.Tuple ex kt pt) (some (.Name z pz)) p3.line X.env = pure false := by rfl) (hkn : X.env.kindOf n = some .local := by rfl) :
    DS X E (.Try [.Assign [.Name y py] (.Call (.Name x pc) (e :: es) [] p1) p2] [.ExceptHandler (some (.Name c p4)) (some n) [.Assign [.Name z pz] (.Tuple ex kt pt) p3] p5] [] [] pos)
      (fun DD σ H => tSeq (tAsg (tCallS (Spec X.K m g) (WE (wAs X.K (.ref (He.ga X.K c)) i (fun a cls d => tSeq (tAsg (tTup (tx a cls d)) (gName l)) tNext) (fun cls d _ H => E cls d H) DD)) ta) (gName j)) tNext DD σ H)
      (tryS2 j i c g sa (suiteS c l gx)) := by
  obtain ⟨fd, ps, hb, G⟩ := D.ex
  refine ⟨ps_try_as (Wout := fun cls d _ H => E cls d H) (tb := fun W => tSeq (tAsg (tCallS (Spec X.K m g) (WE W) ta) (gName j)) tNext) (ts := fun a cls d => tSeq (tAsg (tTup (tx a cls d)) (gName l)) tNext) hs hf hN hi hkn ⟨hgc, hdc, .inl hm⟩ tk (fun W pn xe tkW _ => ?_) (fun a oe cls d pn h1 h2 => ?_), ?_⟩
  · exact pss_one (ps_set hN hj (.inl hy) (pe_callS (G.mono hkj) hr hg D.hm D.kp hb (fun σ => passAt tkW σ) (ha pn xe).pa hdb he hpl) hs1 (.inr hy))
  · exact pss_one (ps_set hN hl2 (.inl hz) (pe_tup (hx.pa a oe cls d pn h1 h2)) hs2 (.inr hz))
  · intro F0 H0 F H ι0 ι w σ ρ DD st wd sl o
    unfold tryS2 at o
    split at o
    · rename_i hlt
      exact dsr_try (ha [] (fun _ _ => False)).dr hl me (dsu_set hx.dr) _ ρ.length hlt F0 H0 F H ι0 ι w σ ρ DD rfl st wd sl o
    · exact False.elim o
end
end DL

/-! The defs, their functions told apart. -/
namespace DL
open PySem PySem.Spec PyProof.Rows L2
section
variable {P : Program} {w : World} {K : PySem.W.Frag} {mg : Str → Option Value} {base : Heap}
theorem def_okF {x : Str} {st : Stmt} {fd : FuncData} {ps : List Str} {k n : Nat} {f : Sem} (N : List Str) (s : SemS) (F : FnP K x st (He.ga K x) fd) (hm : mg x = some (.ref (He.ga K x))) (S : FnScope N ps (defScope st)) (hn : ps.length = n)
    (hb : ∀ (kV doc pm : Value) (an : Option Addr) (cdv ct : Value) (us : List Value), us.length = ps.length → bindArgs (PySem.W.fnOf x x (defArgs st) (defBody st) (defScope st) .none kV doc pm an cdv ct) ⟨us, []⟩ = pure (ps.zip us)) (hf : f = runD N.length s)
    (hbody : ∀ (cdv : Value) (A : Around) (outer : List Env) (s0 : Shared) (H : Hp) (E : XK), Room k (A.deeper (envOfC x (defScope st) s0.heap.objs.size (He.ga K x) cdv)) →
      ∃ t, DSs (cxOf (L2.CX P w) P w K mg base N x (defScope st) (He.ga K x) cdv A outer s0 H E) E (defBody st) t s) : DefOk P w K mg base x (k + 1) n f := by
  rw [hf]
  exact def_ok F hm S hn hb hbody
theorem defG_okF {x : Str} {st : Stmt} {fd : FuncData} {ps : List Str} {k n : Nat} {f : Sem} (N : List Str) (s : SemS) (F : FnP K x st (He.ga K x) fd) (hm : mg x = some (.ref (He.ga K x))) (S : FnScope N ps (defScope st)) (hn : ps.length = n)
    (hb : ∀ (kV doc pm : Value) (an : Option Addr) (cdv ct : Value) (us : List Value), us.length = ps.length → bindArgs (PySem.W.fnOf x x (defArgs st) (defBody st) (defScope st) .none kV doc pm an cdv ct) ⟨us, []⟩ = pure (ps.zip us)) (hf : f = runD N.length s)
    (hbody : ∀ (cdv : Value) (A : Around) (outer : List Env) (s0 : Shared) (H : Hp) (E : XK), A.guards = some [] → Room k (A.deeper (envOfC x (defScope st) s0.heap.objs.size (He.ga K x) cdv)) →
      ∃ t, DSs (cxOf (L2.CX P w) P w K mg base N x (defScope st) (He.ga K x) cdv A outer s0 H E) E (defBody st) t s) : DefOkG P w K mg base x (k + 1) n f := by
  rw [hf]
  exact defG_ok F hm S hn hb hbody
theorem defN_okF {x pv : Str} {st : Stmt} {fd : FuncData} {k : Nat} {f : Sem} (N : List Str) (s : SemS) (F : FnP K x st (He.ga K x) fd) (hm : mg x = some (.ref (He.ga K x))) (S : FnScope N [pv] (defScope st))
    (hb : ∀ (kV doc pm : Value) (an : Option Addr) (cdv ct : Value) (rest : List Value), bindArgs (PySem.W.fnOf x x (defArgs st) (defBody st) (defScope st) .none kV doc pm an cdv ct) ⟨rest, []⟩ = (newTuple rest >>= fun t => pure [(pv, t)])) (hf : f = fun ds w => runD N.length s [.tup ds] w)
    (hbody : ∀ (cdv : Value) (A : Around) (outer : List Env) (s0 : Shared) (H : Hp) (E : XK), Room k (A.deeper (envOfC x (defScope st) s0.heap.objs.size (He.ga K x) cdv)) →
      ∃ t, DSs (cxOf (L2.CX P w) P w K mg base N x (defScope st) (He.ga K x) cdv A outer s0 H E) E (defBody st) t s) : DefOkN P w K mg base x (k + 1) f := by
  rw [hf]
  exact defN_ok F hm S hb hbody
end
theorem de_globI {X : Cx} {E : XK} {x : Str} {i : Int} {pos : Pos} (h : ∃ t, X.mg x = some (.int i t)) (hg : Gl X x := by rfl) (hd : (x == ("__debug__" : Str)) = false := by decide) : DE X E (.Name x pos) (tC (.int i)) (cst (.int i)) := by
  obtain ⟨t, h⟩ := h
  exact de_glob (v := .int i) h ⟨t, rfl⟩ (fun _ _ => .int i) hg hd
theorem de_globS {X : Cx} {E : XK} {x z : Str} {pos : Pos} (h : ∃ t, X.mg x = some (.str z t)) (hg : Gl X x := by rfl) (hd : (x == ("__debug__" : Str)) = false := by decide) : DE X E (.Name x pos) (tC (.str z)) (cst (.str z)) := by
  obtain ⟨t, h⟩ := h
  exact de_glob (v := .str z) h ⟨t, rfl⟩ (fun _ _ => .str z) hg hd
end DL
namespace DL
open PySem PySem.Spec PyProof.Rows L2
section
variable {X : Cx} {E : XK} {elt tg iter : Expr} {ifs : List Expr} {scope : Scope} {own : List (Str × Nat)} {pos spos : Pos} {wi : TI} {g : TG} {tt : TT} {te : TE} {si : SemI} {sg : SemG} {st : SemT} {se : SemE}
theorem de_lc0 (s0 : Shared) (h0 : Hp) (hN : X.N.Nodup) (hi : DI X E tg iter wi si) (ok : BlkOk X.N X.env.scope scope own)
    (hg : ∀ (s : Shared) (H : Hp) (C : Addr) (cl : List (Str × Addr)) (fp : List Addr), DG (X.blk s H scope (compEnvC scope cl C X.env) fp) tg g sg)
    (ht0 : DTs (X.blk s0 h0 scope (compEnvC scope [] 0 X.env) []) EF ifs tt st) (he0 : DE (X.blk s0 h0 scope (compEnvC scope [] 0 X.env) []) EF elt te se)
    (ht : ∀ (s : Shared) (H : Hp) (C : Addr) (cl : List (Str × Addr)) (fp : List Addr), DTs (X.blk s H scope (compEnvC scope cl C X.env) fp) EF ifs tt st)
    (he : ∀ (s : Shared) (H : Hp) (C : Addr) (cl : List (Str × Addr)) (fp : List Addr), DE (X.blk s H scope (compEnvC scope cl C X.env) fp) EF elt te se)
    (hw : ∀ x σ H Q, g x (L2.wipe σ (own.map (·.2))) H Q → g x (L2.wipe σ (own.map (·.2))) H fun σ2 H2 => L2.wipe σ2 (own.map (·.2)) = L2.wipe σ (own.map (·.2)) ∧ Q σ2 H2) (hc : X.calm = true := by rfl) (hs : ∀ x, foldedSetIterable iter X.env x = pure x := by intro _; rfl) :
    DE X E (.ListComp elt [⟨tg, iter, ifs, 0⟩] scope pos) (tLc wi g tt te (own.map (·.2))) (lcE si sg st se (own.map (·.2))) := de_lc hN hi ok hg ht he hw hc hs s0 h0
theorem ds_setLc0 {i : Nat} {y : Str} {py : Pos} (s0 : Shared) (h0 : Hp) (hN : X.N.Nodup) (hi : DI X E tg iter wi si) (ok : BlkOk X.N X.env.scope scope own)
    (hg : ∀ (s : Shared) (H : Hp) (C : Addr) (cl : List (Str × Addr)) (fp : List Addr), DG (X.blk s H scope (compEnvC scope cl C X.env) fp) tg g sg)
    (ht0 : DTs (X.blk s0 h0 scope (compEnvC scope [] 0 X.env) []) EF ifs tt st) (he0 : DE (X.blk s0 h0 scope (compEnvC scope [] 0 X.env) []) EF elt te se)
    (ht : ∀ (s : Shared) (H : Hp) (C : Addr) (cl : List (Str × Addr)) (fp : List Addr), DTs (X.blk s H scope (compEnvC scope cl C X.env) fp) EF ifs tt st)
    (he : ∀ (s : Shared) (H : Hp) (C : Addr) (cl : List (Str × Addr)) (fp : List Addr), DE (X.blk s H scope (compEnvC scope cl C X.env) fp) EF elt te se)
    (hw : ∀ x σ H Q, g x (L2.wipe σ (own.map (·.2))) H Q → g x (L2.wipe σ (own.map (·.2))) H fun σ2 H2 => L2.wipe σ2 (own.map (·.2)) = L2.wipe σ (own.map (·.2)) ∧ Q σ2 H2)
    (hsw : swapsWith (.ListComp elt [⟨tg, iter, ifs, 0⟩] scope pos) (some (.Name y py)) spos.line X.env = pure true) (hc : X.calm = true := by rfl) (hy : X.N[i]? = some y := by rfl) (hyl : X.env.scope.names.lookup y = some .local := by rfl) (hs : ∀ x, foldedSetIterable iter X.env x = pure x := by intro _; rfl) :
    DS X E (.Assign [.Name y py] (.ListComp elt [⟨tg, iter, ifs, 0⟩] scope pos) spos) (tAsg (tLc wi g tt te (own.map (·.2))) (gName i)) (setS i (lcE si sg st se (own.map (·.2)))) := ds_setLc hN hi ok hg ht he hw hsw s0 h0 hc hy hyl hs
end
end DL
namespace DL
open PySem PySem.Spec PyProof.Rows L2
section
variable {P : Program} {w : World} {K : PySem.W.Frag} {mg : Str → Option Value} {base : Heap}
theorem defG_raw {x : Str} {st : Stmt} {fd : FuncData} {ps : List Str} {k n : Nat} {f : Sem} (N : List Str) (s : SemS) (F : FnP K x st (He.ga K x) fd) (S : FnScope N ps (defScope st)) (hn : ps.length = n) (hf : f = runD N.length s)
    (hbody : ∀ (cdv : Value) (A : Around) (outer : List Env) (s0 : Shared) (H : Hp) (E : XK), A.guards = some [] → Room k (A.deeper (envOfC x (defScope st) s0.heap.objs.size (He.ga K x) cdv)) →
      ∃ t, DSs (cxOf (L2.CX P w) P w K mg base N x (defScope st) (He.ga K x) cdv A outer s0 H E) E (defBody st) t s) : GOk P w K mg base (k + 1) (He.ga K x) fd ps (Spec K n f) := by
  subst hf
  obtain ⟨oc, od, dV, kV, doc, pm, an, cdv, ct, osl, rfl, lk, hcd, _, _⟩ := F.ex
  refine gn_of lk hcd S (fun vs H Q E h => by rw [hn]; exact Spec.len h) fun A outer s0 H vs Q E hG hr h => ?_
  obtain ⟨t, ht⟩ := hbody cdv A outer s0 H E hG hr
  exact ⟨t, ht.ps, body_ok ht.dr h⟩
end
end DL

/-! Plain law: the jar of draws. -/
namespace JM
open PySem DL
def tailS (a b m0 m1 m2 : Int) : SemS := (seqS (setS 4 (bin modD (un intF (bin powD (bin addD (bin addD (bin modD (un intF (var 3)) (cst (.int m0))) (bin mulD (cst (.int m2)) (var 2))) (cst (.int b))) (cst (.int 5)))) (cst (.int m1))))
  (seqS (setS 4 (bin modD (un intF (bin powD (bin addD (bin addD (bin mulD (var 4) (bin addD (bin mulD (cst (.int 2)) (var 2)) (cst (.int 1409)))) (bin mulD (bin mulD (cst (.int a)) (var 2)) (var 2))) (cst (.int b))) (cst (.int 3)))) (cst (.int 2147483563))))
  (seqS (retS (bin modD (un intF (bin fdivD (var 4) (cst (.int 64)))) (var 1)))
  nextS)))
/-- a draw's text, its numbers told apart -/
def drawS (a b m0 m1 m2 : Int) : SemS := (seqS (ifS (asB (bin gtD (bin ixD (var 0) (cst (.int 2))) (cst (.int 0)))) (seqS (setS 5 (bin ixD (var 0) (cst (.int 2))))
  (seqS (setIxS 0 (bin fdivD (un intF (var 5)) (var 1)) (cst (.int 2)))
  (seqS (retS (bin modD (un intF (var 5)) (var 1)))
  nextS))) nextS)
  (seqS (setS 2 (bin ixD (var 0) (cst (.int 1))))
  (seqS (setIxS 0 (bin addD (var 2) (cst (.int 1))) (cst (.int 1)))
  (seqS (setS 3 (bin addD (bin mulD (cst (.int a)) (var 2)) (cst (.int b))))
  (seqS (ifS (asB (bin neD (bin ixD (var 0) (cst (.int 0))) (mkA nilA lstF))) (seqS (setS 3 (bin ixD (bin ixD (var 0) (cst (.int 0))) (bin modD (un intF (var 2)) (un lenD (bin ixD (var 0) (cst (.int 0)))))))
  nextS) nextS)
  (seqS (ifS (andT (asB (bin ltD (var 2) (un lenD (bin ixD (var 0) (cst (.int 0)))))) (asB (bin geD (un absF (var 3)) (bin powD (cst (.int 10)) (cst (.int 18)))))) (seqS (setS 5 (bin subD (un absF (var 3)) (bin powD (cst (.int 10)) (cst (.int 18)))))
  (seqS (setIxS 0 (bin fdivD (un intF (var 5)) (var 1)) (cst (.int 2)))
  (seqS (retS (bin modD (un intF (var 5)) (var 1)))
  nextS))) nextS)
  (tailS a b m0 m1 m2)))))))
def jarC (ns : List Int) (t r : Int) : Cell := .lst [.lst (ns.map .int), .int t, .int r]
/-- the jar stands alone, b draws at most were made -/
def Jar (b : Nat) (w : W) : Prop := ∃ (ns : List Int) (t r : Int), w = [jarC ns t r] ∧ ns.length ≤ 63 ∧ 0 ≤ t ∧ t ≤ b ∧ 0 ≤ r
theorem Jar.mono {b c : Nat} {w : W} (J : Jar b w) (h : b ≤ c) : Jar c w := by
  obtain ⟨ns, t, r, e, h1, h2, h3, h4⟩ := J
  exact ⟨ns, t, r, e, h1, h2, by omega, h4⟩
theorem log_small {i : Int} {k : Nat} (h0 : 0 ≤ i) (h : i < 2 ^ k) : i.natAbs.log2 ≤ k := by
  have : i.natAbs < 2 ^ k := by
    have e : ((i.natAbs : Nat) : Int) = i := Int.natAbs_of_nonneg h0
    have h2 : ((i.natAbs : Nat) : Int) < ((2 ^ k : Nat) : Int) := by rw [e]; push_cast; exact h
    exact_mod_cast h2
  by_cases z : i.natAbs = 0
  · rw [z]; simp
  · exact Nat.le_of_lt ((Nat.log2_lt z).mpr this)
theorem draw_rest {a b m0 m1 m2 : Int} {ns : List Int} {t r m : Int} (hr : 0 < r) (h1 : 0 < m) (hm : m.natAbs.log2 < 9000) : runD 6 (drawS a b m0 m1 m2) [.ptr 0, .int m] [jarC ns t r] = .ok (.int (r % m)) [jarC ns t (r / m)] := by
  simp [runD, drawS, seqS, ifS, asB, bin, var, cst, startD, op2, Val.d, Cell.look, jarC, ixD, L2.atI, L2.ixN, R.bind, R.out, gtD, ordD, hr, setS, setIxS, lstAt, un, op1, intF, fdivD, intD, h1, hm, setIx2, chg, setF, retS, modD]

/-! ### rows of operators -/
theorem modD_ok {i j : Int} (h : 0 < j) : modD (.int i) (.int j) = some (.int (i % j)) := by simp [modD, intD, h]
theorem fdivD_ok {i j : Int} (h : 0 < j) (h2 : j.natAbs.log2 < 9000) : fdivD (.int i) (.int j) = some (.int (i / j)) := by simp [fdivD, intD, h, h2]
theorem powD_ok {i j : Int} (h0 : 0 ≤ j) (h : j ≤ 1000000) (h2 : i.natAbs < 2 ^ 64) : powD (.int i) (.int j) = some (.int (i ^ j.toNat)) := if_pos (decide_eq_true ⟨h0, h, h2⟩)
theorem mulD_ok {i j : Int} (h : i.natAbs.log2 + j.natAbs.log2 < 1000000) : mulD (.int i) (.int j) = some (.int (i * j)) := by simp [mulD, h]
theorem ixD_lst {xs : List D} {i : Int} (h0 : 0 ≤ i) (h1 : i < xs.length) : ixD (.lst xs) (.int i) = some (xs[i.toNat]'(by omega)) := by
  show L2.atI xs i = _
  unfold L2.atI L2.ixN
  rw [if_pos h0, if_pos h1, Option.bind_some, List.getElem?_eq_getElem]
theorem toPyA_ints : ∀ ns : List Int, toPyA (ns.map .int) = some (ns.map .int)
  | [] => rfl
  | n :: r => by simp [toPyA, toPy, toPyA_ints r]
theorem lay_ints : ∀ ns : List Int, PyData.canLayAll0 (ns.map .int) = true
  | [] => rfl
  | n :: r => by simp [PyData.canLayAll0, PyData.canLay0, lay_ints r]
theorem depth_ints : ∀ ns : List Int, PyData.depthAll (ns.map .int) = 0
  | [] => rfl
  | n :: r => by simp [PyData.depthAll, PyData.depth, depth_ints r]
theorem neD_ints (ns : List Int) : neD (.lst (ns.map .int)) (.lst []) = some (.bl (!ns.isEmpty)) := by
  have h : eqB (.lst (ns.map .int)) (.lst []) = some ns.isEmpty := by
    unfold eqB
    simp only [toPy, toPyA_ints, toPyA, Option.map_some]
    have h1 : SeqAt.shaped (.list (ns.map .int)) = true := by simp [SeqAt.shaped, PyData.canLay0, lay_ints, PyData.depth, depth_ints]
    have h2 : SeqAt.shaped (.list []) = true := by decide
    rw [h1, h2]
    cases ns <;> rfl
  simp [neD, h]
theorem natAbs_lt {i : Int} {k : Nat} (h0 : 0 ≤ i) (h : i < (k : Int)) : i.natAbs < k := by omega
theorem log_le {i : Int} {k : Nat} (h0 : 0 ≤ i) (h : i < 2 ^ k) : i.natAbs.log2 ≤ k := log_small h0 h
structure Nums (a b m0 m1 m2 : Int) : Prop where
  a0 : 0 ≤ a
  a1 : a < 1048576
  b0 : 0 ≤ b
  b1 : b < 1048576
  c0 : 0 ≤ m2
  c1 : m2 < 1048576
  m00 : 0 < m0
  m01 : m0 < 4294967296
  m10 : 0 < m1
  m11 : m1 < 4294967296
theorem mul_lt {x y : Int} {p q : Int} (hx : 0 ≤ x) (hp : x ≤ p) (hy : 0 ≤ y) (hq : y ≤ q) : 0 ≤ x * y ∧ x * y ≤ p * q :=
  ⟨Int.mul_nonneg hx hy, Int.mul_le_mul hp hq hy (Int.le_trans hx hp)⟩
section
variable {a b m0 m1 m2 : Int}
def mixD (a b m0 m1 m2 t c : Int) : Int := (((c % m0 + m2 * t + b) ^ 5 % m1) * (2 * t + 1409) + a * t * t + b) ^ 3 % 2147483563
theorem tail_ok (N : Nums a b m0 m1 m2) {t c m : Int} {x0 x4 x5 : Slot} {w : W} (t0 : 0 ≤ t) (t1 : t < 1048576) (h1 : 0 < m) : tailS a b m0 m1 m2 [x0, .dat (.int m), .dat (.int t), .dat (.int c), x4, x5] w = .rt (.int (mixD a b m0 m1 m2 t c / 64 % m)) w := by
  obtain ⟨a0, a1, b0, b1, c0, c1, m00, m01, m10, m11⟩ := N
  have d0 := Int.emod_nonneg c (by omega : m0 ≠ 0)
  have d1 := Int.emod_lt_of_pos c m00
  obtain ⟨e0, e1⟩ := mul_lt c0 (by omega : m2 ≤ 1048576) t0 (by omega : t ≤ 1048576)
  have f0 := Int.emod_nonneg ((c % m0 + m2 * t + b) ^ 5) (by omega : m1 ≠ 0)
  have f1 := Int.emod_lt_of_pos ((c % m0 + m2 * t + b) ^ 5) m10
  obtain ⟨g0, g1⟩ := mul_lt f0 (by omega : (c % m0 + m2 * t + b) ^ 5 % m1 ≤ 4294967296) (by omega : 0 ≤ 2 * t + 1409) (by omega : 2 * t + 1409 ≤ 4194304)
  obtain ⟨i0, i1⟩ := mul_lt a0 (by omega : a ≤ 1048576) t0 (by omega : t ≤ 1048576)
  obtain ⟨j0, j1⟩ := mul_lt i0 i1 t0 (by omega : t ≤ 1048576)
  have p1 : powD (.int (c % m0 + m2 * t + b)) (.int 5) = some (.int ((c % m0 + m2 * t + b) ^ 5)) := powD_ok (by decide) (by decide) (by omega)
  have p2 : powD (.int ((c % m0 + m2 * t + b) ^ 5 % m1 * (2 * t + 1409) + a * t * t + b)) (.int 3) = some (.int (((c % m0 + m2 * t + b) ^ 5 % m1 * (2 * t + 1409) + a * t * t + b) ^ 3)) := powD_ok (by decide) (by decide) (by omega)
  have q1 : mulD (.int m2) (.int t) = some (.int (m2 * t)) := mulD_ok (by have := log_le (k := 20) c0 (by omega); have := log_le (k := 20) t0 (by omega); omega)
  have q2 : mulD (.int 2) (.int t) = some (.int (2 * t)) := mulD_ok (by have := log_le (k := 20) (i := 2) (by omega) (by omega); have := log_le (k := 20) t0 (by omega); omega)
  have q3 : mulD (.int a) (.int t) = some (.int (a * t)) := mulD_ok (by have := log_le (k := 20) a0 (by omega); have := log_le (k := 20) t0 (by omega); omega)
  have q4 : mulD (.int (a * t)) (.int t) = some (.int (a * t * t)) := mulD_ok (by have := log_le (k := 60) i0 (by omega); have := log_le (k := 20) t0 (by omega); omega)
  have q5 : mulD (.int ((c % m0 + m2 * t + b) ^ 5 % m1)) (.int (2 * t + 1409)) = some (.int ((c % m0 + m2 * t + b) ^ 5 % m1 * (2 * t + 1409))) := mulD_ok (by have := log_le (k := 40) f0 (by omega); have := log_le (k := 40) (i := 2 * t + 1409) (by omega) (by omega); omega)
  have r1 : fdivD (.int (mixD a b m0 m1 m2 t c)) (.int 64) = some (.int (mixD a b m0 m1 m2 t c / 64)) := fdivD_ok (by decide) (by decide)
  have r2 : modD (.int (((c % m0 + m2 * t + b) ^ 5 % m1 * (2 * t + 1409) + a * t * t + b) ^ 3)) (.int 2147483563) = some (.int (mixD a b m0 m1 m2 t c)) := modD_ok (by decide)
  simp only [tailS, seqS, setS, bin, un, op1, op2, var, cst, R.bind, R.out, Val.d, intF, addD, retS, List.getElem?_cons_succ, List.getElem?_cons_zero, List.set_cons_succ, List.set_cons_zero, modD_ok m00, modD_ok m10, modD_ok h1, q1, q2, q3, q4, q5, p1, p2, r1, r2]
theorem tail_range (N : Nums a b m0 m1 m2) {t c m : Int} (h1 : 0 < m) : 0 ≤ mixD a b m0 m1 m2 t c / 64 % m ∧ mixD a b m0 m1 m2 t c / 64 % m < m := ⟨Int.emod_nonneg _ (by omega), Int.emod_lt_of_pos _ h1⟩
def headS (a b : Int) (rest : SemS) : SemS := (seqS (ifS (asB (bin gtD (bin ixD (var 0) (cst (.int 2))) (cst (.int 0)))) (seqS (setS 5 (bin ixD (var 0) (cst (.int 2))))
  (seqS (setIxS 0 (bin fdivD (un intF (var 5)) (var 1)) (cst (.int 2)))
  (seqS (retS (bin modD (un intF (var 5)) (var 1)))
  nextS))) nextS)
  (seqS (setS 2 (bin ixD (var 0) (cst (.int 1))))
  (seqS (setIxS 0 (bin addD (var 2) (cst (.int 1))) (cst (.int 1)))
  (seqS (setS 3 (bin addD (bin mulD (cst (.int a)) (var 2)) (cst (.int b)))) rest))))
def cellS (rest : SemS) : SemS := (seqS (ifS (asB (bin neD (bin ixD (var 0) (cst (.int 0))) (mkA nilA lstF))) (seqS (setS 3 (bin ixD (bin ixD (var 0) (cst (.int 0))) (bin modD (un intF (var 2)) (un lenD (bin ixD (var 0) (cst (.int 0)))))))
  nextS) nextS) rest)
def bigS (rest : SemS) : SemS := (seqS (ifS (andT (asB (bin ltD (var 2) (un lenD (bin ixD (var 0) (cst (.int 0)))))) (asB (bin geD (un absF (var 3)) (bin powD (cst (.int 10)) (cst (.int 18)))))) (seqS (setS 5 (bin subD (un absF (var 3)) (bin powD (cst (.int 10)) (cst (.int 18)))))
  (seqS (setIxS 0 (bin fdivD (un intF (var 5)) (var 1)) (cst (.int 2)))
  (seqS (retS (bin modD (un intF (var 5)) (var 1)))
  nextS))) nextS) rest)
theorem drawS_eq : drawS a b m0 m1 m2 = headS a b (cellS (bigS (tailS a b m0 m1 m2))) := rfl
theorem head_turn (N : Nums a b m0 m1 m2) {s : SemS} {ns : List Int} {t r m : Int} (hr : ¬ 0 < r) (t0 : 0 ≤ t) (t1 : t < 1048576) : headS a b s [.dat (.ptr 0), .dat (.int m), .non, .non, .non, .non] [jarC ns t r] = s [.dat (.ptr 0), .dat (.int m), .dat (.int t), .dat (.int (a * t + b)), .non, .non] [jarC ns (t + 1) r] := by
  have q3 : mulD (.int a) (.int t) = some (.int (a * t)) := mulD_ok (by have := log_le (k := 20) N.a0 (by have := N.a1; omega); have := log_le (k := 20) t0 (by omega); omega)
  simp [headS, seqS, ifS, asB, bin, var, cst, op2, Val.d, Cell.look, jarC, ixD, L2.atI, L2.ixN, R.bind, R.out, gtD, ordD, hr, setS, setIxS, lstAt, un, op1, intF, setIx2, chg, setF, nextS, addD, q3]
theorem cell_ok {s : SemS} {ns : List Int} {t t' r m c : Int} (t0 : 0 ≤ t) : ∃ c', cellS s [.dat (.ptr 0), .dat (.int m), .dat (.int t), .dat (.int c), .non, .non] [jarC ns t' r] = s [.dat (.ptr 0), .dat (.int m), .dat (.int t), .dat (.int c'), .non, .non] [jarC ns t' r] := by
  cases ns with
  | nil =>
    refine ⟨c, ?_⟩
    have q : neD (.lst (List.map .int [])) (.lst []) = some (.bl false) := neD_ints []
    have j0 : ixD (.lst [.lst (List.map .int []), .int t', .int r]) (.int 0) = some (.lst (List.map .int [])) := rfl
    simp only [cellS, seqS, ifS, asB, bin, var, cst, op2, Val.d, Cell.look, jarC, R.bind, R.out, mkA, nilA, lstF, nextS, List.getElem?_cons_succ, List.getElem?_cons_zero, Option.bind_some, j0, q, List.length_nil, Nat.zero_le, if_true, Bool.false_eq_true, if_false]
  | cons n ns =>
    have q := neD_ints (n :: ns)
    have hp : (0 : Int) < ((n :: ns).length : Int) := by simp only [List.length_cons]; omega
    have h0 := Int.emod_nonneg t (by omega : ((n :: ns).length : Int) ≠ 0)
    have h1 := Int.emod_lt_of_pos t hp
    have h2 : (t % ((n :: ns).length : Int)).toNat < (n :: ns).length := by omega
    refine ⟨(n :: ns)[(t % ((n :: ns).length : Int)).toNat], ?_⟩
    have e : ixD (.lst ((n :: ns).map .int)) (.int (t % ((n :: ns).length : Int))) = some (.int (n :: ns)[(t % ((n :: ns).length : Int)).toNat]) := by
      rw [ixD_lst h0 (by rw [List.length_map]; exact h1), List.getElem_map]
    have l : lenD (.lst ((n :: ns).map .int)) = some (.int ((n :: ns).length : Int)) := by simp only [lenD, List.length_map]
    have md : modD (.int t) (.int ((n :: ns).length : Int)) = some (.int (t % ((n :: ns).length : Int))) := modD_ok hp
    have j0 : ixD (.lst [.lst ((n :: ns).map .int), .int t', .int r]) (.int 0) = some (.lst ((n :: ns).map .int)) := rfl
    simp only [cellS, seqS, ifS, asB, bin, var, cst, op2, Val.d, Cell.look, jarC, R.bind, R.out, mkA, nilA, lstF, nextS, un, op1, intF, setS, List.getElem?_cons_succ, List.getElem?_cons_zero, Option.bind_some, j0, q, l, md, e, List.length_nil, Nat.zero_le, if_true, List.isEmpty_cons, Bool.not_false, List.set_cons_succ, List.set_cons_zero]
theorem big_ok {s : SemS} {ns : List Int} {t t' r m c : Int} (h1 : 0 < m) (hm : m.natAbs.log2 < 9000) :
    (∃ r', 0 ≤ r' ∧ bigS s [.dat (.ptr 0), .dat (.int m), .dat (.int t), .dat (.int c), .non, .non] [jarC ns t' r] = .rt (.int (r' % m)) [jarC ns t' (r' / m)]) ∨
    bigS s [.dat (.ptr 0), .dat (.int m), .dat (.int t), .dat (.int c), .non, .non] [jarC ns t' r] = s [.dat (.ptr 0), .dat (.int m), .dat (.int t), .dat (.int c), .non, .non] [jarC ns t' r] := by
  have j0 : ixD (.lst [.lst (ns.map .int), .int t', .int r]) (.int 0) = some (.lst (ns.map .int)) := rfl
  have l : lenD (.lst (ns.map .int)) = some (.int (ns.length : Int)) := by simp [lenD]
  have p : powD (.int 10) (.int 18) = some (.int 1000000000000000000) := rfl
  by_cases h : t < (ns.length : Int)
  · by_cases h2 : (1000000000000000000 : Int) ≤ (if c < 0 then -c else c)
    · left
      refine ⟨(if c < 0 then -c else c) - 1000000000000000000, by omega, ?_⟩
      have i2 : L2.ixN 3 2 = some 2 := rfl
      simp only [bigS, seqS, ifS, asB, andT, bin, var, cst, op2, Val.d, Cell.look, jarC, R.bind, R.out, nextS, un, op1, intF, setS, setIxS, lstAt, setIx2, chg, setF, retS, absF, ltD, geD, ordD, subD, intD0, List.getElem?_cons_succ, List.getElem?_cons_zero, Option.bind_some, Option.map_some, List.length_cons, List.length_nil, i2, j0, l, p, h, h2, decide_true, if_true, List.set_cons_succ, List.set_cons_zero, modD_ok h1, fdivD_ok h1 hm]
    · right
      simp only [bigS, seqS, ifS, asB, andT, bin, var, cst, op2, Val.d, Cell.look, jarC, R.bind, R.out, nextS, un, op1, intF, absF, ltD, geD, ordD, List.getElem?_cons_succ, List.getElem?_cons_zero, Option.bind_some, j0, l, p, h, h2, decide_true, decide_false, if_true, Bool.false_eq_true, if_false]
  · right
    simp only [bigS, seqS, ifS, asB, andT, bin, var, cst, op2, Val.d, Cell.look, jarC, R.bind, R.out, nextS, un, op1, intF, ltD, ordD, List.getElem?_cons_succ, List.getElem?_cons_zero, Option.bind_some, j0, l, h, decide_false, Bool.false_eq_true, if_false]
/-- a draw below m -/
theorem draw_ok (N : Nums a b m0 m1 m2) {k : Nat} {w : W} {m : Int} (J : Jar k w) (hk : k < 1048576) (h1 : 0 < m) (hm : m.natAbs.log2 < 9000) :
    ∃ i w', runD 6 (drawS a b m0 m1 m2) [.ptr 0, .int m] w = .ok (.int i) w' ∧ 0 ≤ i ∧ i < m ∧ Jar (k + 1) w' := by
  obtain ⟨ns, t, r, rfl, hn, t0, tk, r0⟩ := J
  by_cases hr : 0 < r
  · exact ⟨_, _, draw_rest hr h1 hm, Int.emod_nonneg _ (by omega), Int.emod_lt_of_pos _ h1, ns, t, _, rfl, hn, t0, by omega, Int.ediv_nonneg r0 (by omega)⟩
  · have st : startD 6 [.ptr 0, .int m] = [.dat (.ptr 0), .dat (.int m), .non, .non, .non, .non] := rfl
    unfold runD
    rw [st, drawS_eq, head_turn N hr t0 (by omega)]
    obtain ⟨c, e⟩ := cell_ok (s := bigS (tailS a b m0 m1 m2)) (ns := ns) (t := t) (t' := t + 1) (r := r) (m := m) (c := a * t + b) t0
    rw [e]
    rcases big_ok (s := tailS a b m0 m1 m2) (ns := ns) (t := t) (t' := t + 1) (r := r) (m := m) (c := c) h1 hm with ⟨r', r0', e2⟩ | e2
    · rw [e2]
      exact ⟨_, _, rfl, Int.emod_nonneg _ (by omega), Int.emod_lt_of_pos _ h1, ns, t + 1, _, rfl, hn, by omega, by omega, Int.ediv_nonneg r0' (by omega)⟩
    · rw [e2, tail_ok N t0 (by omega) h1]
      exact ⟨_, _, rfl, (tail_range N h1).1, (tail_range N h1).2, ns, t + 1, _, rfl, hn, by omega, by omega, r0⟩
end
end JM

/-! Plain law: loops, comprehensions, texts. -/
namespace JM
open PySem DL
theorem set_set (ρ : List Slot) (i : Nat) (x y : Slot) : (ρ.set i x).set i y = ρ.set i y := by simp
theorem lcL_pure {i : Nat} {se : SemE} {ρ : List Slot} {w : W} {f : D → D} : ∀ (items acc : List D), (∀ d ∈ items, se (ρ.set i (.dat d)) w = .ok (.dat (f d)) w) → acc.length + items.length ≤ most →
    lcL (nameG i) yesT se ρ items w acc = .ok (acc ++ items.map f) w
  | [], acc, _, _ => by simp [lcL]
  | d :: r, acc, h, hl => by
    have h1 := h d List.mem_cons_self
    have hl' : acc.length < most := by simp only [List.length_cons] at hl; omega
    have ih := lcL_pure (f := f) r (acc ++ [f d]) (fun e he => h e (List.mem_cons_of_mem _ he)) (by simp only [List.length_append, List.length_cons, List.length_nil] at hl ⊢; omega)
    simp only [lcL, nameG, yesT, h1, hl', if_true, ih, List.append_assoc, List.cons_append, List.nil_append, List.map_cons]
/-- a comprehension whose element draws c times at most -/
theorem lcL_jar {i c B : Nat} {se : SemE} {ρ : List Slot} {P : D → Prop} : ∀ (items acc : List D) (n : Nat) (w : W), Jar n w → (∀ d ∈ items, ∀ n w, Jar n w → n + c ≤ B → ∃ y w', se (ρ.set i (.dat d)) w = .ok (.dat y) w' ∧ P y ∧ Jar (n + c) w') → n + c * items.length ≤ B → acc.length + items.length ≤ most →
    ∃ ys w', lcL (nameG i) yesT se ρ items w acc = .ok (acc ++ ys) w' ∧ ys.length = items.length ∧ (∀ y ∈ ys, P y) ∧ Jar (n + c * items.length) w'
  | [], acc, n, w, J, _, _, _ => ⟨[], w, by simp [lcL], rfl, (fun _ h => by cases h), by simpa using J⟩
  | d :: r, acc, n, w, J, h, hB, hl => by
    have hm : c * (d :: r).length = c * r.length + c := by rw [List.length_cons, Nat.mul_succ]
    obtain ⟨y, w1, e1, p1, J1⟩ := h d List.mem_cons_self n w J (by rw [hm] at hB; omega)
    have hl' : acc.length < most := by simp only [List.length_cons] at hl; omega
    obtain ⟨ys, w2, e2, l2, p2, J2⟩ := lcL_jar (c := c) (B := B) (P := P) r (acc ++ [y]) (n + c) w1 J1 (fun e he => h e (List.mem_cons_of_mem _ he)) (by rw [hm] at hB; omega) (by simp only [List.length_append, List.length_cons, List.length_nil] at hl ⊢; omega)
    refine ⟨y :: ys, w2, ?_, by simp [l2], fun z hz => ?_, by rw [hm]; exact J2.mono (by omega)⟩
    · simp only [lcL, nameG, yesT, e1, hl', if_true, e2, List.append_assoc, List.cons_append, List.nil_append]
    · rcases List.mem_cons.mp hz with rfl | hz
      · exact p1
      · exact p2 z hz
/-- a loop that tests each item, and goes on or returns r -/
theorem forL_test {i : Nat} {b : SemS} {p : D → Bool} {r : D} {w : W} : ∀ (items : List D) (ρ : List Slot), (∀ d ∈ items, ∀ x, b ((ρ.set i x).set i (.dat d)) w = if p d then .nx (ρ.set i (.dat d)) w else .rt r w) →
    ∃ ρ', forL (nameG i) b items ρ w = if items.all p then .nx ρ' w else .rt r w
  | [], ρ, _ => ⟨ρ, by simp [forL]⟩
  | d :: t, ρ, h => by
    have h1 := h d List.mem_cons_self .non
    rw [set_set] at h1
    cases q : p d with
    | false => exact ⟨ρ, by simp [forL, nameG, h1, q]⟩
    | true =>
      obtain ⟨ρ', ih⟩ := forL_test (i := i) (b := b) (p := p) (r := r) (w := w) t (ρ.set i (.dat d)) (fun e he x => by
        have z := h e (List.mem_cons_of_mem _ he) x
        rw [set_set] at z
        simp only [set_set]
        exact z)
      exact ⟨ρ', by simp only [forL, nameG, h1, q, ih, if_true, List.all_cons, Bool.true_and]⟩
/-! ### texts -/
abbrev tl (x : Str) : List Nat := x.cps.toList
theorem tlL (x : Str) : TL.tl x = tl x := rfl
def one (c : Nat) : Str := ⟨#[c]⟩
def low (c : Nat) : Bool := decide (97 ≤ c ∧ c ≤ 122)
def dig (c : Nat) : Bool := decide (48 ≤ c ∧ c ≤ 57)
theorem small_list : tl "abcdefghijklmnopqrstuvwxyz" = List.range' 97 26 := by decide +kernel
theorem digits_list : tl "0123456789" = List.range' 48 10 := by decide +kernel
theorem mem_small (c : Nat) : decide (c ∈ tl "abcdefghijklmnopqrstuvwxyz") = low c := by
  unfold low
  rw [small_list]
  apply decide_eq_decide.mpr
  rw [List.mem_range'_1]
  omega
theorem mem_digits (c : Nat) : decide (c ∈ tl "0123456789") = dig c := by
  unfold dig
  rw [digits_list]
  apply decide_eq_decide.mpr
  rw [List.mem_range'_1]
  omega
theorem notin_small (c : Nat) : inD true (.str (one c)) (.str "abcdefghijklmnopqrstuvwxyz") = some (.bl (!low c)) := by
  rw [← mem_small]
  show some (D.bl (true ^^ _)) = _
  simp
theorem notin_digits (c : Nat) : inD true (.str (one c)) (.str "0123456789") = some (.bl (!dig c)) := by
  rw [← mem_digits]
  show some (D.bl (true ^^ _)) = _
  simp
theorem len_tl (x : Str) : x.length = (tl x).length := TL.len_tl x
theorem len_int (x : Str) (h : x.length ≤ most) : lenD (.str x) = some (.int ((tl x).length : Nat)) := by
  show (if x.length ≤ most then some (D.int (x.length : Nat)) else none) = _
  rw [if_pos h, len_tl]
/-- x[i] -/
theorem ix_str {x : Str} {i : Int} (h : x.length ≤ most) (h0 : 0 ≤ i) (h1 : i < (tl x).length) : ixD (.str x) (.int i) = some (.str (one ((tl x)[i.toNat]'(by omega)))) := by
  show (if x.length ≤ most then (L2.atI (tl x) i).map fun c => D.str ⟨#[c]⟩ else none) = _
  rw [if_pos h]
  unfold L2.atI L2.ixN
  rw [if_pos h0, if_pos h1, Option.bind_some, List.getElem?_eq_getElem]
  rfl
def stemB (l : List Nat) : Bool := decide (1 ≤ l.length ∧ l.length ≤ 12) && low (l.headD 0) && l.all fun c => low c || dig c
theorem headD_eq : ∀ {l : List Nat} (h : 0 < l.length), l.headD 0 = l[0]
  | [], h => absurd h (Nat.lt_irrefl 0)
  | _ :: _, _ => rfl
/-! ### pieces between dots -/
abbrev pcs (acc l : List Nat) : List (List Nat) := TL.spl [46] 0 acc l
theorem pcs_nil (acc : List Nat) : pcs acc [] = [acc] := TL.spl_nil _ _ _
theorem pcs_dot (acc r : List Nat) : pcs acc (46 :: r) = acc :: pcs [] r := TL.spl_hit (TL.pre_self [46] r)
theorem pcs_go {c : Nat} (h : c ≠ 46) (acc r : List Nat) : pcs acc (c :: r) = pcs (acc ++ [c]) r := TL.spl_miss (TL.pre_of_head [] r h)
theorem pcs_first : ∀ (l acc : List Nat), ∃ q rest, pcs acc l = (acc ++ q) :: rest
  | [], acc => ⟨[], [], by rw [pcs_nil, List.append_nil]⟩
  | c :: r, acc => by
    by_cases h : c = 46
    · subst h
      exact ⟨[], pcs [] r, by rw [pcs_dot, List.append_nil]⟩
    · obtain ⟨q, rest, e⟩ := pcs_first r (acc ++ [c])
      exact ⟨c :: q, rest, by rw [pcs_go h, e]; simp⟩
theorem pcs_len : ∀ (l acc : List Nat), ∀ p ∈ pcs acc l, p.length ≤ acc.length + l.length
  | [], acc, p, h => by
    rw [pcs_nil] at h
    rw [List.mem_singleton.mp h]
    omega
  | c :: r, acc, p, h => by
    by_cases z : c = 46
    · subst z
      rw [pcs_dot] at h
      rcases List.mem_cons.mp h with rfl | h
      · simp
      · have := pcs_len r [] p h
        simp only [List.length_nil, List.length_cons] at this ⊢
        omega
    · rw [pcs_go z] at h
      have := pcs_len r (acc ++ [c]) p h
      simp only [List.length_append, List.length_cons, List.length_nil] at this ⊢
      omega
theorem pcs_one : ∀ (l acc p : List Nat), pcs acc l = [p] → p = acc ++ l
  | [], acc, p, h => by
    rw [pcs_nil] at h
    cases h
    simp
  | c :: r, acc, p, h => by
    by_cases z : c = 46
    · subst z
      rw [pcs_dot] at h
      obtain ⟨q, rest, e⟩ := pcs_first r []
      rw [e] at h
      cases h
    · rw [pcs_go z] at h
      rw [pcs_one r (acc ++ [c]) p h]
      simp
theorem pcs_free {l acc : List Nat} (h : 46 ∉ l) : pcs acc l = [acc ++ l] := TL.spl_last1 h
def Good (p : List Nat) : Prop := p ≠ [] ∧ low (p.headD 0) = true ∧ ∀ c ∈ p, (low c || dig c) = true
def Pre (p : List Nat) : Prop := p = [] ∨ Good p
theorem stemB_iff (l : List Nat) : stemB l = true ↔ Good l ∧ l.length ≤ 12 := by
  unfold stemB Good
  cases l with
  | nil => simp
  | cons c r => simp [and_comm, and_assoc, and_left_comm]
/-- the walk over a text -/
def wk : List Nat → Nat → Nat → Nat → Option (Nat × Nat × Nat)
  | [], s, r, g => some (s, r, g)
  | c :: t, s, r, g => if c = 46 then (if r = 0 then none else wk t (s + 1) 0 g) else if (low c || (decide (0 < r) && dig c)) = true then wk t s (r + 1) (max g (r + 1)) else none
def Wkd (ps : List (List Nat)) (s g : Nat) : Option (Nat × Nat × Nat) → Prop
  | none => ∃ p ∈ ps, ¬ Good p
  | some (s', r', g') => (r' = 0 ∧ ∃ p ∈ ps, ¬ Good p) ∨ (0 < r' ∧ (∀ p ∈ ps, Good p) ∧ s' + 1 = s + ps.length ∧ ∀ m, g' ≤ m ↔ g ≤ m ∧ ∀ p ∈ ps, p.length ≤ m)
theorem wk_ok : ∀ (l acc : List Nat) (s g : Nat), Pre acc → acc.length ≤ g → Wkd (pcs acc l) s g (wk l s acc.length g)
  | [], acc, s, g, hp, hg => by
    rw [pcs_nil]
    rcases hp with rfl | hp
    · exact .inl ⟨rfl, [], List.mem_singleton.mpr rfl, fun z => z.1 rfl⟩
    · refine .inr ⟨?_, fun p h => ?_, by simp, fun m => ⟨fun h => ⟨h, fun p hp => ?_⟩, fun h => h.1⟩⟩
      · cases acc with
        | nil => exact absurd rfl hp.1
        | cons a b => simp
      · rw [List.mem_singleton.mp h]; exact hp
      · rw [List.mem_singleton.mp hp]; omega
  | c :: r, acc, s, g, hp, hg => by
    unfold wk
    by_cases z : c = 46
    · subst z
      rw [if_pos rfl, pcs_dot]
      by_cases h0 : acc.length = 0
      · rw [if_pos h0]
        have : acc = [] := List.eq_nil_of_length_eq_zero h0
        subst this
        exact ⟨[], List.mem_cons_self, fun z => z.1 rfl⟩
      · rw [if_neg h0]
        have ga : Good acc := by
          rcases hp with rfl | hp
          · exact absurd rfl h0
          · exact hp
        have ih := wk_ok r [] (s + 1) g (.inl rfl) (by simp)
        simp only [List.length_nil] at ih
        cases q : wk r (s + 1) 0 g with
        | none =>
          rw [q] at ih
          obtain ⟨p, h1, h2⟩ := ih
          exact ⟨p, List.mem_cons_of_mem _ h1, h2⟩
        | some x =>
          obtain ⟨s', r', g'⟩ := x
          rw [q] at ih
          rcases ih with ⟨h1, p, h2, h3⟩ | ⟨h1, h2, h3, h4⟩
          · exact .inl ⟨h1, p, List.mem_cons_of_mem _ h2, h3⟩
          · refine .inr ⟨h1, fun p h => ?_, by simp only [List.length_cons]; omega, fun m => ?_⟩
            · rcases List.mem_cons.mp h with rfl | h
              · exact ga
              · exact h2 p h
            · rw [h4 m]
              refine ⟨fun ⟨a, b⟩ => ⟨a, fun p h => ?_⟩, fun ⟨a, b⟩ => ⟨a, fun p h => b p (List.mem_cons_of_mem _ h)⟩⟩
              rcases List.mem_cons.mp h with rfl | h
              · omega
              · exact b p h
    · rw [if_neg z, pcs_go z]
      obtain ⟨q, rest, e⟩ := pcs_first r (acc ++ [c])
      by_cases hc : (low c || (decide (0 < acc.length) && dig c)) = true
      · rw [if_pos hc]
        have gp : Good (acc ++ [c]) := by
          rcases hp with rfl | hp
          · have : low c = true := by simpa using hc
            exact ⟨by simp, by simpa using this, fun d hd => by
              have : d = c := by simpa using hd
              subst this
              simp [*]⟩
          · refine ⟨by simp, ?_, fun d hd => ?_⟩
            · cases acc with
              | nil => exact absurd rfl hp.1
              | cons a b => exact hp.2.1
            · rcases List.mem_append.mp hd with h | h
              · exact hp.2.2 d h
              · have : d = c := by simpa using h
                subst this
                cases q1 : low d <;> cases q2 : dig d <;> simp_all
        have ih := wk_ok r (acc ++ [c]) s (max g (acc.length + 1)) (.inr gp) (by simp; omega)
        have el : (acc ++ [c]).length = acc.length + 1 := by simp
        rw [el] at ih
        cases q2 : wk r s (acc.length + 1) (max g (acc.length + 1)) with
        | none => rw [q2] at ih; exact ih
        | some x =>
          obtain ⟨s', r', g'⟩ := x
          rw [q2] at ih
          rcases ih with h | ⟨h1, h2, h3, h4⟩
          · exact .inl h
          · refine .inr ⟨h1, h2, h3, fun m => ?_⟩
            rw [h4 m]
            refine ⟨fun ⟨a, b⟩ => ⟨by omega, b⟩, fun ⟨a, b⟩ => ⟨?_, b⟩⟩
            have := b (acc ++ [c] ++ q) (by rw [e]; exact List.mem_cons_self)
            simp only [List.length_append, List.length_cons, List.length_nil] at this
            omega
      · rw [if_neg hc]
        refine ⟨acc ++ [c] ++ q, by rw [e]; exact List.mem_cons_self, fun gz => ?_⟩
        have h1 := gz.2.2 c (by simp)
        rcases hp with rfl | hp
        · have h2 : low c = true := by simpa using gz.2.1
          simp [h2] at hc
        · have : 0 < acc.length := by
            cases acc with
            | nil => exact absurd rfl hp.1
            | cons a b => simp
          cases q1 : low c <;> cases q2 : dig c <;> simp_all
def nameB (l : List Nat) : Bool := decide ((pcs [] l).length ≤ 6) && (pcs [] l).all stemB
/-- what the walk tells -/
theorem wk_law (l : List Nat) : match wk l 1 0 0 with
    | none => stemB l = false ∧ nameB l = false
    | some (s, r, g) => if r = 0 then stemB l = false ∧ nameB l = false else stemB l = (decide (g ≤ 12) && decide (s = 1)) ∧ nameB l = (decide (g ≤ 12) && decide (s ≤ 6)) := by
  have key := wk_ok l [] 1 0 (.inl rfl) (by simp)
  simp only [List.length_nil] at key
  have free : stemB l = true → pcs [] l = [l] := fun h => by
    have hg := ((stemB_iff l).mp h).1
    exact pcs_free (acc := []) fun m => by
      have := hg.2.2 46 m
      simp [low, dig] at this
  have bad : (∃ p ∈ pcs [] l, ¬ Good p) → stemB l = false ∧ nameB l = false := fun ⟨p, h1, h2⟩ => by
    constructor
    · cases q : stemB l with
      | false => rfl
      | true =>
        rw [free q] at h1
        rw [List.mem_singleton.mp h1] at h2
        exact absurd ((stemB_iff l).mp q).1 h2
    · cases q : nameB l with
      | false => rfl
      | true =>
        unfold nameB at q
        have := List.all_eq_true.mp (Bool.and_eq_true_iff.mp q).2 p h1
        exact absurd ((stemB_iff p).mp this).1 h2
  cases q : wk l 1 0 0 with
  | none => rw [q] at key; exact bad key
  | some x =>
    obtain ⟨s, r, g⟩ := x
    rw [q] at key
    rcases key with ⟨h1, h2⟩ | ⟨h1, h2, h3, h4⟩
    · show if r = 0 then _ else _
      rw [if_pos h1]; exact bad h2
    · show if r = 0 then _ else _
      rw [if_neg (by omega)]
      have g12 : g ≤ 12 ↔ ∀ p ∈ pcs [] l, p.length ≤ 12 := by rw [h4 12]; simp
      constructor
      · apply Bool.eq_iff_iff.mpr
        rw [stemB_iff, Bool.and_eq_true_iff, decide_eq_true_eq, decide_eq_true_eq, g12]
        constructor
        · intro h
          have e := free ((stemB_iff l).mpr h)
          rw [e] at h3 ⊢
          exact ⟨fun p hp => by rw [List.mem_singleton.mp hp]; exact h.2, by simp at h3; omega⟩
        · intro ⟨ha, hs⟩
          have hl : (pcs [] l).length = 1 := by omega
          obtain ⟨p, e⟩ := List.length_eq_one_iff.mp hl
          have ep : p = l := by simpa using pcs_one l [] p e
          subst ep
          exact ⟨h2 p (by rw [e]; exact List.mem_singleton.mpr rfl), ha p (by rw [e]; exact List.mem_singleton.mpr rfl)⟩
      · unfold nameB
        apply Bool.eq_iff_iff.mpr
        rw [Bool.and_eq_true_iff, Bool.and_eq_true_iff, decide_eq_true_eq, decide_eq_true_eq, decide_eq_true_eq, g12, List.all_eq_true]
        have es : s = (pcs [] l).length := by omega
        rw [es]
        exact ⟨fun ⟨a, b⟩ => ⟨fun p hp => ((stemB_iff p).mp (b p hp)).2, a⟩, fun ⟨a, b⟩ => ⟨b, fun p hp => (stemB_iff p).mpr ⟨h2 p hp, a p hp⟩⟩⟩
/-! ### kinds -/
theorem k_NoneType_int : L2.kitB "NoneType" "int" = some false := by decide +kernel
theorem k_NoneType_bool : L2.kitB "NoneType" "bool" = some false := by decide +kernel
theorem k_NoneType_str : L2.kitB "NoneType" "str" = some false := by decide +kernel
theorem k_NoneType_list : L2.kitB "NoneType" "list" = some false := by decide +kernel
theorem k_NoneType_tuple : L2.kitB "NoneType" "tuple" = some false := by decide +kernel
theorem k_NoneType_dict : L2.kitB "NoneType" "dict" = some false := by decide +kernel
theorem k_bool_int : L2.kitB "bool" "int" = some true := by decide +kernel
theorem k_bool_bool : L2.kitB "bool" "bool" = some true := by decide +kernel
theorem k_bool_str : L2.kitB "bool" "str" = some false := by decide +kernel
theorem k_bool_list : L2.kitB "bool" "list" = some false := by decide +kernel
theorem k_bool_tuple : L2.kitB "bool" "tuple" = some false := by decide +kernel
theorem k_bool_dict : L2.kitB "bool" "dict" = some false := by decide +kernel
theorem k_int_int : L2.kitB "int" "int" = some true := by decide +kernel
theorem k_int_bool : L2.kitB "int" "bool" = some false := by decide +kernel
theorem k_int_str : L2.kitB "int" "str" = some false := by decide +kernel
theorem k_int_list : L2.kitB "int" "list" = some false := by decide +kernel
theorem k_int_tuple : L2.kitB "int" "tuple" = some false := by decide +kernel
theorem k_int_dict : L2.kitB "int" "dict" = some false := by decide +kernel
theorem k_str_int : L2.kitB "str" "int" = some false := by decide +kernel
theorem k_str_bool : L2.kitB "str" "bool" = some false := by decide +kernel
theorem k_str_str : L2.kitB "str" "str" = some true := by decide +kernel
theorem k_str_list : L2.kitB "str" "list" = some false := by decide +kernel
theorem k_str_tuple : L2.kitB "str" "tuple" = some false := by decide +kernel
theorem k_str_dict : L2.kitB "str" "dict" = some false := by decide +kernel
theorem k_list_int : L2.kitB "list" "int" = some false := by decide +kernel
theorem k_list_bool : L2.kitB "list" "bool" = some false := by decide +kernel
theorem k_list_str : L2.kitB "list" "str" = some false := by decide +kernel
theorem k_list_list : L2.kitB "list" "list" = some true := by decide +kernel
theorem k_list_tuple : L2.kitB "list" "tuple" = some false := by decide +kernel
theorem k_list_dict : L2.kitB "list" "dict" = some false := by decide +kernel
theorem k_tuple_int : L2.kitB "tuple" "int" = some false := by decide +kernel
theorem k_tuple_bool : L2.kitB "tuple" "bool" = some false := by decide +kernel
theorem k_tuple_str : L2.kitB "tuple" "str" = some false := by decide +kernel
theorem k_tuple_list : L2.kitB "tuple" "list" = some false := by decide +kernel
theorem k_tuple_tuple : L2.kitB "tuple" "tuple" = some true := by decide +kernel
theorem k_tuple_dict : L2.kitB "tuple" "dict" = some false := by decide +kernel
theorem k_dict_int : L2.kitB "dict" "int" = some false := by decide +kernel
theorem k_dict_bool : L2.kitB "dict" "bool" = some false := by decide +kernel
theorem k_dict_str : L2.kitB "dict" "str" = some false := by decide +kernel
theorem k_dict_list : L2.kitB "dict" "list" = some false := by decide +kernel
theorem k_dict_tuple : L2.kitB "dict" "tuple" = some false := by decide +kernel
theorem k_dict_dict : L2.kitB "dict" "dict" = some true := by decide +kernel
end JM

namespace K01
open PySem PySem.Spec PyProof.Rows L2 DL
/-! ### the text -/
def top (i : Nat) : Stmt := PySem.Challenge.pw_sayable_k01_names_taken_apart.main.body.getD i (.Pass ⟨0, 0, 0, 0⟩)
abbrev st__law_pool : Stmt := top 14
abbrev st__law_ladle : Stmt := top 15
abbrev st__law_of : Stmt := top 16
abbrev st__law_bent : Stmt := top 18
abbrev st__law_walked : Stmt := top 19
abbrev st__law_stem : Stmt := top 17
abbrev st_is_stem : Stmt := top 10
abbrev st_is_name : Stmt := top 11
abbrev st_is_integer : Stmt := top 8
abbrev st_is_within : Stmt := top 9
abbrev st__law_text_right : Stmt := top 20
abbrev st__law_number_right : Stmt := top 21
abbrev st__law_odd_right : Stmt := top 22
abbrev st_joined_name : Stmt := top 12
abbrev st__law_joined : Stmt := top 23
abbrev st__law_joined_right : Stmt := top 24
abbrev st_law : Stmt := top 25
abbrev si_TooMany : Stmt := inClass (top 2) 0
/-! ### what it tells -/
def s__law_pool : SemS := (seqS (newW (lstO (consA (lcE (walkI (slice (var 0) noPart (part (cst (.int 63))))) (nameG 1) yesT (un intF (var 1)) [1]) (consA (cst (.int 0)) (consA (cst (.int 0)) nilA)))))
  nextS)
def f__law_pool : Sem := runD 2 s__law_pool
def s__law_ladle : SemS := (seqS (ifS (asB (bin gtD (bin ixD (var 0) (cst (.int 2))) (cst (.int 0)))) (seqS (setS 5 (bin ixD (var 0) (cst (.int 2))))
  (seqS (setIxS 0 (bin fdivD (un intF (var 5)) (var 1)) (cst (.int 2)))
  (seqS (retS (bin modD (un intF (var 5)) (var 1)))
  nextS))) nextS)
  (seqS (setS 2 (bin ixD (var 0) (cst (.int 1))))
  (seqS (setIxS 0 (bin addD (var 2) (cst (.int 1))) (cst (.int 1)))
  (seqS (setS 3 (bin addD (bin mulD (cst (.int 36787)) (var 2)) (cst (.int 2113))))
  (seqS (ifS (asB (bin neD (bin ixD (var 0) (cst (.int 0))) (mkA nilA lstF))) (seqS (setS 3 (bin ixD (bin ixD (var 0) (cst (.int 0))) (bin modD (un intF (var 2)) (un lenD (bin ixD (var 0) (cst (.int 0)))))))
  nextS) nextS)
  (seqS (ifS (andT (asB (bin ltD (var 2) (un lenD (bin ixD (var 0) (cst (.int 0)))))) (asB (bin geD (un absF (var 3)) (bin powD (cst (.int 10)) (cst (.int 18)))))) (seqS (setS 5 (bin subD (un absF (var 3)) (bin powD (cst (.int 10)) (cst (.int 18)))))
  (seqS (setIxS 0 (bin fdivD (un intF (var 5)) (var 1)) (cst (.int 2)))
  (seqS (retS (bin modD (un intF (var 5)) (var 1)))
  nextS))) nextS)
  (seqS (setS 4 (bin modD (un intF (bin powD (bin addD (bin addD (bin modD (un intF (var 3)) (cst (.int 2147483549))) (bin mulD (cst (.int 50101)) (var 2))) (cst (.int 2113))) (cst (.int 5)))) (cst (.int 2147483647))))
  (seqS (setS 4 (bin modD (un intF (bin powD (bin addD (bin addD (bin mulD (var 4) (bin addD (bin mulD (cst (.int 2)) (var 2)) (cst (.int 1409)))) (bin mulD (bin mulD (cst (.int 36787)) (var 2)) (var 2))) (cst (.int 2113))) (cst (.int 3)))) (cst (.int 2147483563))))
  (seqS (retS (bin modD (un intF (bin fdivD (var 4) (cst (.int 64)))) (var 1)))
  nextS)))))))))
def f__law_ladle : Sem := runD 6 s__law_ladle
def s__law_of : SemS := (seqS (retS (bin ixD (var 1) (callE f__law_ladle (consA (var 0) (consA (un lenD (var 1)) nilA)))))
  nextS)
def f__law_of : Sem := runD 2 s__law_of
def s__law_bent : SemS := (seqS (setS 2 (cst (.str " !#$&()*+,-./0123456789:;<=>?@AZ[]^_az{|}~\n")))
  (seqS (setsS [3, 4] (consA (callE f__law_ladle (consA (var 0) (consA (cst (.int 6)) nilA))) (consA (callE f__law_ladle (consA (var 0) (consA (bin addD (un lenD (var 1)) (cst (.int 1))) nilA))) nilA)))
  (seqS (ifS (asB (bin eqD (var 3) (cst (.int 0)))) (seqS (retS (bin addD (bin addD (slice (var 1) noPart (part (var 4))) (callE f__law_of (consA (var 0) (consA (var 2) nilA)))) (slice (var 1) (part (var 4)) noPart)))
  nextS) nextS)
  (seqS (ifS (asB (bin eqD (var 3) (cst (.int 1)))) (seqS (retS (bin addD (bin addD (slice (var 1) noPart (part (var 4))) (callE f__law_of (consA (var 0) (consA (var 2) nilA)))) (slice (var 1) (part (bin addD (var 4) (cst (.int 1)))) noPart)))
  nextS) nextS)
  (seqS (ifS (asB (bin eqD (var 3) (cst (.int 2)))) (seqS (retS (bin addD (slice (var 1) noPart (part (var 4))) (slice (var 1) (part (bin addD (var 4) (cst (.int 1)))) noPart)))
  nextS) nextS)
  (seqS (retS (var 1))
  nextS))))))
def f__law_bent : Sem := runD 5 s__law_bent
def s__law_walked : SemS := (seqS (asgS (mkA (consA (cst (.int 1)) (consA (cst (.int 0)) (consA (cst (.int 0)) nilA))) tupF) (tupG 3 (consG (nameG 2) (consG (nameG 3) (consG (nameG 4) nilG)))))
  (seqS (forS (walkI (var 0)) (nameG 1) (seqS (ifS (asB (bin eqD (var 1) (cst (.str ".")))) (seqS (ifS (asB (bin eqD (var 3) (cst (.int 0)))) (seqS (retS (cst .non))
  nextS) nextS)
  (seqS (setsS [2, 3] (consA (bin addD (var 2) (cst (.int 1))) (consA (cst (.int 0)) nilA)))
  nextS)) (seqS (ifS (orT (asB (chain leD leD (cst (.str "a")) (var 1) (cst (.str "z")))) (andT (asB (bin gtD (var 3) (cst (.int 0)))) (asB (chain leD leD (cst (.str "0")) (var 1) (cst (.str "9")))))) (seqS (setS 3 (bin addD (var 3) (cst (.int 1))))
  (seqS (setS 4 (bin maxF (var 4) (var 3)))
  nextS)) (seqS (retS (cst .non))
  nextS))
  nextS))
  nextS))
  (seqS (retS (ifE (asB (bin eqD (var 3) (cst (.int 0)))) (cst .non) (mkA (consA (var 2) (consA (var 4) nilA)) tupF)))
  nextS)))
def f__law_walked : Sem := runD 5 s__law_walked
def s__law_stem : SemS := (seqS (setS 2 (cst (.str "abcdefghijklmnopqrstuvwxyz")))
  (seqS (setS 3 (lcE (range1I (consA (callE f__law_of (consA (var 0) (consA (mkA (consA (cst (.int 0)) (consA (cst (.int 1)) (consA (cst (.int 3)) (consA (cst (.int 10)) (consA (cst (.int 11)) (consA (bin subD (var 1) (cst (.int 1))) nilA)))))) lstF) nilA))) nilA)) (nameG 4) yesT (callE f__law_of (consA (var 0) (consA (bin addD (cst (.str "0123456789")) (var 2)) nilA))) [4]))
  (seqS (retS (bin addD (callE f__law_of (consA (var 0) (consA (var 2) nilA))) (bin joinD (strE (cst (.str ""))) (var 3))))
  nextS)))
def f__law_stem : Sem := runD 5 s__law_stem
def s_is_stem : SemS := (seqS (ifS (orT (notT (truE (un (isiD "str") (var 0)))) (notT (asB (chain leD leD (cst (.int 1)) (un lenD (var 0)) (cst (.int 12)))))) (seqS (retS (cst (.bl false)))
  nextS) nextS)
  (seqS (ifS (asB (bin (inD true) (bin ixD (var 0) (cst (.int 0))) (cst (.str "abcdefghijklmnopqrstuvwxyz")))) (seqS (retS (cst (.bl false)))
  nextS) nextS)
  (seqS (forS (walkI (var 0)) (nameG 1) (seqS (ifS (andT (asB (bin (inD true) (var 1) (cst (.str "abcdefghijklmnopqrstuvwxyz")))) (asB (bin (inD true) (var 1) (cst (.str "0123456789"))))) (seqS (retS (cst (.bl false)))
  nextS) nextS)
  nextS))
  (seqS (retS (cst (.bl true)))
  nextS))))
def f_is_stem : Sem := runD 2 s_is_stem
def s_is_name : SemS := (seqS (ifS (notT (truE (un (isiD "str") (var 0)))) (seqS (retS (cst (.bl false)))
  nextS) nextS)
  (seqS (setS 1 (bin splitD (strE (var 0)) (cst (.str "."))))
  (seqS (ifS (asB (bin gtD (un lenD (var 1)) (cst (.int 6)))) (seqS (retS (cst (.bl false)))
  nextS) nextS)
  (seqS (forS (walkI (var 1)) (nameG 2) (seqS (ifS (notT (truE (callE f_is_stem (consA (var 2) nilA)))) (seqS (retS (cst (.bl false)))
  nextS) nextS)
  nextS))
  (seqS (retS (cst (.bl true)))
  nextS)))))
def f_is_name : Sem := runD 3 s_is_name
def s_is_integer : SemS := (seqS (retS (andE (un (isiD "int") (var 0)) (notE (un (isiD "bool") (var 0)))))
  nextS)
def f_is_integer : Sem := runD 1 s_is_integer
def s_is_within : SemS := (seqS (ifS (notT (truE (callE f_is_integer (consA (var 0) nilA)))) (seqS (retS (cst (.bl false)))
  nextS) nextS)
  (seqS (ifS (andT (asB (bin (isN true) (var 1) (cst .non))) (asB (bin ltD (var 0) (var 1)))) (seqS (retS (cst (.bl false)))
  nextS) nextS)
  (seqS (retS (orE (bin (isN false) (var 2) (cst .non)) (bin leD (var 0) (var 2))))
  nextS)))
def f_is_within : Sem := runD 3 s_is_within
def s__law_text_right : SemS := (seqS (setS 1 (callE f__law_bent (consA (var 0) (consA (bin joinD (strE (cst (.str "."))) (lcE (range1I (consA (callE f__law_of (consA (var 0) (consA (mkA (consA (cst (.int 1)) (consA (cst (.int 1)) (consA (cst (.int 2)) (consA (cst (.int 3)) (consA (cst (.int 5)) (consA (cst (.int 6)) (consA (cst (.int 7)) nilA))))))) lstF) nilA))) nilA)) (nameG 5) yesT (callE f__law_stem (consA (var 0) (consA (cst (.int 13)) nilA))) [5])) nilA))))
  (seqS (setS 2 (callE f__law_walked (consA (var 1) nilA)))
  (seqS (setS 3 (andE (bin (isN true) (var 2) (cst .non)) (bin leD (bin ixD (var 2) (cst (.int 1))) (cst (.int 12)))))
  (seqS (setS 4 (mkA (consA (andE (var 3) (bin eqD (bin ixD (var 2) (cst (.int 0))) (cst (.int 1)))) (consA (andE (var 3) (bin leD (bin ixD (var 2) (cst (.int 0))) (cst (.int 6)))) (consA (cst (.bl false)) (consA (cst (.bl false)) nilA)))) tupF))
  (seqS (retS (bin eqD (un reprF (mkA (consA (callE f_is_stem (consA (var 1) nilA)) (consA (callE f_is_name (consA (var 1) nilA)) (consA (callE f_is_integer (consA (var 1) nilA)) (consA (callE f_is_within (consA (var 1) (consA (cst .non) (consA (cst .non) nilA)))) nilA)))) tupF)) (un reprF (var 4))))
  nextS)))))
def f__law_text_right : Sem := runD 6 s__law_text_right
def s__law_number_right : SemS := (seqS (setS 1 (bin mulD (callE f__law_of (consA (var 0) (consA (mkA (consA (un negF (cst (.int 1))) (consA (cst (.int 1)) nilA)) lstF) nilA))) (callE f__law_ladle (consA (var 0) (consA (callE f__law_of (consA (var 0) (consA (mkA (consA (cst (.int 3)) (consA (cst (.int 100)) (consA (bin powD (cst (.int 10)) (cst (.int 60))) nilA))) lstF) nilA))) nilA)))))
  (seqS (setS 2 (callE f__law_of (consA (var 0) (consA (mkA (consA (cst .non) (consA (bin subD (var 1) (cst (.int 1))) (consA (var 1) (consA (bin addD (var 1) (cst (.int 1))) (consA (cst (.int 0)) nilA))))) lstF) nilA))))
  (seqS (setS 3 (callE f__law_of (consA (var 0) (consA (mkA (consA (cst .non) (consA (bin addD (var 1) (cst (.int 1))) (consA (var 1) (consA (bin subD (var 1) (cst (.int 1))) (consA (cst (.int 9)) nilA))))) lstF) nilA))))
  (seqS (setS 4 (mkA (consA (cst (.bl true)) (consA (andE (orE (bin (isN false) (var 2) (cst .non)) (bin leD (var 2) (var 1))) (orE (bin (isN false) (var 3) (cst .non)) (bin leD (var 1) (var 3)))) (consA (cst (.bl false)) (consA (cst (.bl false)) nilA)))) tupF))
  (seqS (retS (bin eqD (un reprF (mkA (consA (callE f_is_integer (consA (var 1) nilA)) (consA (callE f_is_within (consA (var 1) (consA (var 2) (consA (var 3) nilA)))) (consA (callE f_is_stem (consA (var 1) nilA)) (consA (callE f_is_name (consA (var 1) nilA)) nilA)))) tupF)) (un reprF (var 4))))
  nextS)))))
def f__law_number_right : Sem := runD 5 s__law_number_right
def s__law_odd_right : SemS := (seqS (setS 1 (callE f__law_of (consA (var 0) (consA (mkA (consA (cst .non) (consA (cst (.bl true)) (consA (cst (.bl false)) (consA (mkA nilA lstF) (consA (mkA (consA (cst (.str "a")) nilA) lstF) (consA (mkA nilA tupF) (consA (mkA (consA (cst (.str "a")) nilA) tupF) (consA (mkA (consA (cst (.int 1)) nilA) tupF) (consA (cst (.dct [])) (consA (dctE (consP (.inr "a") (cst (.int 1)) nilP)) (consA (mkA (consA (cst (.int 1)) nilA) lstF) (consA (cst (.str "")) (consA (cst (.str ".")) nilA))))))))))))) lstF) nilA))))
  (seqS (setS 2 (mkA (consA (callE f_is_integer (consA (var 1) nilA)) (consA (callE f_is_within (consA (var 1) (consA (cst (.int 0)) (consA (cst (.int 1)) nilA)))) (consA (callE f_is_within (consA (var 1) (consA (cst .non) (consA (cst .non) nilA)))) (consA (callE f_is_stem (consA (var 1) nilA)) (consA (callE f_is_name (consA (var 1) nilA)) nilA))))) lstF))
  (seqS (retS (bin eqD (un reprF (var 2)) (un reprF (mkA (consA (cst (.bl false)) (consA (cst (.bl false)) (consA (cst (.bl false)) (consA (cst (.bl false)) (consA (cst (.bl false)) nilA))))) lstF))))
  nextS)))
def f__law_odd_right : Sem := runD 3 s__law_odd_right
def s_joined_name : SemS := (seqS (setS 1 (bin joinD (strE (cst (.str "."))) (un listF (var 0))))
  (seqS (ifS (asB (bin gtD (un lenD (bin splitD (strE (var 1)) (cst (.str ".")))) (cst (.int 6)))) (seqS (raiseS "TooMany" ["what", "most"] (consA (cst (.str "stems")) (consA (cst (.int 6)) nilA)))
  nextS) nextS)
  (seqS (retS (var 1))
  nextS)))
def f_joined_name : Sem := fun ds w => runD 2 s_joined_name [.tup ds] w
def s__law_joined : SemS := (seqS (ifS (asB (bin eqD (un lenD (var 0)) (cst (.int 1)))) (seqS (retS (callE f_joined_name (consA (bin ixD (var 0) (cst (.int 0))) nilA)))
  nextS) nextS)
  (seqS (ifS (asB (bin eqD (un lenD (var 0)) (cst (.int 2)))) (seqS (retS (callE f_joined_name (consA (bin ixD (var 0) (cst (.int 0))) (consA (bin ixD (var 0) (cst (.int 1))) nilA))))
  nextS) nextS)
  (seqS (ifS (asB (bin eqD (un lenD (var 0)) (cst (.int 3)))) (seqS (retS (callE f_joined_name (consA (bin ixD (var 0) (cst (.int 0))) (consA (bin ixD (var 0) (cst (.int 1))) (consA (bin ixD (var 0) (cst (.int 2))) nilA)))))
  nextS) nextS)
  (seqS (retS (callE f_joined_name (consA (bin ixD (var 0) (cst (.int 0))) (consA (bin ixD (var 0) (cst (.int 1))) (consA (bin ixD (var 0) (cst (.int 2))) (consA (bin ixD (var 0) (cst (.int 3))) nilA))))))
  nextS))))
def f__law_joined : Sem := runD 1 s__law_joined
def s__law_joined_right : SemS := (seqS (parO 3 4 (datO (mkA nilA lstF)) (lstO nilA))
  (seqS (forS (range1I (consA (bin addD (cst (.int 1)) (callE f__law_ladle (consA (var 0) (consA (cst (.int 4)) nilA)))) nilA)) (nameG 1) (seqS (setS 5 (lcE (range1I (consA (callE f__law_of (consA (var 0) (consA (mkA (consA (cst (.int 1)) (consA (cst (.int 1)) (consA (cst (.int 2)) (consA (cst (.int 3)) nilA)))) lstF) nilA))) nilA)) (nameG 8) yesT (callE f__law_stem (consA (var 0) (consA (cst (.int 12)) nilA))) [8]))
  (seqS (setS 3 (bin addD (var 3) (var 5)))
  (seqS (appS 4 (bin joinD (strE (cst (.str "."))) (var 5)))
  nextS))))
  (seqS (asgS (mkA (consA (cst (.str "")) (consA (mkA nilA tupF) nilA)) tupF) (tupG 2 (consG (nameG 6) (consG (nameG 7) nilG))))
  (seqS (frzS 4 (tryS2 6 2 "TooMany" f__law_joined (consA (var 4) nilA) (suiteS "TooMany" 7 (consX (fun x => x.fs.lookup ("what" : Str)) (consX (fun x => x.fs.lookup ("most" : Str)) (consX (fun _ => some (.bl true)) (fun _ => some [])))))))
  (seqS (ifS (asB (bin gtD (un lenD (var 3)) (cst (.int 6)))) (seqS (retS (andE (bin eqD (un reprF (var 7)) (un reprF (mkA (consA (cst (.str "stems")) (consA (cst (.int 6)) (consA (cst (.bl true)) nilA))) tupF))) (bin eqD (var 6) (cst (.str "")))))
  nextS) nextS)
  (seqS (retS (andE (bin eqD (var 7) (mkA nilA tupF)) (andE (un (isiD "str") (var 6)) (andE (bin eqD (bin splitD (strE (var 6)) (cst (.str "."))) (var 3)) (bin isBD (callE f_is_name (consA (var 6) nilA)) (cst (.bl true)))))))
  nextS))))))
def f__law_joined_right : Sem := runD 9 s__law_joined_right
def s_law : SemS := (seqS (setS 1 (callE f__law_pool (consA (var 0) nilA)))
  (seqS (forS (range1I (consA (cst (.int 9)) nilA)) (nameG 2) (seqS (ifS (orT (notT (truE (callE f__law_text_right (consA (var 1) nilA)))) (notT (truE (callE f__law_number_right (consA (var 1) nilA))))) (seqS (retS (cst (.bl false)))
  nextS) nextS)
  (seqS (ifS (orT (notT (truE (callE f__law_odd_right (consA (var 1) nilA)))) (notT (truE (callE f__law_joined_right (consA (var 1) nilA))))) (seqS (retS (cst (.bl false)))
  nextS) nextS)
  nextS)))
  (seqS (retS (cst (.bl true)))
  nextS)))
def f_law : Sem := runD 3 s_law
/-! ### the facts of the head -/
structure Facts (K : PySem.W.Frag) (mg : Str → Option Value) : Prop where
  b_abs : mg "abs" = none
  b_bool : mg "bool" = none
  b_int : mg "int" = none
  b_isinstance : mg "isinstance" = none
  b_len : mg "len" = none
  b_list : mg "list" = none
  b_max : mg "max" = none
  b_range : mg "range" = none
  b_repr : mg "repr" = none
  b_str : mg "str" = none
  c_DIGITS : ∃ t, mg "DIGITS" = some (.str "0123456789" t)
  c_MOST_SIGNS : ∃ t, mg "MOST_SIGNS" = some (.int 12 t)
  c_MOST_STEMS : ∃ t, mg "MOST_STEMS" = some (.int 6 t)
  c_SMALL : ∃ t, mg "SMALL" = some (.str "abcdefghijklmnopqrstuvwxyz" t)
  g_SayError : mg "SayError" = some (.ref (He.ga K "SayError"))
  g_TooMany : mg "TooMany" = some (.ref (He.ga K "TooMany"))
  e_TooMany : ExcOk K "TooMany" ["what", "most"]
  k_TooMany_SayError : PySem.W.kitOne K (.ref (He.ga K "TooMany")) (.ref (He.ga K "SayError")) = some true
  n_TooMany : ∃ fd, FunD K "__init__" "TooMany.__init__" (defArgs si_TooMany) (defBody si_TooMany) (defScope si_TooMany) [] [] (He.ma K (He.ga K "TooMany") "__init__") fd
  p__law_pool : ∃ fd, FnP K "_law_pool" st__law_pool (He.ga K "_law_pool") fd
  p__law_ladle : ∃ fd, FnP K "_law_ladle" st__law_ladle (He.ga K "_law_ladle") fd
  p__law_of : ∃ fd, FnP K "_law_of" st__law_of (He.ga K "_law_of") fd
  p__law_bent : ∃ fd, FnP K "_law_bent" st__law_bent (He.ga K "_law_bent") fd
  p__law_walked : ∃ fd, FnP K "_law_walked" st__law_walked (He.ga K "_law_walked") fd
  p__law_stem : ∃ fd, FnP K "_law_stem" st__law_stem (He.ga K "_law_stem") fd
  p_is_stem : ∃ fd, FnP K "is_stem" st_is_stem (He.ga K "is_stem") fd
  p_is_name : ∃ fd, FnP K "is_name" st_is_name (He.ga K "is_name") fd
  p_is_integer : ∃ fd, FnP K "is_integer" st_is_integer (He.ga K "is_integer") fd
  p_is_within : ∃ fd, FnP K "is_within" st_is_within (He.ga K "is_within") fd
  p__law_text_right : ∃ fd, FnP K "_law_text_right" st__law_text_right (He.ga K "_law_text_right") fd
  p__law_number_right : ∃ fd, FnP K "_law_number_right" st__law_number_right (He.ga K "_law_number_right") fd
  p__law_odd_right : ∃ fd, FnP K "_law_odd_right" st__law_odd_right (He.ga K "_law_odd_right") fd
  p_joined_name : ∃ fd, FnP K "joined_name" st_joined_name (He.ga K "joined_name") fd
  p__law_joined : ∃ fd, FnP K "_law_joined" st__law_joined (He.ga K "_law_joined") fd
  p__law_joined_right : ∃ fd, FnP K "_law_joined_right" st__law_joined_right (He.ga K "_law_joined_right") fd
  p_law : ∃ fd, FnP K "law" st_law (He.ga K "law") fd
  m__law_pool : mg "_law_pool" = some (.ref (He.ga K "_law_pool"))
  m__law_ladle : mg "_law_ladle" = some (.ref (He.ga K "_law_ladle"))
  m__law_of : mg "_law_of" = some (.ref (He.ga K "_law_of"))
  m__law_bent : mg "_law_bent" = some (.ref (He.ga K "_law_bent"))
  m__law_walked : mg "_law_walked" = some (.ref (He.ga K "_law_walked"))
  m__law_stem : mg "_law_stem" = some (.ref (He.ga K "_law_stem"))
  m_is_stem : mg "is_stem" = some (.ref (He.ga K "is_stem"))
  m_is_name : mg "is_name" = some (.ref (He.ga K "is_name"))
  m_is_integer : mg "is_integer" = some (.ref (He.ga K "is_integer"))
  m_is_within : mg "is_within" = some (.ref (He.ga K "is_within"))
  m__law_text_right : mg "_law_text_right" = some (.ref (He.ga K "_law_text_right"))
  m__law_number_right : mg "_law_number_right" = some (.ref (He.ga K "_law_number_right"))
  m__law_odd_right : mg "_law_odd_right" = some (.ref (He.ga K "_law_odd_right"))
  m_joined_name : mg "joined_name" = some (.ref (He.ga K "joined_name"))
  m__law_joined : mg "_law_joined" = some (.ref (He.ga K "_law_joined"))
  m__law_joined_right : mg "_law_joined_right" = some (.ref (He.ga K "_law_joined_right"))
  m_law : mg "law" = some (.ref (He.ga K "law"))
/-! ### the terms -/
section
variable {P : Program} {w : World} {K : PySem.W.Frag} {mg : Str → Option Value} {base : Heap}
theorem sci_TooMany : FnScope ["self", "what", "most"] ["self", "what", "most"] (defScope si_TooMany) := ⟨rfl, rfl, rfl, by decide +kernel, rfl, by decide +kernel, by decide +kernel⟩
theorem i_TooMany (Z : Facts K mg) : ∃ fd, ∃ _ : Binds K fd ["self", "what", "most"] [], FnOk P w K mg base (L2.CX P w) 1 (He.ma K (He.ga K "TooMany") "__init__") fd ["self", "what", "most"] (spInit (He.ga K "TooMany") ["what", "most"]) := by
  obtain ⟨fd, F⟩ := Z.n_TooMany
  refine ⟨fd, F.bindsN (fun _ _ _ _ _ _ us hl => match us, hl with | [_, _, _], _ => rfl), F.ok sci_TooMany (fun vs H Q E h => h.len) fun cdv A outer s H vs Q E hr h => ⟨_, ?_, init2_ok Z.e_TooMany.T (Z.e_TooMany.no _ (by decide)) (Z.e_TooMany.no _ (by decide)) h⟩⟩
  exact (pss_cons (ps_ost (dv 0 (E := E)).pe (dv 1 (E := E)).pe) (pss_cons (ps_ost (dv 0 (E := E)).pe (dv 2 (E := E)).pe) pss_nil))
theorem sc__law_pool : FnScope ["_law_script", "_law_cell"] ["_law_script"] (defScope st__law_pool) := ⟨rfl, rfl, rfl, by decide +kernel, rfl, by decide +kernel, by decide +kernel⟩
theorem d__law_pool (Z : Facts K mg) : DefOk P w K mg base "_law_pool" 1 1 f__law_pool := by
  obtain ⟨fd, F⟩ := Z.p__law_pool
  exact def_okF ["_law_script", "_law_cell"] s__law_pool F Z.m__law_pool sc__law_pool rfl (fun _ _ _ _ _ _ us hl => match us, hl with | [_], _ => rfl) rfl fun cdv A outer s0 H E hr => ⟨_, (dss_cons (ds_retNew (deo_lst (da_cons (de_lc0 (own := [("_law_cell", 1)]) s0 H sc__law_pool.nd (di_any (de_slice (dv 0) do_none (do_some de_int))) (blkOk_by (N := ["_law_script", "_law_cell"]) (sc := defScope st__law_pool) (own := [("_law_cell", 1)]) (by decide +kernel)) (fun _ _ _ _ _ => dg_name (i := 1) sc__law_pool.nd) dts_nil (de_callT1 call_int1 rel_int1 Z.b_int (by decide +kernel) (dv 1)) (fun _ _ _ _ _ => dts_nil) (fun _ _ _ _ _ => (de_callT1 call_int1 rel_int1 Z.b_int (by decide +kernel) (dv 1))) wipe_name) (da_cons de_int (da_cons de_int da_nil)))))
  dss_nil)⟩
theorem sc__law_ladle : FnScope ["_law_pool_here", "_law_many", "_law_turn", "_law_cell", "_law_mixed", "_law_rest"] ["_law_pool_here", "_law_many"] (defScope st__law_ladle) := ⟨rfl, rfl, rfl, by decide +kernel, rfl, by decide +kernel, by decide +kernel⟩
theorem d__law_ladle (Z : Facts K mg) : DefOk P w K mg base "_law_ladle" 1 2 f__law_ladle := by
  obtain ⟨fd, F⟩ := Z.p__law_ladle
  exact def_okF ["_law_pool_here", "_law_many", "_law_turn", "_law_cell", "_law_mixed", "_law_rest"] s__law_ladle F Z.m__law_ladle sc__law_ladle rfl (fun _ _ _ _ _ _ us hl => match us, hl with | [_, _], _ => rfl) rfl fun cdv A outer s0 H E hr => ⟨_, (dss_cons (ds_if (dt_cmp op_gtD rel_ord (de_ix (dv 0) de_int) de_int) (dss_cons (ds_set (i := 5) (de_ix (dv 0) de_int) sc__law_ladle.nd)
  (dss_cons (ds_setIx 0 (de_bin op_fdivW rel_fdiv (de_callT1 call_int1 rel_int1 Z.b_int (by decide +kernel) (dv 5)) (dv 1)) de_int (hg := pg_sub (dv 0 (E := E)).pe (de_int : DE _ E _ _ _).pe set_list (fun _ => rfl)))
  (dss_cons (ds_ret (de_bin op_mod rel_mod (de_callT1 call_int1 rel_int1 Z.b_int (by decide +kernel) (dv 5)) (dv 1)))
  dss_nil))) dss_nil)
  (dss_cons (ds_set (i := 2) (de_ix (dv 0) de_int) sc__law_ladle.nd)
  (dss_cons (ds_setIx 0 (de_bin op_addD rel_add (dv 2) de_int) de_int (hg := pg_sub (dv 0 (E := E)).pe (de_int : DE _ E _ _ _).pe set_list (fun _ => rfl)))
  (dss_cons (ds_set (i := 3) (de_bin op_addD rel_add (de_bin op_mulD rel_mul de_int (dv 2)) de_int) sc__law_ladle.nd)
  (dss_cons (ds_if (dt_cmp (op_neD hr.units) rel_ne (de_ix (dv 0) de_int) (de_lst da_nil)) (dss_cons (ds_set (i := 3) (de_ix (de_ix (dv 0) de_int) (de_bin op_mod rel_mod (de_callT1 call_int1 rel_int1 Z.b_int (by decide +kernel) (dv 2)) (de_callB1 call_lenE rel_len Z.b_len (by decide +kernel) (de_ix (dv 0) de_int)))) sc__law_ladle.nd)
  dss_nil) dss_nil)
  (dss_cons (ds_if (dw_and (dt_cmp op_ltD rel_ord (dv 2) (de_callB1 call_lenE rel_len Z.b_len (by decide +kernel) (de_ix (dv 0) de_int))) (dw_and1 (dt_cmp op_geD rel_ord (de_callB1 call_abs rel_abs Z.b_abs (by decide +kernel) (dv 3)) (de_bin op_pow rel_pow de_int de_int)))).dt (dss_cons (ds_set (i := 5) (de_bin op_sub rel_sub (de_callB1 call_abs rel_abs Z.b_abs (by decide +kernel) (dv 3)) (de_bin op_pow rel_pow de_int de_int)) sc__law_ladle.nd)
  (dss_cons (ds_setIx 0 (de_bin op_fdivW rel_fdiv (de_callT1 call_int1 rel_int1 Z.b_int (by decide +kernel) (dv 5)) (dv 1)) de_int (hg := pg_sub (dv 0 (E := E)).pe (de_int : DE _ E _ _ _).pe set_list (fun _ => rfl)))
  (dss_cons (ds_ret (de_bin op_mod rel_mod (de_callT1 call_int1 rel_int1 Z.b_int (by decide +kernel) (dv 5)) (dv 1)))
  dss_nil))) dss_nil)
  (dss_cons (ds_set (i := 4) (de_bin op_mod rel_mod (de_callT1 call_int1 rel_int1 Z.b_int (by decide +kernel) (de_bin op_pow rel_pow (de_bin op_addD rel_add (de_bin op_addD rel_add (de_bin op_mod rel_mod (de_callT1 call_int1 rel_int1 Z.b_int (by decide +kernel) (dv 3)) de_int) (de_bin op_mulD rel_mul de_int (dv 2))) de_int) de_int)) de_int) sc__law_ladle.nd)
  (dss_cons (ds_set (i := 4) (de_bin op_mod rel_mod (de_callT1 call_int1 rel_int1 Z.b_int (by decide +kernel) (de_bin op_pow rel_pow (de_bin op_addD rel_add (de_bin op_addD rel_add (de_bin op_mulD rel_mul (dv 4) (de_bin op_addD rel_add (de_bin op_mulD rel_mul de_int (dv 2)) de_int)) (de_bin op_mulD rel_mul (de_bin op_mulD rel_mul de_int (dv 2)) (dv 2))) de_int) de_int)) de_int) sc__law_ladle.nd)
  (dss_cons (ds_ret (de_bin op_mod rel_mod (de_callT1 call_int1 rel_int1 Z.b_int (by decide +kernel) (de_bin op_fdivW rel_fdiv (dv 4) de_int)) (dv 1)))
  dss_nil)))))))))⟩
theorem sc__law_of : FnScope ["_law_pool_here", "_law_things"] ["_law_pool_here", "_law_things"] (defScope st__law_of) := ⟨rfl, rfl, rfl, by decide +kernel, rfl, by decide +kernel, by decide +kernel⟩
theorem d__law_of (Z : Facts K mg) : DefOk P w K mg base "_law_of" 2 2 f__law_of := by
  obtain ⟨fd, F⟩ := Z.p__law_of
  exact def_okF ["_law_pool_here", "_law_things"] s__law_of F Z.m__law_of sc__law_of rfl (fun _ _ _ _ _ _ us hl => match us, hl with | [_, _], _ => rfl) rfl fun cdv A outer s0 H E hr => ⟨_, (dss_cons (ds_ret (de_ix (dv 1) (dc (d__law_ladle Z) hr (by decide) (pass_own (takes_of rfl rfl rfl rfl)) (da_cons (dv 0) (da_cons (de_callB1 call_lenE rel_len Z.b_len (by decide +kernel) (dv 1)) da_nil)) (lenA_cons (lenA_cons lenA_nil)))))
  dss_nil)⟩
theorem sc__law_bent : FnScope ["_law_pool_here", "_law_text", "_law_signs", "_law_way", "_law_place"] ["_law_pool_here", "_law_text"] (defScope st__law_bent) := ⟨rfl, rfl, rfl, by decide +kernel, rfl, by decide +kernel, by decide +kernel⟩
theorem d__law_bent (Z : Facts K mg) : DefOk P w K mg base "_law_bent" 3 2 f__law_bent := by
  obtain ⟨fd, F⟩ := Z.p__law_bent
  exact def_okF ["_law_pool_here", "_law_text", "_law_signs", "_law_way", "_law_place"] s__law_bent F Z.m__law_bent sc__law_bent rfl (fun _ _ _ _ _ _ us hl => match us, hl with | [_, _], _ => rfl) rfl fun cdv A outer s0 H E hr => ⟨_, (dss_cons (ds_set (i := 2) de_str sc__law_bent.nd)
  (dss_cons (ds_par (i := 3) (j := 4) sc__law_bent.nd (da_cons (dc (d__law_ladle Z) hr (by decide) (pass_own (takes_of rfl rfl rfl rfl)) (da_cons (dv 0) (da_cons de_int da_nil)) (lenA_cons (lenA_cons lenA_nil))) (da_cons (dc (d__law_ladle Z) hr (by decide) (pass_own (takes_of rfl rfl rfl rfl)) (da_cons (dv 0) (da_cons (de_bin op_addD rel_add (de_callB1 call_lenE rel_len Z.b_len (by decide +kernel) (dv 1)) de_int) da_nil)) (lenA_cons (lenA_cons lenA_nil))) da_nil)))
  (dss_cons (ds_if (dt_cmp (op_eqD hr.units) rel_eq (dv 3) de_int) (dss_cons (ds_ret (de_bin op_addD rel_add (de_bin op_addD rel_add (de_slice (dv 1) do_none (do_some (dv 4))) (dc (d__law_of Z) hr (by decide) (pass_own (takes_of rfl rfl rfl rfl)) (da_cons (dv 0) (da_cons (dv 2) da_nil)) (lenA_cons (lenA_cons lenA_nil)))) (de_slice (dv 1) (do_some (dv 4)) do_none)))
  dss_nil) dss_nil)
  (dss_cons (ds_if (dt_cmp (op_eqD hr.units) rel_eq (dv 3) de_int) (dss_cons (ds_ret (de_bin op_addD rel_add (de_bin op_addD rel_add (de_slice (dv 1) do_none (do_some (dv 4))) (dc (d__law_of Z) hr (by decide) (pass_own (takes_of rfl rfl rfl rfl)) (da_cons (dv 0) (da_cons (dv 2) da_nil)) (lenA_cons (lenA_cons lenA_nil)))) (de_slice (dv 1) (do_some (de_bin op_addD rel_add (dv 4) de_int)) do_none)))
  dss_nil) dss_nil)
  (dss_cons (ds_if (dt_cmp (op_eqD hr.units) rel_eq (dv 3) de_int) (dss_cons (ds_ret (de_bin op_addD rel_add (de_slice (dv 1) do_none (do_some (dv 4))) (de_slice (dv 1) (do_some (de_bin op_addD rel_add (dv 4) de_int)) do_none)))
  dss_nil) dss_nil)
  (dss_cons (ds_ret (dv 1))
  dss_nil))))))⟩
theorem sc__law_walked : FnScope ["_law_text", "_law_sign", "_law_stems", "_law_run", "_law_longest"] ["_law_text"] (defScope st__law_walked) := ⟨rfl, rfl, rfl, by decide +kernel, rfl, by decide +kernel, by decide +kernel⟩
theorem d__law_walked (Z : Facts K mg) : DefOk P w K mg base "_law_walked" 1 1 f__law_walked := by
  obtain ⟨fd, F⟩ := Z.p__law_walked
  exact def_okF ["_law_text", "_law_sign", "_law_stems", "_law_run", "_law_longest"] s__law_walked F Z.m__law_walked sc__law_walked rfl (fun _ _ _ _ _ _ us hl => match us, hl with | [_], _ => rfl) rfl fun cdv A outer s0 H E hr => ⟨_, (dss_cons (ds_asg (de_tup (da_cons de_int (da_cons de_int (da_cons de_int da_nil)))) (dg_tup (dgs_cons (dg_name (i := 2) sc__law_walked.nd) (dgs_cons (dg_name (i := 3) sc__law_walked.nd) (dgs_cons (dg_name (i := 4) sc__law_walked.nd) dgs_nil)))))
  (dss_cons (ds_for (passes_of rfl) (di_any (dv 0)) (dg_name (i := 1) sc__law_walked.nd) (dss_cons (ds_if (dt_cmp (op_eqD hr.units) rel_eq (dv 1) de_str) (dss_cons (ds_if (dt_cmp (op_eqD hr.units) rel_eq (dv 3) de_int) (dss_cons (ds_ret de_non)
  dss_nil) dss_nil)
  (dss_cons (ds_par (i := 2) (j := 3) sc__law_walked.nd (da_cons (de_bin op_addD rel_add (dv 2) de_int) (da_cons de_int da_nil)))
  dss_nil)) (dss_cons (ds_if (dw_or (dt_chain op_leD rel_ord op_leD rel_ord de_str (dv 1) de_str) (dw_or1 (dw_and (dt_cmp op_gtD rel_ord (dv 3) de_int) (dw_and1 (dt_chain op_leD rel_ord op_leD rel_ord de_str (dv 1) de_str))).dt)).dt (dss_cons (ds_set (i := 3) (de_bin op_addD rel_add (dv 3) de_int) sc__law_walked.nd)
  (dss_cons (ds_set (i := 4) (de_callB2 (call_max2 rfl) rel_max Z.b_max (by decide +kernel) (dv 4) (dv 3)) sc__law_walked.nd)
  dss_nil)) (dss_cons (ds_ret de_non)
  dss_nil))
  dss_nil))
  dss_nil))
  (dss_cons (ds_ret (de_if (dt_cmp (op_eqD hr.units) rel_eq (dv 3) de_int) de_non (de_tup (da_cons (dv 2) (da_cons (dv 4) da_nil)))))
  dss_nil)))⟩
theorem sc__law_stem : FnScope ["_law_pool_here", "_law_most", "_law_letters", "_law_more", "_law_at"] ["_law_pool_here", "_law_most"] (defScope st__law_stem) := ⟨rfl, rfl, rfl, by decide +kernel, rfl, by decide +kernel, by decide +kernel⟩
theorem d__law_stem (Z : Facts K mg) : DefOk P w K mg base "_law_stem" 3 2 f__law_stem := by
  obtain ⟨fd, F⟩ := Z.p__law_stem
  exact def_okF ["_law_pool_here", "_law_most", "_law_letters", "_law_more", "_law_at"] s__law_stem F Z.m__law_stem sc__law_stem rfl (fun _ _ _ _ _ _ us hl => match us, hl with | [_, _], _ => rfl) rfl fun cdv A outer s0 H E hr => ⟨_, (dss_cons (ds_set (i := 2) de_str sc__law_stem.nd)
  (dss_cons (ds_setLc0 (i := 3) (own := [("_law_at", 4)]) s0 H sc__law_stem.nd (di_range1 Z.b_range (da_cons (dc (d__law_of Z) hr (by decide) (pass_own (takes_of rfl rfl rfl rfl)) (da_cons (dv 0) (da_cons (de_lst (da_cons de_int (da_cons de_int (da_cons de_int (da_cons de_int (da_cons de_int (da_cons (de_bin op_sub rel_sub (dv 1) de_int) da_nil))))))) da_nil)) (lenA_cons (lenA_cons lenA_nil))) da_nil)) (blkOk_by (N := ["_law_pool_here", "_law_most", "_law_letters", "_law_more", "_law_at"]) (sc := defScope st__law_stem) (own := [("_law_at", 4)]) (by decide +kernel)) (fun _ _ _ _ _ => dg_name (i := 4) sc__law_stem.nd) dts_nil (dc (d__law_of Z) hr (by decide) passL (da_cons (dv 0) (da_cons (de_bin op_addD rel_add de_str (dv 2)) da_nil)) (lenA_cons (lenA_cons lenA_nil))) (fun _ _ _ _ _ => dts_nil) (fun _ _ _ _ _ => (dc (d__law_of Z) hr (by decide) passL (da_cons (dv 0) (da_cons (de_bin op_addD rel_add de_str (dv 2)) da_nil)) (lenA_cons (lenA_cons lenA_nil)))) wipe_name (sw_true rfl rfl rfl (by decide +kernel)))
  (dss_cons (ds_ret (de_bin op_addD rel_add (dc (d__law_of Z) hr (by decide) (pass_own (takes_of rfl rfl rfl rfl)) (da_cons (dv 0) (da_cons (dv 2) da_nil)) (lenA_cons (lenA_cons lenA_nil))) (de_join de_str (dv 3))))
  dss_nil)))⟩
theorem sc_is_stem : FnScope ["value", "sign"] ["value"] (defScope st_is_stem) := ⟨rfl, rfl, rfl, by decide +kernel, rfl, by decide +kernel, by decide +kernel⟩
theorem d_is_stem (Z : Facts K mg) : DefOk P w K mg base "is_stem" 1 1 f_is_stem := by
  obtain ⟨fd, F⟩ := Z.p_is_stem
  exact def_okF ["value", "sign"] s_is_stem F Z.m_is_stem sc_is_stem rfl (fun _ _ _ _ _ _ us hl => match us, hl with | [_], _ => rfl) rfl fun cdv A outer s0 H E hr => ⟨_, (dss_cons (ds_if (dw_or (dt_not (dt_tru (de_isi "str" Z.b_isinstance Z.b_str (by decide +kernel) (dv 0)))) (dw_or1 (dt_not (dt_chain op_leD rel_ord op_leD rel_ord de_int (de_callB1 call_lenE rel_len Z.b_len (by decide +kernel) (dv 0)) (de_globI Z.c_MOST_SIGNS))))).dt (dss_cons (ds_ret de_bl)
  dss_nil) dss_nil)
  (dss_cons (ds_if (dt_cmp op_notInD (rel_in true) (de_ix (dv 0) de_int) (de_globS Z.c_SMALL)) (dss_cons (ds_ret de_bl)
  dss_nil) dss_nil)
  (dss_cons (ds_for (passes_of rfl) (di_any (dv 0)) (dg_name (i := 1) sc_is_stem.nd) (dss_cons (ds_if (dw_and (dt_cmp op_notInD (rel_in true) (dv 1) (de_globS Z.c_SMALL)) (dw_and1 (dt_cmp op_notInD (rel_in true) (dv 1) (de_globS Z.c_DIGITS)))).dt (dss_cons (ds_ret de_bl)
  dss_nil) dss_nil)
  dss_nil))
  (dss_cons (ds_ret de_bl)
  dss_nil))))⟩
theorem sc_is_name : FnScope ["value", "stems", "stem"] ["value"] (defScope st_is_name) := ⟨rfl, rfl, rfl, by decide +kernel, rfl, by decide +kernel, by decide +kernel⟩
theorem d_is_name (Z : Facts K mg) : DefOk P w K mg base "is_name" 2 1 f_is_name := by
  obtain ⟨fd, F⟩ := Z.p_is_name
  exact def_okF ["value", "stems", "stem"] s_is_name F Z.m_is_name sc_is_name rfl (fun _ _ _ _ _ _ us hl => match us, hl with | [_], _ => rfl) rfl fun cdv A outer s0 H E hr => ⟨_, (dss_cons (ds_if (dt_not (dt_tru (de_isi "str" Z.b_isinstance Z.b_str (by decide +kernel) (dv 0)))) (dss_cons (ds_ret de_bl)
  dss_nil) dss_nil)
  (dss_cons (ds_set (i := 1) (de_split (dv 0) de_str) sc_is_name.nd)
  (dss_cons (ds_if (dt_cmp op_gtD rel_ord (de_callB1 call_lenE rel_len Z.b_len (by decide +kernel) (dv 1)) (de_globI Z.c_MOST_STEMS)) (dss_cons (ds_ret de_bl)
  dss_nil) dss_nil)
  (dss_cons (ds_for (passes_of rfl) (di_any (dv 1)) (dg_name (i := 2) sc_is_name.nd) (dss_cons (ds_if (dt_not (dt_tru (dc (d_is_stem Z) hr (by decide) (pass_own (takes_of rfl rfl rfl rfl)) (da_cons (dv 2) da_nil) (lenA_cons lenA_nil)))) (dss_cons (ds_ret de_bl)
  dss_nil) dss_nil)
  dss_nil))
  (dss_cons (ds_ret de_bl)
  dss_nil)))))⟩
theorem sc_is_integer : FnScope ["value"] ["value"] (defScope st_is_integer) := ⟨rfl, rfl, rfl, by decide +kernel, rfl, by decide +kernel, by decide +kernel⟩
theorem d_is_integer (Z : Facts K mg) : DefOk P w K mg base "is_integer" 1 1 f_is_integer := by
  obtain ⟨fd, F⟩ := Z.p_is_integer
  exact def_okF ["value"] s_is_integer F Z.m_is_integer sc_is_integer rfl (fun _ _ _ _ _ _ us hl => match us, hl with | [_], _ => rfl) rfl fun cdv A outer s0 H E hr => ⟨_, (dss_cons (ds_ret (de_and (de_isi "int" Z.b_isinstance Z.b_int (by decide +kernel) (dv 0)) (de_one (de_not (de_isi "bool" Z.b_isinstance Z.b_bool (by decide +kernel) (dv 0))))))
  dss_nil)⟩
theorem sc_is_within : FnScope ["value", "least", "most"] ["value", "least", "most"] (defScope st_is_within) := ⟨rfl, rfl, rfl, by decide +kernel, rfl, by decide +kernel, by decide +kernel⟩
theorem d_is_within (Z : Facts K mg) : DefOk P w K mg base "is_within" 2 3 f_is_within := by
  obtain ⟨fd, F⟩ := Z.p_is_within
  exact def_okF ["value", "least", "most"] s_is_within F Z.m_is_within sc_is_within rfl (fun _ _ _ _ _ _ us hl => match us, hl with | [_, _, _], _ => rfl) rfl fun cdv A outer s0 H E hr => ⟨_, (dss_cons (ds_if (dt_not (dt_tru (dc (d_is_integer Z) hr (by decide) (pass_own (takes_of rfl rfl rfl rfl)) (da_cons (dv 0) da_nil) (lenA_cons lenA_nil)))) (dss_cons (ds_ret de_bl)
  dss_nil) dss_nil)
  (dss_cons (ds_if (dw_and (dt_cmp op_notN1 rel_notN (dv 1) de_non) (dw_and1 (dt_cmp op_ltD rel_ord (dv 0) (dv 1)))).dt (dss_cons (ds_ret de_bl)
  dss_nil) dss_nil)
  (dss_cons (ds_ret (de_or (de_cmp op_isN1 rel_isN (dv 2) de_non) (de_one (de_cmp op_leD rel_ord (dv 0) (dv 2)))))
  dss_nil)))⟩
theorem sc__law_text_right : FnScope ["_law_pool_here", "_law_text", "_law_walked_here", "_law_sound", "_law_due", "_law_turn"] ["_law_pool_here"] (defScope st__law_text_right) := ⟨rfl, rfl, rfl, by decide +kernel, rfl, by decide +kernel, by decide +kernel⟩
theorem d__law_text_right (Z : Facts K mg) : DefOkG P w K mg base "_law_text_right" 4 1 f__law_text_right := by
  obtain ⟨fd, F⟩ := Z.p__law_text_right
  exact defG_okF ["_law_pool_here", "_law_text", "_law_walked_here", "_law_sound", "_law_due", "_law_turn"] s__law_text_right F Z.m__law_text_right sc__law_text_right rfl (fun _ _ _ _ _ _ us hl => match us, hl with | [_], _ => rfl) rfl fun cdv A outer s0 H E hG hr => ⟨_, (dss_cons (ds_set (i := 1) (dc (d__law_bent Z) hr (by decide) (pass_own (takes_of rfl rfl rfl rfl)) (da_cons (dv 0) (da_cons (de_join de_str (de_lc0 (own := [("_law_turn", 5)]) s0 H sc__law_text_right.nd (di_range1 Z.b_range (da_cons (dc (d__law_of Z) hr (by decide) (pass_own (takes_of rfl rfl rfl rfl)) (da_cons (dv 0) (da_cons (de_lst (da_cons de_int (da_cons de_int (da_cons de_int (da_cons de_int (da_cons de_int (da_cons de_int (da_cons de_int da_nil)))))))) da_nil)) (lenA_cons (lenA_cons lenA_nil))) da_nil)) (blkOk_by (N := ["_law_pool_here", "_law_text", "_law_walked_here", "_law_sound", "_law_due", "_law_turn"]) (sc := defScope st__law_text_right) (own := [("_law_turn", 5)]) (by decide +kernel)) (fun _ _ _ _ _ => dg_name (i := 5) sc__law_text_right.nd) dts_nil (dc (d__law_stem Z) hr (by decide) passL (da_cons (dv 0) (da_cons de_int da_nil)) (lenA_cons (lenA_cons lenA_nil))) (fun _ _ _ _ _ => dts_nil) (fun _ _ _ _ _ => (dc (d__law_stem Z) hr (by decide) passL (da_cons (dv 0) (da_cons de_int da_nil)) (lenA_cons (lenA_cons lenA_nil)))) wipe_name)) da_nil)) (lenA_cons (lenA_cons lenA_nil))) sc__law_text_right.nd)
  (dss_cons (ds_set (i := 2) (dc (d__law_walked Z) hr (by decide) (pass_own (takes_of rfl rfl rfl rfl)) (da_cons (dv 1) da_nil) (lenA_cons lenA_nil)) sc__law_text_right.nd)
  (dss_cons (ds_set (i := 3) (de_and (de_cmp op_notN1 rel_notN (dv 2) de_non) (de_one (de_cmp op_leD rel_ord (de_ix (dv 2) de_int) de_int))) sc__law_text_right.nd)
  (dss_cons (ds_set (i := 4) (de_tup (da_cons (de_and (dv 3) (de_one (de_cmp (op_eqD hr.units) rel_eq (de_ix (dv 2) de_int) de_int))) (da_cons (de_and (dv 3) (de_one (de_cmp op_leD rel_ord (de_ix (dv 2) de_int) de_int))) (da_cons de_bl (da_cons de_bl da_nil))))) sc__law_text_right.nd)
  (dss_cons (ds_ret (de_cmp (op_eqD hr.units) rel_eq (de_callB1 (call_reprD hG hr.units) rel_repr Z.b_repr (by decide +kernel) (de_tup (da_cons (dc (d_is_stem Z) hr (by decide) (pass_own (takes_of rfl rfl rfl rfl)) (da_cons (dv 1) da_nil) (lenA_cons lenA_nil)) (da_cons (dc (d_is_name Z) hr (by decide) (pass_own (takes_of rfl rfl rfl rfl)) (da_cons (dv 1) da_nil) (lenA_cons lenA_nil)) (da_cons (dc (d_is_integer Z) hr (by decide) (pass_own (takes_of rfl rfl rfl rfl)) (da_cons (dv 1) da_nil) (lenA_cons lenA_nil)) (da_cons (dc (d_is_within Z) hr (by decide) (pass_own (takes_of rfl rfl rfl rfl)) (da_cons (dv 1) (da_cons de_non (da_cons de_non da_nil))) (lenA_cons (lenA_cons (lenA_cons lenA_nil)))) da_nil)))))) (de_callB1 (call_reprD hG hr.units) rel_repr Z.b_repr (by decide +kernel) (dv 4))))
  dss_nil)))))⟩
theorem sc__law_number_right : FnScope ["_law_pool_here", "_law_number", "_law_least", "_law_most", "_law_due"] ["_law_pool_here"] (defScope st__law_number_right) := ⟨rfl, rfl, rfl, by decide +kernel, rfl, by decide +kernel, by decide +kernel⟩
theorem d__law_number_right (Z : Facts K mg) : DefOkG P w K mg base "_law_number_right" 3 1 f__law_number_right := by
  obtain ⟨fd, F⟩ := Z.p__law_number_right
  exact defG_okF ["_law_pool_here", "_law_number", "_law_least", "_law_most", "_law_due"] s__law_number_right F Z.m__law_number_right sc__law_number_right rfl (fun _ _ _ _ _ _ us hl => match us, hl with | [_], _ => rfl) rfl fun cdv A outer s0 H E hG hr => ⟨_, (dss_cons (ds_set (i := 1) (de_bin op_mulD rel_mul (dc (d__law_of Z) hr (by decide) (pass_own (takes_of rfl rfl rfl rfl)) (da_cons (dv 0) (da_cons (de_lst (da_cons (de_neg de_int) (da_cons de_int da_nil))) da_nil)) (lenA_cons (lenA_cons lenA_nil))) (dc (d__law_ladle Z) hr (by decide) (pass_own (takes_of rfl rfl rfl rfl)) (da_cons (dv 0) (da_cons (dc (d__law_of Z) hr (by decide) (pass_own (takes_of rfl rfl rfl rfl)) (da_cons (dv 0) (da_cons (de_lst (da_cons de_int (da_cons de_int (da_cons (de_bin op_pow rel_pow de_int de_int) da_nil)))) da_nil)) (lenA_cons (lenA_cons lenA_nil))) da_nil)) (lenA_cons (lenA_cons lenA_nil)))) sc__law_number_right.nd)
  (dss_cons (ds_set (i := 2) (dc (d__law_of Z) hr (by decide) (pass_own (takes_of rfl rfl rfl rfl)) (da_cons (dv 0) (da_cons (de_lst (da_cons de_non (da_cons (de_bin op_sub rel_sub (dv 1) de_int) (da_cons (dv 1) (da_cons (de_bin op_addD rel_add (dv 1) de_int) (da_cons de_int da_nil)))))) da_nil)) (lenA_cons (lenA_cons lenA_nil))) sc__law_number_right.nd)
  (dss_cons (ds_set (i := 3) (dc (d__law_of Z) hr (by decide) (pass_own (takes_of rfl rfl rfl rfl)) (da_cons (dv 0) (da_cons (de_lst (da_cons de_non (da_cons (de_bin op_addD rel_add (dv 1) de_int) (da_cons (dv 1) (da_cons (de_bin op_sub rel_sub (dv 1) de_int) (da_cons de_int da_nil)))))) da_nil)) (lenA_cons (lenA_cons lenA_nil))) sc__law_number_right.nd)
  (dss_cons (ds_set (i := 4) (de_tup (da_cons de_bl (da_cons (de_and (de_or (de_cmp op_isN1 rel_isN (dv 2) de_non) (de_one (de_cmp op_leD rel_ord (dv 2) (dv 1)))) (de_one (de_or (de_cmp op_isN1 rel_isN (dv 3) de_non) (de_one (de_cmp op_leD rel_ord (dv 1) (dv 3)))))) (da_cons de_bl (da_cons de_bl da_nil))))) sc__law_number_right.nd)
  (dss_cons (ds_ret (de_cmp (op_eqD hr.units) rel_eq (de_callB1 (call_reprD hG hr.units) rel_repr Z.b_repr (by decide +kernel) (de_tup (da_cons (dc (d_is_integer Z) hr (by decide) (pass_own (takes_of rfl rfl rfl rfl)) (da_cons (dv 1) da_nil) (lenA_cons lenA_nil)) (da_cons (dc (d_is_within Z) hr (by decide) (pass_own (takes_of rfl rfl rfl rfl)) (da_cons (dv 1) (da_cons (dv 2) (da_cons (dv 3) da_nil))) (lenA_cons (lenA_cons (lenA_cons lenA_nil)))) (da_cons (dc (d_is_stem Z) hr (by decide) (pass_own (takes_of rfl rfl rfl rfl)) (da_cons (dv 1) da_nil) (lenA_cons lenA_nil)) (da_cons (dc (d_is_name Z) hr (by decide) (pass_own (takes_of rfl rfl rfl rfl)) (da_cons (dv 1) da_nil) (lenA_cons lenA_nil)) da_nil)))))) (de_callB1 (call_reprD hG hr.units) rel_repr Z.b_repr (by decide +kernel) (dv 4))))
  dss_nil)))))⟩
theorem sc__law_odd_right : FnScope ["_law_pool_here", "_law_odd", "_law_told"] ["_law_pool_here"] (defScope st__law_odd_right) := ⟨rfl, rfl, rfl, by decide +kernel, rfl, by decide +kernel, by decide +kernel⟩
theorem d__law_odd_right (Z : Facts K mg) : DefOkG P w K mg base "_law_odd_right" 3 1 f__law_odd_right := by
  obtain ⟨fd, F⟩ := Z.p__law_odd_right
  exact defG_okF ["_law_pool_here", "_law_odd", "_law_told"] s__law_odd_right F Z.m__law_odd_right sc__law_odd_right rfl (fun _ _ _ _ _ _ us hl => match us, hl with | [_], _ => rfl) rfl fun cdv A outer s0 H E hG hr => ⟨_, (dss_cons (ds_set (i := 1) (dc (d__law_of Z) hr (by decide) (pass_own (takes_of rfl rfl rfl rfl)) (da_cons (dv 0) (da_cons (de_lst (da_cons de_non (da_cons de_bl (da_cons de_bl (da_cons (de_lst da_nil) (da_cons (de_lst (da_cons de_str da_nil)) (da_cons (de_tup da_nil) (da_cons (de_tup (da_cons de_str da_nil)) (da_cons (de_tup (da_cons de_int da_nil)) (da_cons de_dct0 (da_cons (de_disp (dp_str de_int dp_nil)) (da_cons (de_lst (da_cons de_int da_nil)) (da_cons de_str (da_cons de_str da_nil)))))))))))))) da_nil)) (lenA_cons (lenA_cons lenA_nil))) sc__law_odd_right.nd)
  (dss_cons (ds_set (i := 2) (de_lst (da_cons (dc (d_is_integer Z) hr (by decide) (pass_own (takes_of rfl rfl rfl rfl)) (da_cons (dv 1) da_nil) (lenA_cons lenA_nil)) (da_cons (dc (d_is_within Z) hr (by decide) (pass_own (takes_of rfl rfl rfl rfl)) (da_cons (dv 1) (da_cons de_int (da_cons de_int da_nil))) (lenA_cons (lenA_cons (lenA_cons lenA_nil)))) (da_cons (dc (d_is_within Z) hr (by decide) (pass_own (takes_of rfl rfl rfl rfl)) (da_cons (dv 1) (da_cons de_non (da_cons de_non da_nil))) (lenA_cons (lenA_cons (lenA_cons lenA_nil)))) (da_cons (dc (d_is_stem Z) hr (by decide) (pass_own (takes_of rfl rfl rfl rfl)) (da_cons (dv 1) da_nil) (lenA_cons lenA_nil)) (da_cons (dc (d_is_name Z) hr (by decide) (pass_own (takes_of rfl rfl rfl rfl)) (da_cons (dv 1) da_nil) (lenA_cons lenA_nil)) da_nil)))))) sc__law_odd_right.nd)
  (dss_cons (ds_ret (de_cmp (op_eqD hr.units) rel_eq (de_callB1 (call_reprD hG hr.units) rel_repr Z.b_repr (by decide +kernel) (dv 2)) (de_callB1 (call_reprD hG hr.units) rel_repr Z.b_repr (by decide +kernel) (de_lst (da_cons de_bl (da_cons de_bl (da_cons de_bl (da_cons de_bl (da_cons de_bl da_nil)))))))))
  dss_nil)))⟩
theorem sc_joined_name : FnScope ["names", "made"] ["names"] (defScope st_joined_name) := ⟨rfl, rfl, rfl, by decide +kernel, rfl, by decide +kernel, by decide +kernel⟩
theorem d_joined_name (Z : Facts K mg) : DefOkN P w K mg base "joined_name" 3 f_joined_name := by
  obtain ⟨fd, F⟩ := Z.p_joined_name
  exact defN_okF ["names", "made"] s_joined_name F Z.m_joined_name sc_joined_name (fun _ _ _ _ _ _ rest => match rest with | [] => rfl | [_] => rfl | _ :: _ :: _ => rfl) rfl fun cdv A outer s0 H E hr => ⟨_, (dss_cons (ds_set (i := 1) (de_join de_str (de_callT1 call_list_of rel_list Z.b_list (by decide +kernel) (dv 0))) sc_joined_name.nd)
  (dss_cons (ds_if (dt_cmp op_gtD rel_ord (de_callB1 call_lenE rel_len Z.b_len (by decide +kernel) (de_split (dv 1) de_str)) (de_globI Z.c_MOST_STEMS)) (dss_cons (ds_raise (names := ["what", "most"]) Z.e_TooMany.T Z.e_TooMany.iC Z.e_TooMany.tI (i_TooMany Z).choose_spec.choose_spec (hr.mono (by decide)) (i_TooMany Z).choose_spec.choose Z.g_TooMany (takes_of rfl rfl rfl rfl) (da_cons de_str (da_cons (de_globI Z.c_MOST_STEMS) da_nil)) (by decide))
  dss_nil) dss_nil)
  (dss_cons (ds_ret (dv 1))
  dss_nil)))⟩
theorem sc__law_joined : FnScope ["_law_names"] ["_law_names"] (defScope st__law_joined) := ⟨rfl, rfl, rfl, by decide +kernel, rfl, by decide +kernel, by decide +kernel⟩
theorem d__law_joined (Z : Facts K mg) : DefOk P w K mg base "_law_joined" 4 1 f__law_joined := by
  obtain ⟨fd, F⟩ := Z.p__law_joined
  exact def_okF ["_law_names"] s__law_joined F Z.m__law_joined sc__law_joined rfl (fun _ _ _ _ _ _ us hl => match us, hl with | [_], _ => rfl) rfl fun cdv A outer s0 H E hr => ⟨_, (dss_cons (ds_if (dt_cmp (op_eqD hr.units) rel_eq (de_callB1 call_lenE rel_len Z.b_len (by decide +kernel) (dv 0)) de_int) (dss_cons (ds_ret (dcN (d_joined_name Z) hr (by decide) (pass_own (takes_of rfl rfl rfl rfl)) (da_cons (de_ix (dv 0) de_int) da_nil) (lenA_cons lenA_nil)))
  dss_nil) dss_nil)
  (dss_cons (ds_if (dt_cmp (op_eqD hr.units) rel_eq (de_callB1 call_lenE rel_len Z.b_len (by decide +kernel) (dv 0)) de_int) (dss_cons (ds_ret (dcN (d_joined_name Z) hr (by decide) (pass_own (takes_of rfl rfl rfl rfl)) (da_cons (de_ix (dv 0) de_int) (da_cons (de_ix (dv 0) de_int) da_nil)) (lenA_cons (lenA_cons lenA_nil))))
  dss_nil) dss_nil)
  (dss_cons (ds_if (dt_cmp (op_eqD hr.units) rel_eq (de_callB1 call_lenE rel_len Z.b_len (by decide +kernel) (dv 0)) de_int) (dss_cons (ds_ret (dcN (d_joined_name Z) hr (by decide) (pass_own (takes_of rfl rfl rfl rfl)) (da_cons (de_ix (dv 0) de_int) (da_cons (de_ix (dv 0) de_int) (da_cons (de_ix (dv 0) de_int) da_nil))) (lenA_cons (lenA_cons (lenA_cons lenA_nil)))))
  dss_nil) dss_nil)
  (dss_cons (ds_ret (dcN (d_joined_name Z) hr (by decide) (pass_own (takes_of rfl rfl rfl rfl)) (da_cons (de_ix (dv 0) de_int) (da_cons (de_ix (dv 0) de_int) (da_cons (de_ix (dv 0) de_int) (da_cons (de_ix (dv 0) de_int) da_nil)))) (lenA_cons (lenA_cons (lenA_cons (lenA_cons lenA_nil))))))
  dss_nil))))⟩
theorem sc__law_joined_right : FnScope ["_law_pool_here", "_law_turn", "error", "_law_stems", "_law_names", "_law_some", "_law_made", "_law_found", "_law_at"] ["_law_pool_here"] (defScope st__law_joined_right) := ⟨rfl, rfl, rfl, by decide +kernel, rfl, by decide +kernel, by decide +kernel⟩
theorem d__law_joined_right (Z : Facts K mg) : DefOkG P w K mg base "_law_joined_right" 5 1 f__law_joined_right := by
  obtain ⟨fd, F⟩ := Z.p__law_joined_right
  exact defG_okF ["_law_pool_here", "_law_turn", "error", "_law_stems", "_law_names", "_law_some", "_law_made", "_law_found", "_law_at"] s__law_joined_right F Z.m__law_joined_right sc__law_joined_right rfl (fun _ _ _ _ _ _ us hl => match us, hl with | [_], _ => rfl) rfl fun cdv A outer s0 H E hG hr => ⟨_, (dss_cons (ds_parO (i := 3) (j := 4) sc__law_joined_right.nd (deo (de_lst da_nil)) (deo_lst da_nil))
  (dss_cons (ds_for (passes_of rfl) (di_range1 Z.b_range (da_cons (de_bin op_addD rel_add de_int (dc (d__law_ladle Z) hr (by decide) (pass_own (takes_of rfl rfl rfl rfl)) (da_cons (dv 0) (da_cons de_int da_nil)) (lenA_cons (lenA_cons lenA_nil)))) da_nil)) (dg_name (i := 1) sc__law_joined_right.nd) (dss_cons (ds_setLc0 (i := 5) (own := [("_law_at", 8)]) s0 H sc__law_joined_right.nd (di_range1 Z.b_range (da_cons (dc (d__law_of Z) hr (by decide) (pass_own (takes_of rfl rfl rfl rfl)) (da_cons (dv 0) (da_cons (de_lst (da_cons de_int (da_cons de_int (da_cons de_int (da_cons de_int da_nil))))) da_nil)) (lenA_cons (lenA_cons lenA_nil))) da_nil)) (blkOk_by (N := ["_law_pool_here", "_law_turn", "error", "_law_stems", "_law_names", "_law_some", "_law_made", "_law_found", "_law_at"]) (sc := defScope st__law_joined_right) (own := [("_law_at", 8)]) (by decide +kernel)) (fun _ _ _ _ _ => dg_name (i := 8) sc__law_joined_right.nd) dts_nil (dc (d__law_stem Z) hr (by decide) passL (da_cons (dv 0) (da_cons de_int da_nil)) (lenA_cons (lenA_cons lenA_nil))) (fun _ _ _ _ _ => dts_nil) (fun _ _ _ _ _ => (dc (d__law_stem Z) hr (by decide) passL (da_cons (dv 0) (da_cons de_int da_nil)) (lenA_cons (lenA_cons lenA_nil)))) wipe_name (sw_true rfl rfl rfl (by decide +kernel)))
  (dss_cons (ds_set (i := 3) (de_bin op_addD rel_add (dv 3) (dv 5)) sc__law_joined_right.nd)
  (dss_cons (ds_app 4 (de_join de_str (dv 5)))
  dss_nil))))
  (dss_cons (ds_asg (de_tup (da_cons de_str (da_cons (de_tup da_nil) da_nil))) (dg_tup (dgs_cons (dg_name (i := 6) sc__law_joined_right.nd) (dgs_cons (dg_name (i := 7) sc__law_joined_right.nd) dgs_nil))))
  (dss_cons (ds_frz 4 (ds_tryAs (i := 2) (j := 6) (l := 7) (d__law_joined Z) hr (by decide) rfl rfl sc__law_joined_right.nd (takes_of rfl rfl rfl rfl) Z.g_TooMany Z.e_TooMany.me (fun _ _ => (da_cons (dv 4) da_nil)) (lenA_cons lenA_nil) (dxa_cons (dx_field Z.e_TooMany.xf (Z.e_TooMany.no _ (by decide))) (dxa_cons (dx_field Z.e_TooMany.xf (Z.e_TooMany.no _ (by decide))) (dxa_cons (dx_isi (b := true) Z.e_TooMany.kit Z.k_TooMany_SayError Z.b_isinstance Z.g_SayError) dxa_nil)))))
  (dss_cons (ds_if (dt_cmp op_gtD rel_ord (de_callB1 call_lenE rel_len Z.b_len (by decide +kernel) (dv 3)) de_int) (dss_cons (ds_ret (de_and (de_cmp (op_eqD hr.units) rel_eq (de_callB1 (call_reprD hG hr.units) rel_repr Z.b_repr (by decide +kernel) (dv 7)) (de_callB1 (call_reprD hG hr.units) rel_repr Z.b_repr (by decide +kernel) (de_tup (da_cons de_str (da_cons de_int (da_cons de_bl da_nil)))))) (de_one (de_cmp (op_eqD hr.units) rel_eq (dv 6) de_str))))
  dss_nil) dss_nil)
  (dss_cons (ds_ret (de_and (de_cmp (op_eqD hr.units) rel_eq (dv 7) (de_tup da_nil)) (de_and (de_isi "str" Z.b_isinstance Z.b_str (by decide +kernel) (dv 6)) (de_and (de_cmp (op_eqD hr.units) rel_eq (de_split (dv 6) de_str) (dv 3)) (de_one (de_cmp op_isBl rel_isB (dc (d_is_name Z) hr (by decide) (pass_own (takes_of rfl rfl rfl rfl)) (da_cons (dv 6) da_nil) (lenA_cons lenA_nil)) de_bl))))))
  dss_nil))))))⟩
theorem sc_law : FnScope ["_law_script", "_law_pool_here", "_law_turn"] ["_law_script"] (defScope st_law) := ⟨rfl, rfl, rfl, by decide +kernel, rfl, by decide +kernel, by decide +kernel⟩
theorem d_law {fd : FuncData} (F : FnP K "law" st_law (He.ga K "law") fd) (Z : Facts K mg) : GOk P w K mg base 6 (He.ga K "law") fd ["_law_script"] (Spec K 1 f_law) :=
  defG_raw ["_law_script", "_law_pool_here", "_law_turn"] s_law F sc_law rfl rfl fun cdv A outer s0 H E hG hr => ⟨_, (dss_cons (ds_set (i := 1) (dc (d__law_pool Z) hr (by decide) (pass_own (takes_of rfl rfl rfl rfl)) (da_cons (dv 0) da_nil) (lenA_cons lenA_nil)) sc_law.nd)
  (dss_cons (ds_for (passes_of rfl) (di_range1 Z.b_range (da_cons de_int da_nil)) (dg_name (i := 2) sc_law.nd) (dss_cons (ds_if (dw_or (dt_not (dt_tru (dcG (d__law_text_right Z) hG hr (by decide) (pass_own (takes_of rfl rfl rfl rfl)) (da_cons (dv 1) da_nil) (lenA_cons lenA_nil)))) (dw_or1 (dt_not (dt_tru (dcG (d__law_number_right Z) hG hr (by decide) (pass_own (takes_of rfl rfl rfl rfl)) (da_cons (dv 1) da_nil) (lenA_cons lenA_nil)))))).dt (dss_cons (ds_ret de_bl)
  dss_nil) dss_nil)
  (dss_cons (ds_if (dw_or (dt_not (dt_tru (dcG (d__law_odd_right Z) hG hr (by decide) (pass_own (takes_of rfl rfl rfl rfl)) (da_cons (dv 1) da_nil) (lenA_cons lenA_nil)))) (dw_or1 (dt_not (dt_tru (dcG (d__law_joined_right Z) hG hr (by decide) (pass_own (takes_of rfl rfl rfl rfl)) (da_cons (dv 1) da_nil) (lenA_cons lenA_nil)))))).dt (dss_cons (ds_ret de_bl)
  dss_nil) dss_nil)
  dss_nil)))
  (dss_cons (ds_ret de_bl)
  dss_nil)))⟩
end
/-! ### the head -/
def dd__law_pool : He.DefD := ⟨("_law_pool", none), "_law_pool", "_law_pool", defArgs st__law_pool, defBody st__law_pool, defScope st__law_pool, [], []⟩
def dd__law_ladle : He.DefD := ⟨("_law_ladle", none), "_law_ladle", "_law_ladle", defArgs st__law_ladle, defBody st__law_ladle, defScope st__law_ladle, [], []⟩
def dd__law_of : He.DefD := ⟨("_law_of", none), "_law_of", "_law_of", defArgs st__law_of, defBody st__law_of, defScope st__law_of, [], []⟩
def dd__law_bent : He.DefD := ⟨("_law_bent", none), "_law_bent", "_law_bent", defArgs st__law_bent, defBody st__law_bent, defScope st__law_bent, [], []⟩
def dd__law_walked : He.DefD := ⟨("_law_walked", none), "_law_walked", "_law_walked", defArgs st__law_walked, defBody st__law_walked, defScope st__law_walked, [], []⟩
def dd__law_stem : He.DefD := ⟨("_law_stem", none), "_law_stem", "_law_stem", defArgs st__law_stem, defBody st__law_stem, defScope st__law_stem, [], []⟩
def dd_is_stem : He.DefD := ⟨("is_stem", none), "is_stem", "is_stem", defArgs st_is_stem, defBody st_is_stem, defScope st_is_stem, [], []⟩
def dd_is_name : He.DefD := ⟨("is_name", none), "is_name", "is_name", defArgs st_is_name, defBody st_is_name, defScope st_is_name, [], []⟩
def dd_is_integer : He.DefD := ⟨("is_integer", none), "is_integer", "is_integer", defArgs st_is_integer, defBody st_is_integer, defScope st_is_integer, [], []⟩
def dd_is_within : He.DefD := ⟨("is_within", none), "is_within", "is_within", defArgs st_is_within, defBody st_is_within, defScope st_is_within, [], []⟩
def dd__law_text_right : He.DefD := ⟨("_law_text_right", none), "_law_text_right", "_law_text_right", defArgs st__law_text_right, defBody st__law_text_right, defScope st__law_text_right, [], []⟩
def dd__law_number_right : He.DefD := ⟨("_law_number_right", none), "_law_number_right", "_law_number_right", defArgs st__law_number_right, defBody st__law_number_right, defScope st__law_number_right, [], []⟩
def dd__law_odd_right : He.DefD := ⟨("_law_odd_right", none), "_law_odd_right", "_law_odd_right", defArgs st__law_odd_right, defBody st__law_odd_right, defScope st__law_odd_right, [], []⟩
def dd_joined_name : He.DefD := ⟨("joined_name", none), "joined_name", "joined_name", defArgs st_joined_name, defBody st_joined_name, defScope st_joined_name, [], []⟩
def dd__law_joined : He.DefD := ⟨("_law_joined", none), "_law_joined", "_law_joined", defArgs st__law_joined, defBody st__law_joined, defScope st__law_joined, [], []⟩
def dd__law_joined_right : He.DefD := ⟨("_law_joined_right", none), "_law_joined_right", "_law_joined_right", defArgs st__law_joined_right, defBody st__law_joined_right, defScope st__law_joined_right, [], []⟩
def dd_law : He.DefD := ⟨("law", none), "law", "law", defArgs st_law, defBody st_law, defScope st_law, [], []⟩
def di_TooMany : He.DefD := ⟨("TooMany", some "__init__"), "__init__", "TooMany.__init__", defArgs si_TooMany, defBody si_TooMany, defScope si_TooMany, [], []⟩
def fn : List He.DefD := [dd__law_pool, dd__law_ladle, dd__law_of, dd__law_bent, dd__law_walked, dd__law_stem, dd_is_stem, dd_is_name, dd_is_integer, dd_is_within, dd__law_text_right, dd__law_number_right, dd__law_odd_right, dd_joined_name, dd__law_joined, dd__law_joined_right, dd_law, di_TooMany]
def fa : List He.Fa := [.free "abs", .free "bool", .free "int", .free "isinstance", .free "len", .free "list", .free "max", .free "range", .free "repr", .free "str", .str "DIGITS" "0123456789", .int "MOST_SIGNS" 12, .int "MOST_STEMS" 6, .str "SMALL" "abcdefghijklmnopqrstuvwxyz", .glo "SayError", .glo "TooMany", .glo "_law_pool", .glo "_law_ladle", .glo "_law_of", .glo "_law_bent", .glo "_law_walked", .glo "_law_stem", .glo "is_stem", .glo "is_name", .glo "is_integer", .glo "is_within", .glo "_law_text_right", .glo "_law_number_right", .glo "_law_odd_right", .glo "joined_name", .glo "_law_joined", .glo "_law_joined_right", .glo "law"]
def ex (K : PySem.W.Frag) : Bool := [excB K "TooMany" ["what", "most"], kitB2 K "TooMany" "SayError" true].all id
abbrev Rw : PySem.W.OpenRow := PySem.W.OpenLaw.row PySem.Challenge.rw_sayable_k01_names_taken_apart
abbrev hk : PySem.W.Hook := He.hookX 4 fa fn [] [] ex
def ob (s : PySem.W.SharedT) : He.AlX := He.obsX 4 fa fn [] [] ex (HandSHeadRun.getT s)
theorem ob_eq (s : PySem.W.SharedT) : ob s = hk.obs s.abs := He.obsX_eq (HandSHeadRun.getT_eq s)
theorem facts {K : PySem.W.Frag} {h : Heap} {mg : Str → Option Value} {w : World} (X : K.In h) (G : h.Ns mainGlobals mg) (c : He.SaysX fa fn [] [] ex w h K) : Facts K mg := by
  have d := c.t.d
  have q := c.more
  simp only [ex, List.all_cons, List.all_nil, id, Bool.and_eq_true] at q
  exact ⟨He.free_ok X G (d.fact 0 rfl), He.free_ok X G (d.fact 1 rfl), He.free_ok X G (d.fact 2 rfl), He.free_ok X G (d.fact 3 rfl), He.free_ok X G (d.fact 4 rfl), He.free_ok X G (d.fact 5 rfl), He.free_ok X G (d.fact 6 rfl), He.free_ok X G (d.fact 7 rfl), He.free_ok X G (d.fact 8 rfl), He.free_ok X G (d.fact 9 rfl), He.str_ok X G (d.fact 10 rfl), He.int_ok X G (d.fact 11 rfl), He.int_ok X G (d.fact 12 rfl), He.str_ok X G (d.fact 13 rfl), He.glo_ok X G (d.fact 14 rfl), He.glo_ok X G (d.fact 15 rfl), excB_ok q.1, kitB2_ok q.2.1, d.def_ 17 (d := di_TooMany) rfl, d.def_ 0 (d := dd__law_pool) rfl, d.def_ 1 (d := dd__law_ladle) rfl, d.def_ 2 (d := dd__law_of) rfl, d.def_ 3 (d := dd__law_bent) rfl, d.def_ 4 (d := dd__law_walked) rfl, d.def_ 5 (d := dd__law_stem) rfl, d.def_ 6 (d := dd_is_stem) rfl, d.def_ 7 (d := dd_is_name) rfl, d.def_ 8 (d := dd_is_integer) rfl, d.def_ 9 (d := dd_is_within) rfl, d.def_ 10 (d := dd__law_text_right) rfl, d.def_ 11 (d := dd__law_number_right) rfl, d.def_ 12 (d := dd__law_odd_right) rfl, d.def_ 13 (d := dd_joined_name) rfl, d.def_ 14 (d := dd__law_joined) rfl, d.def_ 15 (d := dd__law_joined_right) rfl, d.def_ 16 (d := dd_law) rfl, He.glo_ok X G (d.fact 16 rfl), He.glo_ok X G (d.fact 17 rfl), He.glo_ok X G (d.fact 18 rfl), He.glo_ok X G (d.fact 19 rfl), He.glo_ok X G (d.fact 20 rfl), He.glo_ok X G (d.fact 21 rfl), He.glo_ok X G (d.fact 22 rfl), He.glo_ok X G (d.fact 23 rfl), He.glo_ok X G (d.fact 24 rfl), He.glo_ok X G (d.fact 25 rfl), He.glo_ok X G (d.fact 26 rfl), He.glo_ok X G (d.fact 27 rfl), He.glo_ok X G (d.fact 28 rfl), He.glo_ok X G (d.fact 29 rfl), He.glo_ok X G (d.fact 30 rfl), He.glo_ok X G (d.fact 31 rfl), He.glo_ok X G (d.fact 32 rfl)⟩
def names : List Str := (["SayError", "TooMany", "MOST_STEMS", "MOST_SIGNS", "SMALL", "DIGITS", "is_integer", "is_within", "is_stem", "is_name", "joined_name", "_law_pool", "_law_ladle", "_law_of", "_law_stem", "_law_bent", "_law_walked", "_law_text_right", "_law_number_right", "_law_odd_right", "_law_joined", "_law_joined_right"] : List Str)
abbrev qv : Program := PySem.W.view Rw.prog [25]
end K01

/-! k01: the plain law. -/
namespace K01
open PySem DL JM
theorem nums : Nums 36787 2113 2147483549 2147483647 50101 := by constructor <;> decide
theorem ladle_eq : f__law_ladle = runD 6 (drawS 36787 2113 2147483549 2147483647 50101) := rfl
theorem ladle_ok {k : Nat} {w : W} {m : Int} (J : Jar k w) (hk : k < 1048576) (h1 : 0 < m) (hm : m.natAbs.log2 < 9000) : ∃ i w', f__law_ladle [.ptr 0, .int m] w = .ok (.int i) w' ∧ 0 ≤ i ∧ i < m ∧ Jar (k + 1) w' := by
  rw [ladle_eq]
  exact draw_ok nums J hk h1 hm
theorem log_lt {i : Int} (h0 : 0 ≤ i) (h : i < 1152921504606846976) : i.natAbs.log2 < 9000 := by
  have := log_le (k := 60) h0 (by omega)
  omega
theorem of_lst {k : Nat} {w : W} {xs : List D} (J : Jar k w) (hk : k < 1048576) (h0 : 0 < xs.length) (hm : xs.length < 1152921504606846976) : ∃ (i : Nat) (h : i < xs.length) (w' : W), f__law_of [.ptr 0, .lst xs] w = .ok xs[i] w' ∧ Jar (k + 1) w' := by
  obtain ⟨i, w', e, i0, i1, J'⟩ := ladle_ok (m := (xs.length : Nat)) J hk (by omega) (log_lt (by omega) (by omega))
  refine ⟨i.toNat, by omega, w', ?_, J'⟩
  have l : lenD (.lst xs) = some (.int (xs.length : Nat)) := rfl
  have q := ixD_lst i0 i1
  have st : startD 2 [.ptr 0, .lst xs] = [.dat (.ptr 0), .dat (.lst xs)] := rfl
  simp only [f__law_of, runD, s__law_of, st, seqS, retS, bin, var, callE, consA, nilA, un, op1, op2, R.bind, R.out, Val.d, List.getElem?_cons_succ, List.getElem?_cons_zero, l, e, q]
theorem of_str {k : Nat} {w : W} {x : Str} (J : Jar k w) (hk : k < 1048576) (h0 : 0 < (tl x).length) (hm : x.length ≤ most) : ∃ (c : Nat) (w' : W), c ∈ tl x ∧ f__law_of [.ptr 0, .str x] w = .ok (.str (one c)) w' ∧ Jar (k + 1) w' := by
  have hl : (tl x).length ≤ 16777216 := by rw [← JM.len_tl]; exact hm
  obtain ⟨i, w', e, i0, i1, J'⟩ := ladle_ok (m := ((tl x).length : Nat)) J hk (by omega) (log_lt (by omega) (by omega))
  have hi : i.toNat < (tl x).length := by omega
  refine ⟨(tl x)[i.toNat], w', List.getElem_mem hi, ?_, J'⟩
  have l := len_int x hm
  have q := ix_str hm i0 i1
  have st : startD 2 [.ptr 0, .str x] = [.dat (.ptr 0), .dat (.str x)] := rfl
  simp only [f__law_of, runD, s__law_of, st, seqS, retS, bin, var, callE, consA, nilA, un, op1, op2, R.bind, R.out, Val.d, List.getElem?_cons_succ, List.getElem?_cons_zero, l, e, q]
/-! ### the checks -/
theorem integer_int (i : Int) (w : W) : f_is_integer [.int i] w = .ok (.bl true) w := by
  simp only [f_is_integer, runD, s_is_integer, show startD 1 [.int i] = [.dat (.int i)] from rfl, seqS, retS, andE, notE, asB, un, op1, var, Val.d, isiD, D.ty, R.bind, R.out, nextS, List.getElem?_cons_zero, Option.bind_some, Option.map_some, k_NoneType_int, k_NoneType_bool, k_bool_int, k_bool_bool, k_int_int, k_int_bool, k_str_int, k_str_bool, k_list_int, k_list_bool, k_tuple_int, k_tuple_bool, k_dict_int, k_dict_bool, if_true, Bool.false_eq_true, if_false, Bool.not_true, Bool.not_false]
theorem integer_non (w : W) : f_is_integer [.non] w = .ok (.bl false) w := by
  simp only [f_is_integer, runD, s_is_integer, show startD 1 [.non] = [.dat (.non)] from rfl, seqS, retS, andE, notE, asB, un, op1, var, Val.d, isiD, D.ty, R.bind, R.out, nextS, List.getElem?_cons_zero, Option.bind_some, Option.map_some, k_NoneType_int, k_NoneType_bool, k_bool_int, k_bool_bool, k_int_int, k_int_bool, k_str_int, k_str_bool, k_list_int, k_list_bool, k_tuple_int, k_tuple_bool, k_dict_int, k_dict_bool, if_true, Bool.false_eq_true, if_false, Bool.not_true, Bool.not_false]
theorem integer_bl (b : Bool) (w : W) : f_is_integer [.bl b] w = .ok (.bl false) w := by
  simp only [f_is_integer, runD, s_is_integer, show startD 1 [.bl b] = [.dat (.bl b)] from rfl, seqS, retS, andE, notE, asB, un, op1, var, Val.d, isiD, D.ty, R.bind, R.out, nextS, List.getElem?_cons_zero, Option.bind_some, Option.map_some, k_NoneType_int, k_NoneType_bool, k_bool_int, k_bool_bool, k_int_int, k_int_bool, k_str_int, k_str_bool, k_list_int, k_list_bool, k_tuple_int, k_tuple_bool, k_dict_int, k_dict_bool, if_true, Bool.false_eq_true, if_false, Bool.not_true, Bool.not_false]
theorem integer_str (x : Str) (w : W) : f_is_integer [.str x] w = .ok (.bl false) w := by
  simp only [f_is_integer, runD, s_is_integer, show startD 1 [.str x] = [.dat (.str x)] from rfl, seqS, retS, andE, notE, asB, un, op1, var, Val.d, isiD, D.ty, R.bind, R.out, nextS, List.getElem?_cons_zero, Option.bind_some, Option.map_some, k_NoneType_int, k_NoneType_bool, k_bool_int, k_bool_bool, k_int_int, k_int_bool, k_str_int, k_str_bool, k_list_int, k_list_bool, k_tuple_int, k_tuple_bool, k_dict_int, k_dict_bool, if_true, Bool.false_eq_true, if_false, Bool.not_true, Bool.not_false]
theorem integer_lst (xs : List D) (w : W) : f_is_integer [.lst xs] w = .ok (.bl false) w := by
  simp only [f_is_integer, runD, s_is_integer, show startD 1 [.lst xs] = [.dat (.lst xs)] from rfl, seqS, retS, andE, notE, asB, un, op1, var, Val.d, isiD, D.ty, R.bind, R.out, nextS, List.getElem?_cons_zero, Option.bind_some, Option.map_some, k_NoneType_int, k_NoneType_bool, k_bool_int, k_bool_bool, k_int_int, k_int_bool, k_str_int, k_str_bool, k_list_int, k_list_bool, k_tuple_int, k_tuple_bool, k_dict_int, k_dict_bool, if_true, Bool.false_eq_true, if_false, Bool.not_true, Bool.not_false]
theorem integer_tup (xs : List D) (w : W) : f_is_integer [.tup xs] w = .ok (.bl false) w := by
  simp only [f_is_integer, runD, s_is_integer, show startD 1 [.tup xs] = [.dat (.tup xs)] from rfl, seqS, retS, andE, notE, asB, un, op1, var, Val.d, isiD, D.ty, R.bind, R.out, nextS, List.getElem?_cons_zero, Option.bind_some, Option.map_some, k_NoneType_int, k_NoneType_bool, k_bool_int, k_bool_bool, k_int_int, k_int_bool, k_str_int, k_str_bool, k_list_int, k_list_bool, k_tuple_int, k_tuple_bool, k_dict_int, k_dict_bool, if_true, Bool.false_eq_true, if_false, Bool.not_true, Bool.not_false]
theorem integer_dct (xs : List (L2.Key × D)) (w : W) : f_is_integer [.dct xs] w = .ok (.bl false) w := by
  simp only [f_is_integer, runD, s_is_integer, show startD 1 [.dct xs] = [.dat (.dct xs)] from rfl, seqS, retS, andE, notE, asB, un, op1, var, Val.d, isiD, D.ty, R.bind, R.out, nextS, List.getElem?_cons_zero, Option.bind_some, Option.map_some, k_NoneType_int, k_NoneType_bool, k_bool_int, k_bool_bool, k_int_int, k_int_bool, k_str_int, k_str_bool, k_list_int, k_list_bool, k_tuple_int, k_tuple_bool, k_dict_int, k_dict_bool, if_true, Bool.false_eq_true, if_false, Bool.not_true, Bool.not_false]
theorem stem_int (i : Int) (w : W) : f_is_stem [.int i] w = .ok (.bl false) w := by
  simp only [f_is_stem, runD, s_is_stem, show startD 2 [.int i] = [.dat (.int i), .non] from rfl, seqS, ifS, retS, orT, notT, truE, truD, un, op1, var, cst, Val.d, isiD, D.ty, R.bind, R.out, List.getElem?_cons_zero, Option.bind_some, Option.map_some, k_NoneType_str, k_bool_str, k_int_str, k_str_str, k_list_str, k_tuple_str, k_dict_str, if_true, Bool.not_false]
theorem name_int (i : Int) (w : W) : f_is_name [.int i] w = .ok (.bl false) w := by
  simp only [f_is_name, runD, s_is_name, show startD 3 [.int i] = [.dat (.int i), .non, .non] from rfl, seqS, ifS, retS, orT, notT, truE, truD, un, op1, var, cst, Val.d, isiD, D.ty, R.bind, R.out, List.getElem?_cons_zero, Option.bind_some, Option.map_some, k_NoneType_str, k_bool_str, k_int_str, k_str_str, k_list_str, k_tuple_str, k_dict_str, if_true, Bool.not_false]
theorem stem_non (w : W) : f_is_stem [.non] w = .ok (.bl false) w := by
  simp only [f_is_stem, runD, s_is_stem, show startD 2 [.non] = [.dat (.non), .non] from rfl, seqS, ifS, retS, orT, notT, truE, truD, un, op1, var, cst, Val.d, isiD, D.ty, R.bind, R.out, List.getElem?_cons_zero, Option.bind_some, Option.map_some, k_NoneType_str, k_bool_str, k_int_str, k_str_str, k_list_str, k_tuple_str, k_dict_str, if_true, Bool.not_false]
theorem name_non (w : W) : f_is_name [.non] w = .ok (.bl false) w := by
  simp only [f_is_name, runD, s_is_name, show startD 3 [.non] = [.dat (.non), .non, .non] from rfl, seqS, ifS, retS, orT, notT, truE, truD, un, op1, var, cst, Val.d, isiD, D.ty, R.bind, R.out, List.getElem?_cons_zero, Option.bind_some, Option.map_some, k_NoneType_str, k_bool_str, k_int_str, k_str_str, k_list_str, k_tuple_str, k_dict_str, if_true, Bool.not_false]
theorem stem_bl (b : Bool) (w : W) : f_is_stem [.bl b] w = .ok (.bl false) w := by
  simp only [f_is_stem, runD, s_is_stem, show startD 2 [.bl b] = [.dat (.bl b), .non] from rfl, seqS, ifS, retS, orT, notT, truE, truD, un, op1, var, cst, Val.d, isiD, D.ty, R.bind, R.out, List.getElem?_cons_zero, Option.bind_some, Option.map_some, k_NoneType_str, k_bool_str, k_int_str, k_str_str, k_list_str, k_tuple_str, k_dict_str, if_true, Bool.not_false]
theorem name_bl (b : Bool) (w : W) : f_is_name [.bl b] w = .ok (.bl false) w := by
  simp only [f_is_name, runD, s_is_name, show startD 3 [.bl b] = [.dat (.bl b), .non, .non] from rfl, seqS, ifS, retS, orT, notT, truE, truD, un, op1, var, cst, Val.d, isiD, D.ty, R.bind, R.out, List.getElem?_cons_zero, Option.bind_some, Option.map_some, k_NoneType_str, k_bool_str, k_int_str, k_str_str, k_list_str, k_tuple_str, k_dict_str, if_true, Bool.not_false]
theorem stem_lst (xs : List D) (w : W) : f_is_stem [.lst xs] w = .ok (.bl false) w := by
  simp only [f_is_stem, runD, s_is_stem, show startD 2 [.lst xs] = [.dat (.lst xs), .non] from rfl, seqS, ifS, retS, orT, notT, truE, truD, un, op1, var, cst, Val.d, isiD, D.ty, R.bind, R.out, List.getElem?_cons_zero, Option.bind_some, Option.map_some, k_NoneType_str, k_bool_str, k_int_str, k_str_str, k_list_str, k_tuple_str, k_dict_str, if_true, Bool.not_false]
theorem name_lst (xs : List D) (w : W) : f_is_name [.lst xs] w = .ok (.bl false) w := by
  simp only [f_is_name, runD, s_is_name, show startD 3 [.lst xs] = [.dat (.lst xs), .non, .non] from rfl, seqS, ifS, retS, orT, notT, truE, truD, un, op1, var, cst, Val.d, isiD, D.ty, R.bind, R.out, List.getElem?_cons_zero, Option.bind_some, Option.map_some, k_NoneType_str, k_bool_str, k_int_str, k_str_str, k_list_str, k_tuple_str, k_dict_str, if_true, Bool.not_false]
theorem stem_tup (xs : List D) (w : W) : f_is_stem [.tup xs] w = .ok (.bl false) w := by
  simp only [f_is_stem, runD, s_is_stem, show startD 2 [.tup xs] = [.dat (.tup xs), .non] from rfl, seqS, ifS, retS, orT, notT, truE, truD, un, op1, var, cst, Val.d, isiD, D.ty, R.bind, R.out, List.getElem?_cons_zero, Option.bind_some, Option.map_some, k_NoneType_str, k_bool_str, k_int_str, k_str_str, k_list_str, k_tuple_str, k_dict_str, if_true, Bool.not_false]
theorem name_tup (xs : List D) (w : W) : f_is_name [.tup xs] w = .ok (.bl false) w := by
  simp only [f_is_name, runD, s_is_name, show startD 3 [.tup xs] = [.dat (.tup xs), .non, .non] from rfl, seqS, ifS, retS, orT, notT, truE, truD, un, op1, var, cst, Val.d, isiD, D.ty, R.bind, R.out, List.getElem?_cons_zero, Option.bind_some, Option.map_some, k_NoneType_str, k_bool_str, k_int_str, k_str_str, k_list_str, k_tuple_str, k_dict_str, if_true, Bool.not_false]
theorem stem_dct (xs : List (L2.Key × D)) (w : W) : f_is_stem [.dct xs] w = .ok (.bl false) w := by
  simp only [f_is_stem, runD, s_is_stem, show startD 2 [.dct xs] = [.dat (.dct xs), .non] from rfl, seqS, ifS, retS, orT, notT, truE, truD, un, op1, var, cst, Val.d, isiD, D.ty, R.bind, R.out, List.getElem?_cons_zero, Option.bind_some, Option.map_some, k_NoneType_str, k_bool_str, k_int_str, k_str_str, k_list_str, k_tuple_str, k_dict_str, if_true, Bool.not_false]
theorem name_dct (xs : List (L2.Key × D)) (w : W) : f_is_name [.dct xs] w = .ok (.bl false) w := by
  simp only [f_is_name, runD, s_is_name, show startD 3 [.dct xs] = [.dat (.dct xs), .non, .non] from rfl, seqS, ifS, retS, orT, notT, truE, truD, un, op1, var, cst, Val.d, isiD, D.ty, R.bind, R.out, List.getElem?_cons_zero, Option.bind_some, Option.map_some, k_NoneType_str, k_bool_str, k_int_str, k_str_str, k_list_str, k_tuple_str, k_dict_str, if_true, Bool.not_false]
theorem within_non (a b : D) (w : W) : f_is_within [.non, a, b] w = .ok (.bl false) w := by
  simp only [f_is_within, runD, s_is_within, show startD 3 [.non, a, b] = [.dat (.non), .dat a, .dat b] from rfl, seqS, ifS, retS, notT, truE, truD, callE, consA, nilA, var, cst, Val.d, integer_non, R.bind, R.out, List.getElem?_cons_zero, if_true, Bool.not_false]
theorem within_bl (z : Bool) (a b : D) (w : W) : f_is_within [.bl z, a, b] w = .ok (.bl false) w := by
  simp only [f_is_within, runD, s_is_within, show startD 3 [.bl z, a, b] = [.dat (.bl z), .dat a, .dat b] from rfl, seqS, ifS, retS, notT, truE, truD, callE, consA, nilA, var, cst, Val.d, integer_bl, R.bind, R.out, List.getElem?_cons_zero, if_true, Bool.not_false]
theorem within_lst (xs : List D) (a b : D) (w : W) : f_is_within [.lst xs, a, b] w = .ok (.bl false) w := by
  simp only [f_is_within, runD, s_is_within, show startD 3 [.lst xs, a, b] = [.dat (.lst xs), .dat a, .dat b] from rfl, seqS, ifS, retS, notT, truE, truD, callE, consA, nilA, var, cst, Val.d, integer_lst, R.bind, R.out, List.getElem?_cons_zero, if_true, Bool.not_false]
theorem within_tup (xs : List D) (a b : D) (w : W) : f_is_within [.tup xs, a, b] w = .ok (.bl false) w := by
  simp only [f_is_within, runD, s_is_within, show startD 3 [.tup xs, a, b] = [.dat (.tup xs), .dat a, .dat b] from rfl, seqS, ifS, retS, notT, truE, truD, callE, consA, nilA, var, cst, Val.d, integer_tup, R.bind, R.out, List.getElem?_cons_zero, if_true, Bool.not_false]
theorem within_dct (xs : List (L2.Key × D)) (a b : D) (w : W) : f_is_within [.dct xs, a, b] w = .ok (.bl false) w := by
  simp only [f_is_within, runD, s_is_within, show startD 3 [.dct xs, a, b] = [.dat (.dct xs), .dat a, .dat b] from rfl, seqS, ifS, retS, notT, truE, truD, callE, consA, nilA, var, cst, Val.d, integer_dct, R.bind, R.out, List.getElem?_cons_zero, if_true, Bool.not_false]
theorem within_str (x : Str) (a b : D) (w : W) : f_is_within [.str x, a, b] w = .ok (.bl false) w := by
  simp only [f_is_within, runD, s_is_within, show startD 3 [.str x, a, b] = [.dat (.str x), .dat a, .dat b] from rfl, seqS, ifS, retS, notT, truE, truD, callE, consA, nilA, var, cst, Val.d, integer_str, R.bind, R.out, List.getElem?_cons_zero, if_true, Bool.not_false]
def leastB : D → Int → Bool
  | .int a, n => decide (a ≤ n)
  | _, _ => true
def mostB : D → Int → Bool
  | .int a, n => decide (n ≤ a)
  | _, _ => true
/-- None or an int -/
def Lim (d : D) : Prop := d = .non ∨ ∃ a, d = .int a
theorem within_int {a b : D} (n : Int) (w : W) (ha : Lim a) (hb : Lim b) : f_is_within [.int n, a, b] w = .ok (.bl (leastB a n && mostB b n)) w := by
  rcases ha with rfl | ⟨x, rfl⟩ <;> rcases hb with rfl | ⟨y, rfl⟩
  · simp [f_is_within, runD, s_is_within, startD, seqS, ifS, retS, notT, andT, orE, truE, truD, asB, bin, op2, isN, D.isNon, callE, consA, nilA, var, cst, Val.d, integer_int, R.bind, R.out, nextS, leastB, mostB]
  · simp [f_is_within, runD, s_is_within, startD, seqS, ifS, retS, notT, andT, orE, truE, truD, asB, bin, op2, isN, D.isNon, callE, consA, nilA, var, cst, Val.d, integer_int, R.bind, R.out, nextS, leastB, mostB, leD, ordD]
  · by_cases h : n < x
    · have h2 : ¬ x ≤ n := by omega
      simp [f_is_within, runD, s_is_within, startD, seqS, ifS, retS, notT, andT, orE, truE, truD, asB, bin, op2, isN, D.isNon, callE, consA, nilA, var, cst, Val.d, integer_int, R.bind, R.out, nextS, leastB, mostB, leD, ltD, ordD, h, h2]
    · have h2 : x ≤ n := by omega
      simp [f_is_within, runD, s_is_within, startD, seqS, ifS, retS, notT, andT, orE, truE, truD, asB, bin, op2, isN, D.isNon, callE, consA, nilA, var, cst, Val.d, integer_int, R.bind, R.out, nextS, leastB, mostB, leD, ltD, ordD, h, h2]
  · by_cases h : n < x
    · have h2 : ¬ x ≤ n := by omega
      simp [f_is_within, runD, s_is_within, startD, seqS, ifS, retS, notT, andT, orE, truE, truD, asB, bin, op2, isN, D.isNon, callE, consA, nilA, var, cst, Val.d, integer_int, R.bind, R.out, nextS, leastB, mostB, leD, ltD, ordD, h, h2]
    · have h2 : x ≤ n := by omega
      simp [f_is_within, runD, s_is_within, startD, seqS, ifS, retS, notT, andT, orE, truE, truD, asB, bin, op2, isN, D.isNon, callE, consA, nilA, var, cst, Val.d, integer_int, R.bind, R.out, nextS, leastB, mostB, leD, ltD, ordD, h, h2]
/-! ### stems, names -/
def sgn (d : D) : Nat := match d with
  | .str y => (tl y).headD 0
  | _ => 0
theorem stem_str (x : Str) (hx : x.length ≤ most) (w : W) : f_is_stem [.str x] w = .ok (.bl (stemB (tl x))) w := by
  have l := len_int x hx
  have st : startD 2 [.str x] = [.dat (.str x), .non] := rfl
  by_cases h1 : 1 ≤ (tl x).length
  · by_cases h2 : (tl x).length ≤ 12
    · have e0 : ixD (.str x) (.int 0) = some (.str (one ((tl x)[0]'(by omega)))) := ix_str hx (by omega) (by omega)
      have hd : (tl x).headD 0 = (tl x)[0]'(by omega) := headD_eq (by omega)
      have c1 : decide ((1 : Int) ≤ ((tl x).length : Nat)) = true := decide_eq_true (by omega)
      have c2 : decide ((((tl x).length : Nat) : Int) ≤ 12) = true := decide_eq_true (by omega)
      cases q : low ((tl x)[0]'(by omega)) with
      | false =>
        have e1 := notin_small ((tl x)[0]'(by omega))
        rw [q] at e1
        have r : stemB (tl x) = false := by unfold stemB; rw [hd, q]; simp
        rw [r]
        simp only [f_is_stem, runD, s_is_stem, st, seqS, ifS, retS, orT, notT, asB, chain, truE, truD, un, op1, op2, var, cst, bin, Val.d, isiD, D.ty, R.bind, R.out, List.getElem?_cons_zero, Option.bind_some, Option.map_some, k_str_str, if_true, Bool.not_true, Bool.false_eq_true, if_false, l, leD, ordD, c1, c2, nextS, e0, e1, Bool.not_false]
      | true =>
        have e1 := notin_small ((tl x)[0]'(by omega))
        rw [q] at e1
        obtain ⟨ρ', e2⟩ := forL_test (i := 1) (r := .bl false) (w := w) (p := fun d => low (sgn d) || dig (sgn d)) (b := (seqS (ifS (andT (asB (bin (inD true) (var 1) (cst (.str "abcdefghijklmnopqrstuvwxyz")))) (asB (bin (inD true) (var 1) (cst (.str "0123456789"))))) (seqS (retS (cst (.bl false)))
          nextS) nextS)
          nextS)) (signsD x) [.dat (.str x), .non] (fun d hd y => by
            obtain ⟨c, _, rfl⟩ := List.mem_map.mp hd
            have z1 := notin_small c
            have z2 := notin_digits c
            have s1 : sgn (.str ⟨#[c]⟩) = c := rfl
            simp only [List.set_cons_succ, List.set_cons_zero, s1]
            cases q1 : low c <;> cases q2 : dig c <;> rw [q1] at z1 <;> rw [q2] at z2 <;> simp only [one] at z1 z2 <;>
              simp only [seqS, ifS, andT, asB, bin, var, cst, op2, Val.d, R.bind, R.out, List.getElem?_cons_succ, List.getElem?_cons_zero, z1, z2, retS, nextS, Bool.not_true, Bool.not_false, if_true, Bool.false_eq_true, if_false, Bool.or_true, Bool.or_false, Bool.true_or, Bool.false_or])
        have al : ((signsD x).all fun d => low (sgn d) || dig (sgn d)) = (tl x).all fun c => low c || dig c := by
          unfold signsD
          rw [List.all_map]
          rfl
        have r : stemB (tl x) = (tl x).all fun c => low c || dig c := by
          unfold stemB
          rw [hd, q, decide_eq_true ⟨h1, h2⟩]
          rfl
        rw [al] at e2
        rw [r]
        simp only [f_is_stem, runD, s_is_stem, st, seqS, ifS, retS, orT, notT, asB, chain, truE, truD, un, op1, op2, var, cst, bin, Val.d, isiD, D.ty, R.bind, R.out, List.getElem?_cons_zero, Option.bind_some, Option.map_some, k_str_str, if_true, Bool.not_true, Bool.false_eq_true, if_false, l, leD, ordD, c1, c2, nextS, e0, e1, Bool.not_false, forS, walkI, walkD]
        rw [e2]
        cases (tl x).all fun c => low c || dig c <;> rfl
    · have c1 : decide ((1 : Int) ≤ ((tl x).length : Nat)) = true := decide_eq_true (by omega)
      have c2 : decide ((((tl x).length : Nat) : Int) ≤ 12) = false := decide_eq_false (by omega)
      have r : stemB (tl x) = false := by unfold stemB; rw [decide_eq_false (fun z => h2 z.2)]; rfl
      rw [r]
      simp only [f_is_stem, runD, s_is_stem, st, seqS, ifS, retS, orT, notT, asB, chain, truE, truD, un, op1, op2, var, cst, bin, Val.d, isiD, D.ty, R.bind, R.out, List.getElem?_cons_zero, Option.bind_some, Option.map_some, k_str_str, if_true, Bool.not_true, Bool.false_eq_true, if_false, l, leD, ordD, c1, c2, nextS, Bool.not_false]
  · have c1 : decide ((1 : Int) ≤ ((tl x).length : Nat)) = false := decide_eq_false (by omega)
    have r : stemB (tl x) = false := by unfold stemB; rw [decide_eq_false (fun z => h1 z.1)]; rfl
    rw [r]
    simp only [f_is_stem, runD, s_is_stem, st, seqS, ifS, retS, orT, notT, asB, chain, truE, truD, un, op1, op2, var, cst, bin, Val.d, isiD, D.ty, R.bind, R.out, List.getElem?_cons_zero, Option.bind_some, Option.map_some, k_str_str, if_true, Bool.not_true, Bool.false_eq_true, if_false, l, leD, ordD, c1, nextS, Bool.not_false]
end K01

/-! k01: names, the walk over a text. -/
namespace K01
open PySem DL JM
theorem split_dot (x : Str) : (Txt.split x ".").map tl = pcs [] (tl x) := TL.split_spl x "." (by decide +kernel) (TL.kind_ok (by decide +kernel))
theorem split_len {x : Str} {y : Str} (h : y ∈ Txt.split x ".") : y.length ≤ x.length := by
  have m : tl y ∈ pcs [] (tl x) := by rw [← split_dot]; exact List.mem_map.mpr ⟨y, h, rfl⟩
  have := pcs_len _ _ _ m
  rw [JM.len_tl, JM.len_tl x]
  simpa using this
def stemD (d : D) : Bool := match d with
  | .str y => stemB (tl y)
  | _ => false
theorem stemD_str (y : Str) : stemD (.str y) = stemB (tl y) := rfl
theorem name_str (x : Str) (hx : x.length + 2 ≤ most) (w : W) : f_is_name [.str x] w = .ok (.bl (nameB (tl x))) w := by
  have st : startD 3 [.str x] = [.dat (.str x), .non, .non] := rfl
  have sp : splitD (.str x) (.str ".") = some (.lst ((Txt.split x ".").map .str)) := by
    show (if _ then _ else _) = _
    rw [if_pos ⟨by decide, hx⟩]
  have l : lenD (.lst ((Txt.split x ".").map .str)) = some (.int ((pcs [] (tl x)).length : Nat)) := by
    rw [← split_dot, List.length_map]
    show some (D.int (((Txt.split x ".").map D.str).length : Nat)) = _
    rw [List.length_map]
  have ev : ∀ ρ, ρ = [Slot.dat (.str x), .non, .non] → strE (var 0) ρ w = .ok (.dat (.str x)) w := fun ρ h => by subst h; rfl
  by_cases h6 : (pcs [] (tl x)).length ≤ 6
  · have c1 : decide ((6 : Int) < ((pcs [] (tl x)).length : Nat)) = false := decide_eq_false (by omega)
    obtain ⟨ρ', e2⟩ := forL_test (i := 2) (r := .bl false) (w := w) (p := stemD) (b := (seqS (ifS (notT (truE (callE f_is_stem (consA (var 2) nilA)))) (seqS (retS (cst (.bl false)))
        nextS) nextS)
        nextS)) ((Txt.split x ".").map .str) [.dat (.str x), .dat (.lst ((Txt.split x ".").map .str)), .non] (fun d hd y => by
          obtain ⟨z, hz, rfl⟩ := List.mem_map.mp hd
          have hs := stem_str z (by have := split_len hz; omega) w
          simp only [List.set_cons_succ, List.set_cons_zero]
          rw [stemD_str]
          cases q : stemB (tl z) <;> rw [q] at hs <;> simp only [seqS, ifS, notT, truE, truD, callE, consA, nilA, var, cst, Val.d, R.bind, R.out, List.getElem?_cons_succ, List.getElem?_cons_zero, hs, retS, nextS, Bool.not_true, Bool.not_false, if_true, Bool.false_eq_true, if_false])
    have al : ((Txt.split x ".").map D.str).all stemD = (pcs [] (tl x)).all stemB := by
      rw [← split_dot, List.all_map, List.all_map]
      rfl
    have r : nameB (tl x) = (pcs [] (tl x)).all stemB := by
      unfold nameB
      rw [decide_eq_true h6]
      rfl
    rw [al] at e2
    rw [r]
    simp only [f_is_name, runD, s_is_name, st, seqS, ifS, retS, notT, asB, truE, truD, un, op1, op2, var, strE, setS, cst, bin, Val.d, isiD, D.ty, R.bind, R.out, List.getElem?_cons_succ, List.getElem?_cons_zero, List.set_cons_succ, List.set_cons_zero, Option.bind_some, Option.map_some, k_str_str, if_true, Bool.not_true, Bool.false_eq_true, if_false, sp, l, gtD, ordD, c1, nextS, forS, walkI, walkD]
    rw [e2]
    cases (pcs [] (tl x)).all stemB <;> rfl
  · have c1 : decide ((6 : Int) < ((pcs [] (tl x)).length : Nat)) = true := decide_eq_true (by omega)
    have r : nameB (tl x) = false := by
      unfold nameB
      rw [decide_eq_false h6]
      rfl
    rw [r]
    simp only [f_is_name, runD, s_is_name, st, seqS, ifS, retS, notT, asB, truE, truD, un, op1, op2, var, strE, setS, cst, bin, Val.d, isiD, D.ty, R.bind, R.out, List.getElem?_cons_succ, List.getElem?_cons_zero, List.set_cons_succ, List.set_cons_zero, Option.bind_some, Option.map_some, k_str_str, if_true, Bool.not_true, Bool.false_eq_true, if_false, sp, l, gtD, ordD, c1, nextS]
/-! ### the walk -/
theorem eq_dot {c : Nat} (h : c < 0x110000) : eqD (.str (one c)) (.str ".") = some (.bl (decide (c = 46))) := by
  have h1 : SeqAt.shaped (.str (one c)) = true := by
    simp [SeqAt.shaped, PyData.canLay0, PyData.strOk, one, PyData.depth]
    omega
  have h2 : SeqAt.shaped (.str ".") = true := by decide +kernel
  have h3 : PyData.eqv (.str (one c)) (.str ".") = decide (c = 46) := by
    show (one c == ".") = _
    by_cases z : c = 46
    · subst z; decide +kernel
    · rw [decide_eq_false z, beq_eq_false_iff_ne]
      intro e
      have : tl (one c) = tl "." := by rw [e]
      have e2 : tl "." = [46] := by decide +kernel
      rw [e2] at this
      exact z (List.cons.inj this).1
  simp only [eqD, eqB, toPy, h1, h2, h3, Bool.and_self, if_true, Option.map_some]
theorem le_left {a : Nat} {c : Nat} {x : Str} (h : tl x = [a]) : leD (.str x) (.str (one c)) = some (.bl (decide (a ≤ c))) := by
  show some (D.bl (!decide ((tl (one c)) < tl x))) = _
  rw [h]
  have : ([c] < [a]) ↔ c < a := by rw [List.cons_lt_cons_iff]; simp
  show some (D.bl (!decide ([c] < [a]))) = _
  by_cases z : c < a
  · rw [decide_eq_true (this.mpr z), decide_eq_false (by omega)]; rfl
  · rw [decide_eq_false (fun y => z (this.mp y)), decide_eq_true (by omega)]; rfl
theorem le_right {a : Nat} {c : Nat} {x : Str} (h : tl x = [a]) : leD (.str (one c)) (.str x) = some (.bl (decide (c ≤ a))) := by
  show some (D.bl (!decide (tl x < tl (one c)))) = _
  rw [h]
  have : ([a] < [c]) ↔ a < c := by rw [List.cons_lt_cons_iff]; simp
  show some (D.bl (!decide ([a] < [c]))) = _
  by_cases z : a < c
  · rw [decide_eq_true (this.mpr z), decide_eq_false (by omega)]; rfl
  · rw [decide_eq_false (fun y => z (this.mp y)), decide_eq_true (by omega)]; rfl
def stepW : SemS := (seqS (ifS (asB (bin eqD (var 1) (cst (.str ".")))) (seqS (ifS (asB (bin eqD (var 3) (cst (.int 0)))) (seqS (retS (cst .non))
  nextS) nextS)
  (seqS (setsS [2, 3] (consA (bin addD (var 2) (cst (.int 1))) (consA (cst (.int 0)) nilA)))
  nextS)) (seqS (ifS (orT (asB (chain leD leD (cst (.str "a")) (var 1) (cst (.str "z")))) (andT (asB (bin gtD (var 3) (cst (.int 0)))) (asB (chain leD leD (cst (.str "0")) (var 1) (cst (.str "9")))))) (seqS (setS 3 (bin addD (var 3) (cst (.int 1))))
  (seqS (setS 4 (bin maxF (var 4) (var 3)))
  nextS)) (seqS (retS (cst .non))
  nextS))
  nextS))
  nextS)
theorem eq_int (i j : Int) : eqD (.int i) (.int j) = some (.bl (decide (i = j))) := by
  have h1 : SeqAt.shaped (.int i) = true := by simp [SeqAt.shaped, PyData.canLay0, PyData.depth]
  have h2 : SeqAt.shaped (.int j) = true := by simp [SeqAt.shaped, PyData.canLay0, PyData.depth]
  have h3 : PyData.eqv (.int i) (.int j) = decide (i = j) := by
    show (i == j) = _
    by_cases z : i = j
    · subst z; simp
    · simp [z]
  simp only [eqD, eqB, toPy, h1, h2, h3, Bool.and_self, if_true, Option.map_some]
theorem step_ok (x : Str) (c s r g : Nat) (hc : c < 0x110000) (w : W) : stepW [.dat (.str x), .dat (.str (one c)), .dat (.int s), .dat (.int r), .dat (.int g)] w =
    if c = 46 then (if r = 0 then .rt .non w else .nx [.dat (.str x), .dat (.str (one c)), .dat (.int (s + 1 : Nat)), .dat (.int (0 : Nat)), .dat (.int g)] w)
    else if (low c || (decide (0 < r) && dig c)) = true then .nx [.dat (.str x), .dat (.str (one c)), .dat (.int s), .dat (.int (r + 1 : Nat)), .dat (.int (max g (r + 1) : Nat))] w else .rt .non w := by
  have e1 := eq_dot hc
  have e2 := eq_int (r : Int) 0
  have a1 : leD (.str "a") (.str (one c)) = some (.bl (decide (97 ≤ c))) := le_left (by decide +kernel)
  have a2 : leD (.str (one c)) (.str "z") = some (.bl (decide (c ≤ 122))) := le_right (by decide +kernel)
  have a3 : leD (.str "0") (.str (one c)) = some (.bl (decide (48 ≤ c))) := le_left (by decide +kernel)
  have a4 : leD (.str (one c)) (.str "9") = some (.bl (decide (c ≤ 57))) := le_right (by decide +kernel)
  have g1 : gtD (.int r) (.int 0) = some (.bl (decide (0 < r))) := by
    show some (D.bl (decide ((0 : Int) < r))) = _
    congr 2
    apply decide_eq_decide.mpr
    omega
  have m1 : maxF (.int g) (.int ((r : Int) + 1)) = some (.int (max g (r + 1) : Nat)) := by
    show some (D.int (if (r : Int) + 1 > g then (r : Int) + 1 else g)) = _
    congr 2
    split <;> omega
  by_cases z : c = 46
  · rw [decide_eq_true z] at e1
    by_cases h0 : r = 0
    · subst h0
      rw [if_pos z, if_pos rfl]
      have e3 : decide (((0 : Nat) : Int) = 0) = true := rfl
      simp only [stepW, seqS, ifS, asB, bin, op2, var, cst, Val.d, R.bind, R.out, List.getElem?_cons_succ, List.getElem?_cons_zero, e1, e2, e3, if_true, retS]
    · rw [if_pos z, if_neg h0]
      rw [decide_eq_false (by omega)] at e2
      simp only [stepW, seqS, ifS, asB, bin, op2, var, cst, Val.d, R.bind, R.out, List.getElem?_cons_succ, List.getElem?_cons_zero, e1, e2, if_true, Bool.false_eq_true, if_false, retS, nextS, setsS, consA, nilA, addD, List.length_cons, List.length_nil, List.zip_cons_cons, List.zip_nil_right, List.foldl_cons, List.foldl_nil, List.set_cons_succ, List.set_cons_zero]
      rfl
  · rw [decide_eq_false z] at e1
    rw [if_neg z]
    by_cases b1 : 97 ≤ c <;> by_cases b2 : c ≤ 122 <;> by_cases b3 : 0 < r <;> by_cases b4 : 48 ≤ c <;> by_cases b5 : c ≤ 57 <;>
      simp only [stepW, seqS, ifS, asB, bin, op2, var, cst, Val.d, R.bind, R.out, List.getElem?_cons_succ, List.getElem?_cons_zero, e1, if_true, Bool.false_eq_true, if_false, retS, nextS, orT, andT, chain, a1, a2, a3, a4, g1, b1, b2, b3, b4, b5, decide_true, decide_false, low, dig, and_self, and_true, true_and, and_false, false_and, Bool.or_true, Bool.true_or, Bool.or_false, Bool.false_or, Bool.and_true, Bool.true_and, Bool.and_false, Bool.false_and, setS, addD, m1, List.set_cons_succ, List.set_cons_zero] <;> rfl
theorem walk_loop (x : Str) (w : W) : ∀ (l : List Nat) (s r g : Nat) (y : Slot), (∀ c ∈ l, c < 0x110000) → ∃ y', forL (nameG 1) stepW (l.map fun c => .str (one c)) [.dat (.str x), y, .dat (.int s), .dat (.int r), .dat (.int g)] w = match wk l s r g with
    | none => .rt .non w
    | some (s', r', g') => .nx [.dat (.str x), y', .dat (.int s'), .dat (.int r'), .dat (.int g')] w
  | [], s, r, g, y, _ => ⟨y, rfl⟩
  | c :: t, s, r, g, y, h => by
    have e := step_ok x c s r g (h c List.mem_cons_self) w
    have ht : ∀ c ∈ t, c < 0x110000 := fun d hd => h d (List.mem_cons_of_mem _ hd)
    rw [List.map_cons]
    unfold forL wk
    simp only [nameG, List.set_cons_succ, List.set_cons_zero]
    rw [e]
    by_cases z : c = 46
    · rw [if_pos z, if_pos z]
      by_cases h0 : r = 0
      · rw [if_pos h0, if_pos h0]
        exact ⟨y, rfl⟩
      · rw [if_neg h0, if_neg h0]
        exact walk_loop x w t (s + 1) 0 g _ ht
    · rw [if_neg z, if_neg z]
      by_cases hc : (low c || (decide (0 < r) && dig c)) = true
      · rw [if_pos hc, if_pos hc]
        exact walk_loop x w t s (r + 1) (max g (r + 1)) _ ht
      · rw [if_neg hc, if_neg hc]
        exact ⟨y, rfl⟩
def walkedD (l : List Nat) : D := match wk l 1 0 0 with
  | none => .non
  | some (s, r, g) => if r = 0 then .non else .tup [.int s, .int g]
theorem walked_ok (x : Str) (hx : ∀ c ∈ tl x, c < 0x110000) (w : W) : f__law_walked [.str x] w = .ok (walkedD (tl x)) w := by
  have st : startD 5 [.str x] = [.dat (.str x), .non, .non, .non, .non] := rfl
  have sg : signsD x = (tl x).map fun c => .str (one c) := rfl
  obtain ⟨y', e⟩ := walk_loop x w (tl x) 1 0 0 .non hx
  have es : s__law_walked = seqS (asgS (mkA (consA (cst (.int 1)) (consA (cst (.int 0)) (consA (cst (.int 0)) nilA))) tupF) (tupG 3 (consG (nameG 2) (consG (nameG 3) (consG (nameG 4) nilG))))) (seqS (forS (walkI (var 0)) (nameG 1) stepW) (seqS (retS (ifE (asB (bin eqD (var 3) (cst (.int 0)))) (cst .non) (mkA (consA (var 2) (consA (var 4) nilA)) tupF))) nextS)) := rfl
  have e1 : (asgS (mkA (consA (cst (.int 1)) (consA (cst (.int 0)) (consA (cst (.int 0)) nilA))) tupF) (tupG 3 (consG (nameG 2) (consG (nameG 3) (consG (nameG 4) nilG))))) [.dat (.str x), .non, .non, .non, .non] w = .nx [.dat (.str x), .non, .dat (.int (1 : Nat)), .dat (.int (0 : Nat)), .dat (.int (0 : Nat))] w := rfl
  unfold f__law_walked runD walkedD
  rw [st, es]
  have e2 : ∀ s : SemS, seqS (forS (walkI (var 0)) (nameG 1) stepW) s [.dat (.str x), .non, .dat (.int (1 : Nat)), .dat (.int (0 : Nat)), .dat (.int (0 : Nat))] w = match wk (tl x) 1 0 0 with
      | none => .rt .non w
      | some (s', r', g') => s [.dat (.str x), y', .dat (.int s'), .dat (.int r'), .dat (.int g')] w := fun s => by
    simp only [seqS, forS, walkI, var, walkD, R.bind, R.out, List.getElem?_cons_zero, sg]
    rw [e]
    cases wk (tl x) 1 0 0 with
    | none => rfl
    | some a => rfl
  have e3 : ∀ s t : SemS, ∀ ρ ρ' w w', s ρ w = .nx ρ' w' → seqS s t ρ w = t ρ' w' := fun s t ρ ρ' w w' h => by unfold seqS; rw [h]
  rw [e3 _ _ _ _ _ _ e1, e2]
  cases wk (tl x) 1 0 0 with
  | none => rfl
  | some a =>
    obtain ⟨s, r, g⟩ := a
    have q := eq_int (r : Int) 0
    by_cases h0 : r = 0
    · subst h0
      rfl
    · rw [decide_eq_false (by omega)] at q
      simp only [seqS, retS, ifE, asB, bin, op2, var, cst, Val.d, R.bind, R.out, List.getElem?_cons_succ, List.getElem?_cons_zero, q, Bool.false_eq_true, if_false, mkA, consA, nilA, tupF, List.length_cons, List.length_nil, h0]
      rfl
end K01

/-! k01: the texts drawn. -/
namespace K01
open PySem DL JM
theorem of_mem {k : Nat} {w : W} {xs : List D} (J : Jar k w) (hk : k < 1048576) (h0 : 0 < xs.length) (hm : xs.length < 1152921504606846976) : ∃ d w', d ∈ xs ∧ f__law_of [.ptr 0, .lst xs] w = .ok d w' ∧ Jar (k + 1) w' := by
  obtain ⟨i, h, w', e, J'⟩ := of_lst J hk h0 hm
  exact ⟨_, w', List.getElem_mem h, e, J'⟩
theorem add_str {a b : Str} (h : a.length + b.length ≤ most) : addD (.str a) (.str b) = some (.str (a ++ b)) := if_pos h
theorem tl_app (a b : Str) : tl (a ++ b) = tl a ++ tl b := TL.tl_append a b
theorem joinL_one : ∀ cs : List Nat, TL.joinL [] (cs.map fun c => [c]) = cs
  | [] => rfl
  | [c] => rfl
  | c :: d :: r => by
    have ih := joinL_one (d :: r)
    simp only [List.map_cons] at ih ⊢
    show [c] ++ ([] ++ TL.joinL [] ([d] :: r.map fun c => [c])) = _
    rw [ih]
    rfl
theorem toStrs_map : ∀ ps : List Str, toStrs (ps.map .str) = some ps
  | [] => rfl
  | p :: r => by
    simp only [List.map_cons, toStrs, toStr, toStrs_map r]
theorem join_str {a : Str} {ps : List Str} (h : (ps.map (·.length)).sum + ps.length * a.length ≤ most) : joinD (.str a) (.lst (ps.map .str)) = some (.str (Txt.join a ps)) := by
  simp only [joinD, seqStrs, toStrs_map, h, if_true]
theorem sum_one : ∀ cs : List Nat, ((cs.map one).map (·.length)).sum = cs.length
  | [] => rfl
  | c :: r => by
    simp only [List.map_cons, List.sum_cons, sum_one r, List.length_cons]
    show 1 + r.length = _
    omega
theorem join_ones (cs : List Nat) (h : cs.length ≤ most) : joinD (.str "") (.lst (cs.map fun c => .str (one c))) = some (.str ⟨cs.toArray⟩) := by
  have e : (cs.map fun c => D.str (one c)) = (cs.map one).map .str := by rw [List.map_map]; rfl
  rw [e, join_str (by rw [sum_one]; show cs.length + _ * 0 ≤ _; omega)]
  congr 2
  apply TL.ext_tl
  rw [TL.join_eq, TL.tl_join]
  have e2 : TL.tl "" = [] := by decide +kernel
  have e3 : (cs.map one).map TL.tl = cs.map fun c => [c] := by rw [List.map_map]; rfl
  rw [e2, e3, joinL_one]
/-- what the comprehension over letters gives -/
def Sg (y : D) : Prop := ∃ c, y = .str (one c) ∧ (low c || dig c) = true
theorem sg_list : ∀ {ys : List D}, (∀ y ∈ ys, Sg y) → ∃ cs : List Nat, ys = cs.map (fun c => .str (one c)) ∧ ∀ c ∈ cs, (low c || dig c) = true
  | [], _ => ⟨[], rfl, fun _ h => by cases h⟩
  | y :: r, h => by
    obtain ⟨c, rfl, hc⟩ := h y List.mem_cons_self
    obtain ⟨cs, e, hcs⟩ := sg_list fun z hz => h z (List.mem_cons_of_mem _ hz)
    refine ⟨c :: cs, by rw [e]; rfl, fun d hd => ?_⟩
    rcases List.mem_cons.mp hd with rfl | hd
    · exact hc
    · exact hcs d hd
theorem low_of {c : Nat} (h : c ∈ tl "abcdefghijklmnopqrstuvwxyz") : low c = true := by
  rw [← mem_small]
  exact decide_eq_true h
theorem dig_of {c : Nat} (h : c ∈ tl "0123456789") : dig c = true := by
  rw [← mem_digits]
  exact decide_eq_true h
theorem rangeD_len (n : Nat) : (rangeD 0 n).length = n := by simp [rangeD]
theorem stem_ok {k : Nat} {w : W} {m : Int} (J : Jar k w) (hk : k + 20 < 1048576) (h1 : 1 ≤ m) (h2 : m ≤ 13) : ∃ s w', f__law_stem [.ptr 0, .int m] w = .ok (.str s) w' ∧ Good (tl s) ∧ ((tl s).length : Int) ≤ 1 + max 11 (m - 1) ∧ Jar (k + 20) w' := by
  have st : startD 5 [.ptr 0, .int m] = [.dat (.ptr 0), .dat (.int m), .non, .non, .non] := rfl
  obtain ⟨d, w1, hd, e1, J1⟩ := of_mem (xs := [.int 0, .int 1, .int 3, .int 10, .int 11, .int (m - 1)]) J (by omega) (by simp) (by simp)
  obtain ⟨n, rfl, n0, n1, n2⟩ : ∃ n : Int, d = .int n ∧ 0 ≤ n ∧ n ≤ 12 ∧ n ≤ max 11 (m - 1) := by
    simp only [List.mem_cons, List.not_mem_nil, or_false] at hd
    rcases hd with rfl | rfl | rfl | rfl | rfl | rfl
    · exact ⟨_, rfl, by omega, by omega, by omega⟩
    · exact ⟨_, rfl, by omega, by omega, by omega⟩
    · exact ⟨_, rfl, by omega, by omega, by omega⟩
    · exact ⟨_, rfl, by omega, by omega, by omega⟩
    · exact ⟨_, rfl, by omega, by omega, by omega⟩
    · exact ⟨_, rfl, by omega, by omega, by omega⟩
  have hn : n.toNat ≤ 12 := by omega
  have ea : addD (.str "0123456789") (.str "abcdefghijklmnopqrstuvwxyz") = some (.str ("0123456789" ++ "abcdefghijklmnopqrstuvwxyz")) := add_str (by decide +kernel)
  obtain ⟨ys, w2, e2, l2, p2, J2⟩ := lcL_jar (i := 4) (c := 1) (B := k + 13) (P := Sg) (ρ := wipeS [.dat (.ptr 0), .dat (.int m), .dat (.str "abcdefghijklmnopqrstuvwxyz"), .non, .non] [4])
    (se := callE f__law_of (consA (var 0) (consA (bin addD (cst (.str "0123456789")) (var 2)) nilA))) (rangeD 0 n.toNat) [] (k + 1) w1 J1 (fun d hd j v Jv hv => by
      obtain ⟨c, v', hc, ev, Jv'⟩ := of_str (x := ("0123456789" : Str) ++ ("abcdefghijklmnopqrstuvwxyz" : Str)) Jv (by omega) (by decide +kernel) (by decide +kernel)
      refine ⟨_, v', ?_, ⟨c, rfl, ?_⟩, Jv'⟩
      · simp only [wipeS, List.set_cons_succ, List.set_cons_zero, callE, consA, nilA, bin, op2, cst, var, Val.d, R.bind, List.getElem?_cons_succ, List.getElem?_cons_zero, ea, ev]
      · rw [tl_app] at hc
        rcases List.mem_append.mp hc with h | h
        · rw [dig_of h, Bool.or_true]
        · rw [low_of h, Bool.true_or]) (by rw [rangeD_len]; omega) (by rw [rangeD_len]; simp [most]; omega)
  obtain ⟨cs, rfl, hcs⟩ := sg_list p2
  rw [List.nil_append] at e2
  rw [List.length_map, rangeD_len] at l2
  rw [rangeD_len] at J2
  obtain ⟨c, w3, hc, e3, J3⟩ := of_str (x := "abcdefghijklmnopqrstuvwxyz") J2 (by omega) (by decide +kernel) (by decide +kernel)
  have ej := join_ones cs (by simp [most]; omega)
  have hl1 : (one c).length = 1 := rfl
  have hl2 : (⟨cs.toArray⟩ : Str).length = cs.length := rfl
  have ek : addD (.str (one c)) (.str ⟨cs.toArray⟩) = some (.str (one c ++ ⟨cs.toArray⟩)) := add_str (by rw [hl1, hl2]; simp [most]; omega)
  have ts : tl (one c ++ ⟨cs.toArray⟩) = c :: cs := by rw [tl_app]; rfl
  refine ⟨one c ++ ⟨cs.toArray⟩, w3, ?_, ⟨by rw [ts]; simp, by rw [ts]; exact low_of hc, fun d hd => ?_⟩, by rw [ts, List.length_cons]; omega, J3.mono (by omega)⟩
  · have rg : -(2 ^ 62) ≤ n ∧ n < 2 ^ 62 := by omega
    simp only [f__law_stem, runD, s__law_stem, st, seqS, setS, cst, var, R.bind, R.out, lcE, range1I, consA, nilA, callE, mkA, lstF, bin, op2, subD, intD0, Val.d, List.getElem?_cons_succ, List.getElem?_cons_zero, List.set_cons_succ, List.set_cons_zero, List.length_cons, List.length_nil]
    rw [if_pos (by decide)]
    simp only [e1, rg, and_self, if_true, e2, retS, bin, op2, e3, strE, R.bind, R.out, Val.d, var, cst, callE, consA, nilA, List.getElem?_cons_succ, List.getElem?_cons_zero, ej, ek]
  · rw [ts] at hd
    rcases List.mem_cons.mp hd with rfl | hd
    · rw [low_of hc, Bool.true_or]
    · exact hcs d hd
end K01

/-! k01: bent texts, the first question. -/
namespace K01
open PySem DL JM
/-- small texts of small signs -/
def Plain (n : Nat) (x : Str) : Prop := (tl x).length ≤ n ∧ ∀ c ∈ tl x, c < 128
theorem cut_ok {x : Str} {n : Nat} (h : Plain n x) (hn : n ≤ most) (lo hi : Option Int) : ∃ y, cutD lo hi (.str x) = some (.str y) ∧ Plain n y := by
  refine ⟨L2.cutS x lo hi, if_pos (by rw [JM.len_tl]; have := h.1; omega), ?_, fun c hc => h.2 c ?_⟩
  · show ((((tl x).drop _).take _).toArray).toList.length ≤ n
    rw [List.toList_toArray, List.length_take, List.length_drop]
    have := h.1
    omega
  · have e : tl (L2.cutS x lo hi) = ((tl x).drop (HT.sIx x.length 0 lo)).take (HT.sIx x.length x.length hi - HT.sIx x.length 0 lo) := by
      show (((tl x).drop _).take _).toArray.toList = _
      rw [List.toList_toArray]
    rw [e] at hc
    exact List.mem_of_mem_drop (List.mem_of_mem_take hc)
theorem app_plain {x y : Str} {n m : Nat} (h : Plain n x) (q : Plain m y) (hm : n + m ≤ most) : addD (.str x) (.str y) = some (.str (x ++ y)) ∧ Plain (n + m) (x ++ y) := by
  refine ⟨add_str (by rw [JM.len_tl, JM.len_tl y]; have := h.1; have := q.1; omega), by rw [tl_app, List.length_append]; have := h.1; have := q.1; omega, fun c hc => ?_⟩
  rw [tl_app] at hc
  rcases List.mem_append.mp hc with z | z
  · exact h.2 c z
  · exact q.2 c z
theorem signs_small : ∀ c ∈ tl " !#$&()*+,-./0123456789:;<=>?@AZ[]^_az{|}~\n", c < 128 := by decide +kernel
theorem one_plain {c : Nat} (h : c < 128) : Plain 1 (one c) := ⟨Nat.le_refl 1, fun d hd => by
  have : d = c := by simpa [one] using hd
  omega⟩
theorem bent_ok {k : Nat} {w : W} {x : Str} (J : Jar k w) (hk : k + 3 < 1048576) (h : Plain 1000 x) : ∃ y w', f__law_bent [.ptr 0, .str x] w = .ok (.str y) w' ∧ Plain 3000 y ∧ Jar (k + 3) w' := by
  have st : startD 5 [.ptr 0, .str x] = [.dat (.ptr 0), .dat (.str x), .non, .non, .non] := rfl
  have hx : x.length ≤ most := by
    rw [JM.len_tl]
    have := h.1
    show (tl x).length ≤ 16777216
    omega
  obtain ⟨i, w1, e1, i0, i1, J1⟩ := ladle_ok (m := 6) J (by omega) (by decide) (by decide +kernel)
  obtain ⟨p, w2, e2, p0, p1, J2⟩ := ladle_ok (m := ((tl x).length : Int) + 1) J1 (by omega) (by omega) (log_lt (by omega) (by have := h.1; omega))
  have l := len_int x hx
  have add1 : addD (.int ((tl x).length : Nat)) (.int 1) = some (.int (((tl x).length : Nat) + 1)) := rfl
  have q0 := eq_int i 0
  have q1 := eq_int i 1
  have q2 := eq_int i 2
  obtain ⟨A, eA, pA⟩ := cut_ok h (by decide) none (some p)
  obtain ⟨B, eB, pB⟩ := cut_ok h (by decide) (some p) none
  obtain ⟨C, eC, pC⟩ := cut_ok h (by decide) (some (p + 1)) none
  obtain ⟨c, w3, hc, e3, J3⟩ := of_str (x := " !#$&()*+,-./0123456789:;<=>?@AZ[]^_az{|}~\n") J2 (by omega) (by decide +kernel) (by decide +kernel)
  obtain ⟨a1, a2⟩ := app_plain pA (one_plain (signs_small c hc)) (by decide)
  obtain ⟨a3, a4⟩ := app_plain a2 pB (by decide)
  obtain ⟨a5, a6⟩ := app_plain a2 pC (by decide)
  obtain ⟨a7, a8⟩ := app_plain pA pC (by decide)
  have up : ∀ {n : Nat} {z : Str}, Plain n z → n ≤ 3000 → Plain 3000 z := fun h g => ⟨Nat.le_trans h.1 g, h.2⟩
  by_cases c0 : i = 0
  · rw [decide_eq_true c0] at q0
    refine ⟨_, w3, ?_, up a4 (by decide), J3⟩
    simp only [f__law_bent, runD, s__law_bent, st, seqS, setS, setsS, ifS, asB, retS, slice, part, noPart, cst, var, R.bind, R.out, consA, nilA, callE, bin, un, op1, op2, Val.d, List.getElem?_cons_succ, List.getElem?_cons_zero, List.set_cons_succ, List.set_cons_zero, List.length_cons, List.length_nil, List.zip_cons_cons, List.zip_nil_right, List.foldl_cons, List.foldl_nil, l, add1, e1, e2, q0, if_true, eA, eB, e3, a1, a3]
  · rw [decide_eq_false c0] at q0
    by_cases c1 : i = 1
    · rw [decide_eq_true c1] at q1
      refine ⟨_, w3, ?_, up a6 (by decide), J3⟩
      have ap : addD (.int p) (.int 1) = some (.int (p + 1)) := rfl
      simp only [f__law_bent, runD, s__law_bent, st, seqS, setS, setsS, ifS, asB, retS, nextS, slice, part, noPart, cst, var, R.bind, R.out, consA, nilA, callE, bin, un, op1, op2, Val.d, List.getElem?_cons_succ, List.getElem?_cons_zero, List.set_cons_succ, List.set_cons_zero, List.length_cons, List.length_nil, List.zip_cons_cons, List.zip_nil_right, List.foldl_cons, List.foldl_nil, l, add1, e1, e2, q0, q1, if_true, Bool.false_eq_true, if_false, eA, eC, ap, e3, a1, a5]
    · rw [decide_eq_false c1] at q1
      by_cases c2 : i = 2
      · rw [decide_eq_true c2] at q2
        refine ⟨_, w2, ?_, up a8 (by decide), J2.mono (by omega)⟩
        have ap : addD (.int p) (.int 1) = some (.int (p + 1)) := rfl
        simp only [f__law_bent, runD, s__law_bent, st, seqS, setS, setsS, ifS, asB, retS, nextS, slice, part, noPart, cst, var, R.bind, R.out, consA, nilA, callE, bin, un, op1, op2, Val.d, List.getElem?_cons_succ, List.getElem?_cons_zero, List.set_cons_succ, List.set_cons_zero, List.length_cons, List.length_nil, List.zip_cons_cons, List.zip_nil_right, List.foldl_cons, List.foldl_nil, l, add1, e1, e2, q0, q1, q2, if_true, Bool.false_eq_true, if_false, eA, eC, ap, a7]
      · rw [decide_eq_false c2] at q2
        refine ⟨x, w2, ?_, up h (by decide), J2.mono (by omega)⟩
        simp only [f__law_bent, runD, s__law_bent, st, seqS, setS, setsS, ifS, asB, retS, nextS, cst, var, R.bind, R.out, consA, nilA, callE, bin, un, op1, op2, Val.d, List.getElem?_cons_succ, List.getElem?_cons_zero, List.set_cons_succ, List.set_cons_zero, List.length_cons, List.length_nil, List.zip_cons_cons, List.zip_nil_right, List.foldl_cons, List.foldl_nil, l, add1, e1, e2, q0, q1, q2, if_true, Bool.false_eq_true, if_false]
/-! ### joined texts -/
theorem lowdig_lt {c : Nat} (h : (low c || dig c) = true) : c < 123 ∧ c ≠ 46 := by
  unfold low dig at h
  simp only [Bool.or_eq_true, decide_eq_true_eq] at h
  omega
theorem good_plain {s : Str} {n : Nat} (h : Good (tl s)) (hl : (tl s).length ≤ n) : Plain n s := ⟨hl, fun c hc => by have := (lowdig_lt (h.2.2 c hc)).1; omega⟩
theorem joinL_plain {n : Nat} : ∀ (ps : List (List Nat)), (∀ p ∈ ps, p.length ≤ n ∧ ∀ c ∈ p, c < 128) → (TL.joinL [46] ps).length ≤ ps.length * (n + 1) ∧ ∀ c ∈ TL.joinL [46] ps, c < 128
  | [], _ => ⟨Nat.zero_le _, fun c h => by cases h⟩
  | [p], h => by
    have := h p List.mem_cons_self
    refine ⟨?_, this.2⟩
    show p.length ≤ 1 * (n + 1)
    omega
  | p :: q :: r, h => by
    have h1 := h p List.mem_cons_self
    have ih := joinL_plain (q :: r) fun z hz => h z (List.mem_cons_of_mem _ hz)
    constructor
    · show (p ++ ([46] ++ TL.joinL [46] (q :: r))).length ≤ _
      rw [List.length_append, List.length_append]
      have e : (p :: q :: r).length * (n + 1) = (q :: r).length * (n + 1) + (n + 1) := by rw [List.length_cons, Nat.succ_mul]
      rw [e]
      have := ih.1
      simp only [List.length_cons, List.length_nil] at this ⊢
      omega
    · intro c hc
      have hc : c ∈ p ++ ([46] ++ TL.joinL [46] (q :: r)) := hc
      rcases List.mem_append.mp hc with z | z
      · exact h1.2 c z
      · rcases List.mem_append.mp z with z | z
        · have : c = 46 := by simpa using z
          omega
        · exact ih.2 c z
theorem dot_tl : TL.tl "." = [46] := by decide +kernel
theorem sum_le {n : Nat} : ∀ ps : List Str, (∀ p ∈ ps, p.length ≤ n) → (ps.map (·.length)).sum ≤ ps.length * n
  | [], _ => Nat.zero_le _
  | p :: r, h => by
    have h1 := h p List.mem_cons_self
    have ih := sum_le r fun z hz => h z (List.mem_cons_of_mem _ hz)
    rw [List.map_cons, List.sum_cons, List.length_cons, Nat.succ_mul]
    omega
theorem join_plain {n : Nat} {ps : List Str} (h : ∀ p ∈ ps, Plain n p) (hm : ps.length * (n + 1) ≤ 1000) : joinD (.str ".") (.lst (ps.map .str)) = some (.str (Txt.join "." ps)) ∧ Plain 1000 (Txt.join "." ps) := by
  have key := joinL_plain (n := n) (ps.map TL.tl) fun p hp => by
    obtain ⟨q, hq, rfl⟩ := List.mem_map.mp hp
    exact h q hq
  have e : tl (Txt.join "." ps) = TL.joinL [46] (ps.map TL.tl) := by
    show TL.tl _ = _
    rw [TL.join_eq, TL.tl_join, dot_tl]
  have s := sum_le (n := n) ps fun p hp => by rw [JM.len_tl]; exact (h p hp).1
  have ed : ps.length * (n + 1) = ps.length * n + ps.length := Nat.mul_succ _ _
  have l1 : ("." : Str).length = 1 := by decide +kernel
  refine ⟨join_str (by rw [l1, Nat.mul_one]; show _ ≤ 16777216; omega), ?_, fun c hc => key.2 c (by rw [← e]; exact hc)⟩
  rw [e]
  have := key.1
  rw [List.length_map] at this
  omega
/-- what the comprehension over stems gives -/
def St (n : Nat) (y : D) : Prop := ∃ s, y = .str s ∧ Good (tl s) ∧ (tl s).length ≤ n
theorem st_list {n : Nat} : ∀ {ys : List D}, (∀ y ∈ ys, St n y) → ∃ ps : List Str, ys = ps.map .str ∧ ∀ p ∈ ps, Good (tl p) ∧ (tl p).length ≤ n
  | [], _ => ⟨[], rfl, fun _ h => by cases h⟩
  | y :: r, h => by
    obtain ⟨s, rfl, h1, h2⟩ := h y List.mem_cons_self
    obtain ⟨ps, e, hp⟩ := st_list fun z hz => h z (List.mem_cons_of_mem _ hz)
    refine ⟨s :: ps, by rw [e]; rfl, fun d hd => ?_⟩
    rcases List.mem_cons.mp hd with rfl | hd
    · exact ⟨h1, h2⟩
    · exact hp d hd
theorem eq_self {x : Str} (h : PyData.strOk x = true) : eqD (.str x) (.str x) = some (.bl true) := by
  have h1 : SeqAt.shaped (.str x) = true := by simp [SeqAt.shaped, PyData.canLay0, PyData.depth, h]
  have h3 : PyData.eqv (.str x) (.str x) = true := by
    show (x == x) = true
    exact beq_self_eq_true x
  simp only [eqD, eqB, toPy, h1, h3, Bool.and_self, if_true, Option.map_some]
/-- equal tuples of four bools -/
theorem four (a b c d : Bool) : ∃ s, reprF (.tup [.bl a, .bl b, .bl c, .bl d]) = some (.str s) ∧ eqD (.str s) (.str s) = some (.bl true) := by
  cases a <;> cases b <;> cases c <;> cases d <;> exact ⟨_, rfl, eq_self (by decide +kernel)⟩
end K01

/-! k01: the questions about texts, numbers, odd things. -/
namespace K01
open PySem DL JM
def dueS : SemS := (seqS (setS 3 (andE (bin (isN true) (var 2) (cst .non)) (bin leD (bin ixD (var 2) (cst (.int 1))) (cst (.int 12)))))
  (seqS (setS 4 (mkA (consA (andE (var 3) (bin eqD (bin ixD (var 2) (cst (.int 0))) (cst (.int 1)))) (consA (andE (var 3) (bin leD (bin ixD (var 2) (cst (.int 0))) (cst (.int 6)))) (consA (cst (.bl false)) (consA (cst (.bl false)) nilA)))) tupF))
  (seqS (retS (bin eqD (un reprF (mkA (consA (callE f_is_stem (consA (var 1) nilA)) (consA (callE f_is_name (consA (var 1) nilA)) (consA (callE f_is_integer (consA (var 1) nilA)) (consA (callE f_is_within (consA (var 1) (consA (cst .non) (consA (cst .non) nilA)))) nilA)))) tupF)) (un reprF (var 4))))
  nextS)))
theorem due_ok {y : Str} (h : Plain 3000 y) (p : Slot) (x3 x4 x5 : Slot) (w : W) : dueS [p, .dat (.str y), .dat (walkedD (tl y)), x3, x4, x5] w = .rt (.bl true) w := by
  have hl : y.length ≤ 3000 := by rw [JM.len_tl]; exact h.1
  have es := stem_str y (by show _ ≤ 16777216; omega) w
  have en := name_str y (by show _ ≤ 16777216; omega) w
  have ei := integer_str y w
  have ew := within_str y .non .non w
  obtain ⟨s4, r4, q4⟩ := four (stemB (tl y)) (nameB (tl y)) false false
  have law := wk_law (tl y)
  have t4 : tupF [.bl (stemB (tl y)), .bl (nameB (tl y)), .bl false, .bl false] = some (.tup [.bl (stemB (tl y)), .bl (nameB (tl y)), .bl false, .bl false]) := rfl
  have fin : ∀ (wd x3 : D) (x5 : Slot), (seqS (retS (bin eqD (un reprF (mkA (consA (callE f_is_stem (consA (var 1) nilA)) (consA (callE f_is_name (consA (var 1) nilA)) (consA (callE f_is_integer (consA (var 1) nilA)) (consA (callE f_is_within (consA (var 1) (consA (cst .non) (consA (cst .non) nilA)))) nilA)))) tupF)) (un reprF (var 4))))
      nextS) [p, .dat (.str y), .dat wd, .dat x3, .dat (.tup [.bl (stemB (tl y)), .bl (nameB (tl y)), .bl false, .bl false]), x5] w = .rt (.bl true) w := fun wd x3 x5 => by
    simp only [seqS, retS, bin, un, op1, op2, mkA, consA, nilA, callE, cst, var, Val.d, R.bind, R.out, List.getElem?_cons_succ, List.getElem?_cons_zero, es, en, ei, ew, t4, r4, q4]
  have main : ∀ (wd : D) (b : Bool), wd = walkedD (tl y) → (andE (bin (isN true) (var 2) (cst .non)) (bin leD (bin ixD (var 2) (cst (.int 1))) (cst (.int 12)))) [p, .dat (.str y), .dat wd, x3, x4, x5] w = .ok (.dat (.bl b)) w →
      (mkA (consA (andE (var 3) (bin eqD (bin ixD (var 2) (cst (.int 0))) (cst (.int 1)))) (consA (andE (var 3) (bin leD (bin ixD (var 2) (cst (.int 0))) (cst (.int 6)))) (consA (cst (.bl false)) (consA (cst (.bl false)) nilA)))) tupF) [p, .dat (.str y), .dat wd, .dat (.bl b), x4, x5] w = .ok (.dat (.tup [.bl (stemB (tl y)), .bl (nameB (tl y)), .bl false, .bl false])) w →
      dueS [p, .dat (.str y), .dat (walkedD (tl y)), x3, x4, x5] w = .rt (.bl true) w := fun wd b ewd e1 e2 => by
    subst ewd
    have e3 : ∀ s t : SemS, ∀ ρ ρ' w w', s ρ w = .nx ρ' w' → seqS s t ρ w = t ρ' w' := fun s t ρ ρ' w w' h => by unfold seqS; rw [h]
    unfold dueS
    rw [e3 _ _ _ _ _ _ (show setS 3 _ _ _ = .nx [p, .dat (.str y), .dat (walkedD (tl y)), .dat (.bl b), x4, x5] w by unfold setS; rw [e1]; rfl)]
    rw [e3 _ _ _ _ _ _ (show setS 4 _ _ _ = .nx [p, .dat (.str y), .dat (walkedD (tl y)), .dat (.bl b), .dat (.tup [.bl (stemB (tl y)), .bl (nameB (tl y)), .bl false, .bl false]), x5] w by unfold setS; rw [e2]; rfl)]
    exact fin _ _ _
  cases q : wk (tl y) 1 0 0 with
  | none =>
    rw [q] at law
    have ewd : walkedD (tl y) = .non := by unfold walkedD; rw [q]
    refine main .non false ewd.symm rfl ?_
    rw [law.1, law.2]
    rfl
  | some a =>
    obtain ⟨s, r, g⟩ := a
    rw [q] at law
    by_cases h0 : r = 0
    · have law : if r = 0 then stemB (tl y) = false ∧ nameB (tl y) = false else stemB (tl y) = (decide (g ≤ 12) && decide (s = 1)) ∧ nameB (tl y) = (decide (g ≤ 12) && decide (s ≤ 6)) := law
      rw [if_pos h0] at law
      have ewd : walkedD (tl y) = .non := by unfold walkedD; rw [q]; exact if_pos h0
      refine main .non false ewd.symm rfl ?_
      rw [law.1, law.2]
      rfl
    · have law : if r = 0 then stemB (tl y) = false ∧ nameB (tl y) = false else stemB (tl y) = (decide (g ≤ 12) && decide (s = 1)) ∧ nameB (tl y) = (decide (g ≤ 12) && decide (s ≤ 6)) := law
      rw [if_neg h0] at law
      have ewd : walkedD (tl y) = .tup [.int s, .int g] := by unfold walkedD; rw [q]; exact if_neg h0
      have g1 : leD (.int g) (.int 12) = some (.bl (decide (g ≤ 12))) := congrArg (fun b => some (D.bl b)) (decide_eq_decide.mpr (by omega))
      have s6 : leD (.int s) (.int 6) = some (.bl (decide (s ≤ 6))) := congrArg (fun b => some (D.bl b)) (decide_eq_decide.mpr (by omega))
      have s1 : eqD (.int s) (.int 1) = some (.bl (decide (s = 1))) := by
        rw [eq_int]
        exact congrArg (fun b => some (D.bl b)) (decide_eq_decide.mpr (by omega))
      have i1 : ixD (.tup [.int s, .int g]) (.int 1) = some (.int g) := rfl
      have i0 : ixD (.tup [.int s, .int g]) (.int 0) = some (.int s) := rfl
      have nn : isN true (.tup [.int s, .int g]) .non = some (.bl true) := rfl
      refine main (.tup [.int s, .int g]) (decide (g ≤ 12)) ewd.symm ?_ ?_
      · simp only [andE, asB, bin, op2, var, cst, Val.d, R.bind, List.getElem?_cons_succ, List.getElem?_cons_zero, nn, if_true, i1, g1]
      · rw [law.1, law.2]
        cases z : decide (g ≤ 12) with
        | true => simp only [mkA, consA, nilA, andE, asB, bin, op2, var, cst, Val.d, R.bind, List.getElem?_cons_succ, List.getElem?_cons_zero, if_true, i0, s1, s6, Bool.true_and]; rfl
        | false => simp only [mkA, consA, nilA, andE, asB, bin, op2, var, cst, Val.d, R.bind, List.getElem?_cons_succ, List.getElem?_cons_zero, Bool.false_eq_true, if_false, Bool.false_and]; rfl
theorem text_right {k : Nat} {w : W} (J : Jar k w) (hk : k + 200 < 1048576) : ∃ w', f__law_text_right [.ptr 0] w = .ok (.bl true) w' ∧ Jar (k + 200) w' := by
  have st : startD 6 [.ptr 0] = [.dat (.ptr 0), .non, .non, .non, .non, .non] := rfl
  obtain ⟨d, w1, hd, e1, J1⟩ := of_mem (xs := [.int 1, .int 1, .int 2, .int 3, .int 5, .int 6, .int 7]) J (by omega) (by simp) (by simp)
  obtain ⟨n, rfl, n0, n1⟩ : ∃ n : Int, d = .int n ∧ 0 ≤ n ∧ n ≤ 7 := by
    simp only [List.mem_cons, List.not_mem_nil, or_false] at hd
    rcases hd with rfl | rfl | rfl | rfl | rfl | rfl | rfl <;> exact ⟨_, rfl, by omega, by omega⟩
  have hn : n.toNat ≤ 7 := by omega
  obtain ⟨ys, w2, e2, l2, p2, J2⟩ := lcL_jar (i := 5) (c := 20) (B := k + 150) (P := St 13) (ρ := wipeS [.dat (.ptr 0), .non, .non, .non, .non, .non] [5])
    (se := callE f__law_stem (consA (var 0) (consA (cst (.int 13)) nilA))) (rangeD 0 n.toNat) [] (k + 1) w1 J1 (fun d hd j v Jv hv => by
      obtain ⟨s, v', ev, gs, ls, Jv'⟩ := stem_ok (m := 13) Jv (by omega) (by decide) (by decide)
      refine ⟨_, v', ?_, ⟨s, rfl, gs, by omega⟩, Jv'⟩
      simp only [wipeS, List.set_cons_succ, List.set_cons_zero, callE, consA, nilA, cst, var, R.bind, List.getElem?_cons_zero, ev]) (by rw [rangeD_len]; omega) (by rw [rangeD_len]; show 0 + n.toNat ≤ 16777216; omega)
  obtain ⟨ps, rfl, hps⟩ := st_list p2
  rw [List.nil_append] at e2
  rw [List.length_map, rangeD_len] at l2
  rw [rangeD_len] at J2
  obtain ⟨ej, pj⟩ := join_plain (n := 13) (ps := ps) (fun p hp => good_plain (hps p hp).1 (hps p hp).2) (by rw [l2]; omega)
  obtain ⟨y, w3, e3, py, J3⟩ := bent_ok J2 (by omega) pj
  have e4 := walked_ok y (fun c hc => by have := py.2 c hc; omega) w3
  have e5 := due_ok py (.dat (.ptr 0)) .non .non .non w3
  refine ⟨w3, ?_, J3.mono (by omega)⟩
  have rg : -(2 ^ 62) ≤ n ∧ n < 2 ^ 62 := by omega
  have es : s__law_text_right = seqS (setS 1 (callE f__law_bent (consA (var 0) (consA (bin joinD (strE (cst (.str "."))) (lcE (range1I (consA (callE f__law_of (consA (var 0) (consA (mkA (consA (cst (.int 1)) (consA (cst (.int 1)) (consA (cst (.int 2)) (consA (cst (.int 3)) (consA (cst (.int 5)) (consA (cst (.int 6)) (consA (cst (.int 7)) nilA))))))) lstF) nilA))) nilA)) (nameG 5) yesT (callE f__law_stem (consA (var 0) (consA (cst (.int 13)) nilA))) [5])) nilA)))) (seqS (setS 2 (callE f__law_walked (consA (var 1) nilA))) dueS) := rfl
  unfold f__law_text_right runD
  rw [st, es]
  have l7 : lstF [.int 1, .int 1, .int 2, .int 3, .int 5, .int 6, .int 7] = some (.lst [.int 1, .int 1, .int 2, .int 3, .int 5, .int 6, .int 7]) := rfl
  simp only [seqS, setS, cst, var, R.bind, R.out, lcE, range1I, consA, nilA, callE, mkA, l7, bin, op2, strE, Val.d, List.getElem?_cons_succ, List.getElem?_cons_zero, List.set_cons_succ, List.set_cons_zero, e1, rg, and_self, if_true, e2, ej, e3, e4, e5]
end K01

/-! k01: the questions about numbers, odd things. -/
namespace K01
open PySem DL JM
theorem seq_go {s t : SemS} {ρ ρ' : List Slot} {w w' : W} (h : s ρ w = .nx ρ' w') : seqS s t ρ w = t ρ' w' := by unfold seqS; rw [h]
theorem set_go {i : Nat} {s : SemE} {ρ : List Slot} {w w' : W} {d : D} (h : s ρ w = .ok (.dat d) w') : setS i s ρ w = .nx (ρ.set i (.dat d)) w' := by unfold setS; rw [h]; rfl
theorem limB {p x1 x4 : Slot} {w : W} {a b : D} (n : Int) (ha : Lim a) (hb : Lim b) : (andE (orE (bin (isN false) (var 2) (cst .non)) (bin leD (var 2) (var 1))) (orE (bin (isN false) (var 3) (cst .non)) (bin leD (var 1) (var 3)))) [p, .dat (.int n), .dat a, .dat b, x4] w = .ok (.dat (.bl (leastB a n && mostB b n))) w := by
  have i1 : ∀ x, isN false (.int x) .non = some (.bl false) := fun _ => rfl
  have i2 : isN false .non .non = some (.bl true) := rfl
  have l1 : ∀ x y : Int, leD (.int x) (.int y) = some (.bl (decide (x ≤ y))) := fun _ _ => rfl
  rcases ha with rfl | ⟨x, rfl⟩ <;> rcases hb with rfl | ⟨y, rfl⟩
  · simp only [andE, orE, asB, bin, op2, var, cst, Val.d, R.bind, List.getElem?_cons_succ, List.getElem?_cons_zero, i2, if_true, leastB, mostB, Bool.and_self]
  · simp only [andE, orE, asB, bin, op2, var, cst, Val.d, R.bind, List.getElem?_cons_succ, List.getElem?_cons_zero, i1, i2, l1, if_true, Bool.false_eq_true, if_false, leastB, mostB, Bool.true_and]
  · cases q : decide (x ≤ n) <;> simp only [andE, orE, asB, bin, op2, var, cst, Val.d, R.bind, List.getElem?_cons_succ, List.getElem?_cons_zero, i1, i2, l1, q, if_true, Bool.false_eq_true, if_false, leastB, mostB, Bool.and_true]
  · cases q : decide (x ≤ n) <;> simp only [andE, orE, asB, bin, op2, var, cst, Val.d, R.bind, List.getElem?_cons_succ, List.getElem?_cons_zero, i1, i2, l1, q, if_true, Bool.false_eq_true, if_false, leastB, mostB, Bool.true_and, Bool.false_and]
theorem number_right {k : Nat} {w : W} (J : Jar k w) (hk : k + 5 < 1048576) : ∃ w', f__law_number_right [.ptr 0] w = .ok (.bl true) w' ∧ Jar (k + 5) w' := by
  have st : startD 5 [.ptr 0] = [.dat (.ptr 0), .non, .non, .non, .non] := rfl
  obtain ⟨d1, w1, hd1, e1, J1⟩ := of_mem (xs := [.int (-1), .int 1]) J (by omega) (by simp) (by simp)
  obtain ⟨s, rfl, s0, s1⟩ : ∃ n : Int, d1 = .int n ∧ -1 ≤ n ∧ n ≤ 1 := by
    simp only [List.mem_cons, List.not_mem_nil, or_false] at hd1
    rcases hd1 with rfl | rfl <;> exact ⟨_, rfl, by omega, by omega⟩
  obtain ⟨d2, w2, hd2, e2, J2⟩ := of_mem (xs := [.int 3, .int 100, .int (10 ^ 60)]) J1 (by omega) (by simp) (by simp)
  obtain ⟨m, rfl, m0, m1, m2⟩ : ∃ n : Int, d2 = .int n ∧ 0 < n ∧ n ≤ 10 ^ 60 ∧ n.natAbs.log2 < 9000 := by
    simp only [List.mem_cons, List.not_mem_nil, or_false] at hd2
    rcases hd2 with rfl | rfl | rfl
    · exact ⟨_, rfl, by omega, by omega, by decide +kernel⟩
    · exact ⟨_, rfl, by omega, by omega, by decide +kernel⟩
    · exact ⟨_, rfl, by omega, by omega, by decide +kernel⟩
  obtain ⟨v, w3, e3, v0, v1, J3⟩ := ladle_ok J2 (by omega) m0 m2
  have em : mulD (.int s) (.int v) = some (.int (s * v)) := mulD_ok (by
    have a1 := log_le (k := 200) v0 (by omega)
    have a2 : s.natAbs.log2 ≤ 1 := by
      have : s = -1 ∨ s = 0 ∨ s = 1 := by omega
      rcases this with rfl | rfl | rfl <;> decide
    omega)
  obtain ⟨a, w4, ha, e4, J4⟩ := of_mem (xs := [.non, .int (s * v - 1), .int (s * v), .int (s * v + 1), .int 0]) J3 (by omega) (by simp) (by simp)
  have la : Lim a := by
    simp only [List.mem_cons, List.not_mem_nil, or_false] at ha
    rcases ha with rfl | rfl | rfl | rfl | rfl
    · exact .inl rfl
    all_goals exact .inr ⟨_, rfl⟩
  obtain ⟨b, w5, hb, e5, J5⟩ := of_mem (xs := [.non, .int (s * v + 1), .int (s * v), .int (s * v - 1), .int 9]) J4 (by omega) (by simp) (by simp)
  have lb : Lim b := by
    simp only [List.mem_cons, List.not_mem_nil, or_false] at hb
    rcases hb with rfl | rfl | rfl | rfl | rfl
    · exact .inl rfl
    all_goals exact .inr ⟨_, rfl⟩
  obtain ⟨s4, r4, q4⟩ := four true (leastB a (s * v) && mostB b (s * v)) false false
  have t4 : tupF [.bl true, .bl (leastB a (s * v) && mostB b (s * v)), .bl false, .bl false] = some (.tup [.bl true, .bl (leastB a (s * v) && mostB b (s * v)), .bl false, .bl false]) := rfl
  refine ⟨w5, ?_, J5⟩
  have p60 : powD (.int 10) (.int 60) = some (.int (10 ^ 60)) := powD_ok (by decide) (by decide) (by decide)
  have n1 : negF (.int 1) = some (.int (-1)) := rfl
  have su : subD (.int (s * v)) (.int 1) = some (.int (s * v - 1)) := rfl
  have ad : addD (.int (s * v)) (.int 1) = some (.int (s * v + 1)) := rfl
  have l2 : lstF [.int (-1), .int 1] = some (.lst [.int (-1), .int 1]) := rfl
  have l3 : lstF [.int 3, .int 100, .int (10 ^ 60)] = some (.lst [.int 3, .int 100, .int (10 ^ 60)]) := if_pos (by decide)
  have l5 : ∀ x y z u v : D, lstF [x, y, z, u, v] = some (.lst [x, y, z, u, v]) := fun _ _ _ _ _ => if_pos (by simp [most])
  have b1 : (bin mulD (callE f__law_of (consA (var 0) (consA (mkA (consA (un negF (cst (.int 1))) (consA (cst (.int 1)) nilA)) lstF) nilA))) (callE f__law_ladle (consA (var 0) (consA (callE f__law_of (consA (var 0) (consA (mkA (consA (cst (.int 3)) (consA (cst (.int 100)) (consA (bin powD (cst (.int 10)) (cst (.int 60))) nilA))) lstF) nilA))) nilA)))) [.dat (.ptr 0), .non, .non, .non, .non] w = .ok (.dat (.int (s * v))) w3 := by
    simp only [bin, un, op1, op2, callE, consA, nilA, mkA, cst, var, Val.d, R.bind, List.getElem?_cons_zero, n1, l2, l3, p60, e1, e2, e3, em]
  have b2 : (callE f__law_of (consA (var 0) (consA (mkA (consA (cst .non) (consA (bin subD (var 1) (cst (.int 1))) (consA (var 1) (consA (bin addD (var 1) (cst (.int 1))) (consA (cst (.int 0)) nilA))))) lstF) nilA))) [.dat (.ptr 0), .dat (.int (s * v)), .non, .non, .non] w3 = .ok (.dat a) w4 := by
    simp only [bin, op2, callE, consA, nilA, mkA, cst, var, Val.d, R.bind, List.getElem?_cons_succ, List.getElem?_cons_zero, su, ad, l5, e4]
  have b3 : (callE f__law_of (consA (var 0) (consA (mkA (consA (cst .non) (consA (bin addD (var 1) (cst (.int 1))) (consA (var 1) (consA (bin subD (var 1) (cst (.int 1))) (consA (cst (.int 9)) nilA))))) lstF) nilA))) [.dat (.ptr 0), .dat (.int (s * v)), .dat a, .non, .non] w4 = .ok (.dat b) w5 := by
    simp only [bin, op2, callE, consA, nilA, mkA, cst, var, Val.d, R.bind, List.getElem?_cons_succ, List.getElem?_cons_zero, su, ad, l5, e5]
  have b4 : (mkA (consA (cst (.bl true)) (consA (andE (orE (bin (isN false) (var 2) (cst .non)) (bin leD (var 2) (var 1))) (orE (bin (isN false) (var 3) (cst .non)) (bin leD (var 1) (var 3)))) (consA (cst (.bl false)) (consA (cst (.bl false)) nilA)))) tupF) [.dat (.ptr 0), .dat (.int (s * v)), .dat a, .dat b, .non] w5 = .ok (.dat (.tup [.bl true, .bl (leastB a (s * v) && mostB b (s * v)), .bl false, .bl false])) w5 := by
    have z := limB (p := .dat (.ptr 0)) (x1 := .non) (x4 := .non) (w := w5) (s * v) la lb
    simp only [mkA, consA, nilA, cst, R.bind, z, t4]
  have x1 := integer_int (s * v) w5
  have x2 := within_int (s * v) w5 la lb
  have x3 := stem_int (s * v) w5
  have x4 := name_int (s * v) w5
  unfold f__law_number_right runD
  rw [st]
  unfold s__law_number_right
  rw [seq_go (set_go b1)]
  simp only [List.set_cons_succ, List.set_cons_zero]
  rw [seq_go (set_go b2)]
  simp only [List.set_cons_succ, List.set_cons_zero]
  rw [seq_go (set_go b3)]
  simp only [List.set_cons_succ, List.set_cons_zero]
  rw [seq_go (set_go b4)]
  simp only [List.set_cons_succ, List.set_cons_zero]
  simp only [seqS, retS, bin, un, op1, op2, mkA, consA, nilA, callE, cst, var, Val.d, R.bind, R.out, List.getElem?_cons_succ, List.getElem?_cons_zero, x1, x2, x3, x4, t4, r4, q4]
end K01

/-! k01: odd things; the pool. -/
namespace K01
open PySem DL JM
def Odd (d : D) : Prop := ∀ w a b, f_is_integer [d] w = .ok (.bl false) w ∧ f_is_within [d, a, b] w = .ok (.bl false) w ∧ f_is_stem [d] w = .ok (.bl false) w ∧ f_is_name [d] w = .ok (.bl false) w
theorem odd_non : Odd .non := fun w a b => ⟨integer_non w, within_non a b w, stem_non w, name_non w⟩
theorem odd_bl (z : Bool) : Odd (.bl z) := fun w a b => ⟨integer_bl z w, within_bl z a b w, stem_bl z w, name_bl z w⟩
theorem odd_lst (xs : List D) : Odd (.lst xs) := fun w a b => ⟨integer_lst xs w, within_lst xs a b w, stem_lst xs w, name_lst xs w⟩
theorem odd_tup (xs : List D) : Odd (.tup xs) := fun w a b => ⟨integer_tup xs w, within_tup xs a b w, stem_tup xs w, name_tup xs w⟩
theorem odd_dct (xs : List (L2.Key × D)) : Odd (.dct xs) := fun w a b => ⟨integer_dct xs w, within_dct xs a b w, stem_dct xs w, name_dct xs w⟩
theorem odd_str {x : Str} (h : x.length + 2 ≤ most) (h1 : stemB (tl x) = false) (h2 : nameB (tl x) = false) : Odd (.str x) := fun w a b => ⟨integer_str x w, within_str x a b w, by rw [stem_str x (Nat.le_trans (Nat.le_add_right _ 2) h) w, h1], by rw [name_str x h w, h2]⟩
theorem odd_right {k : Nat} {w : W} (J : Jar k w) (hk : k + 1 < 1048576) : ∃ w', f__law_odd_right [.ptr 0] w = .ok (.bl true) w' ∧ Jar (k + 1) w' := by
  have st : startD 3 [.ptr 0] = [.dat (.ptr 0), .non, .non] := rfl
  obtain ⟨d, w1, hd, e1, J1⟩ := of_mem (xs := [.non, .bl true, .bl false, .lst [], .lst [.str "a"], .tup [], .tup [.str "a"], .tup [.int 1], .dct [], .dct (mergeD [] [(.inr "a", .int 1)]), .lst [.int 1], .str "", .str "."]) J (by omega) (by simp) (by simp)
  have o : Odd d := by
    simp only [List.mem_cons, List.not_mem_nil, or_false] at hd
    rcases hd with rfl | rfl | rfl | rfl | rfl | rfl | rfl | rfl | rfl | rfl | rfl | rfl | rfl
    · exact odd_non
    · exact odd_bl _
    · exact odd_bl _
    · exact odd_lst _
    · exact odd_lst _
    · exact odd_tup _
    · exact odd_tup _
    · exact odd_tup _
    · exact odd_dct _
    · exact odd_dct _
    · exact odd_lst _
    · exact odd_str (by decide +kernel) (by decide +kernel) (by decide +kernel)
    · exact odd_str (by decide +kernel) (by decide +kernel) (by decide +kernel)
  refine ⟨w1, ?_, J1⟩
  obtain ⟨x1, x2, x3, x4⟩ := o w1 (.int 0) (.int 1)
  obtain ⟨_, x5, _, _⟩ := o w1 .non .non
  have l0 : lstF [] = some (.lst []) := rfl
  have l1 : ∀ x : D, lstF [x] = some (.lst [x]) := fun _ => rfl
  have t0 : tupF [] = some (.tup []) := rfl
  have t1 : ∀ x : D, tupF [x] = some (.tup [x]) := fun _ => rfl
  have l13 : lstF [.non, .bl true, .bl false, .lst [], .lst [.str "a"], .tup [], .tup [.str "a"], .tup [.int 1], .dct [], .dct (mergeD [] [(.inr "a", .int 1)]), .lst [.int 1], .str "", .str "."] = some (.lst [.non, .bl true, .bl false, .lst [], .lst [.str "a"], .tup [], .tup [.str "a"], .tup [.int 1], .dct [], .dct (mergeD [] [(.inr "a", .int 1)]), .lst [.int 1], .str "", .str "."]) := rfl
  have l5 : lstF [.bl false, .bl false, .bl false, .bl false, .bl false] = some (.lst [.bl false, .bl false, .bl false, .bl false, .bl false]) := rfl
  obtain ⟨s, r5, q5⟩ : ∃ s, reprF (.lst [.bl false, .bl false, .bl false, .bl false, .bl false]) = some (.str s) ∧ eqD (.str s) (.str s) = some (.bl true) := ⟨_, rfl, eq_self (by decide +kernel)⟩
  unfold f__law_odd_right runD
  rw [st]
  have h15 : (1 : Nat) ≤ 15 := by decide
  simp only [s__law_odd_right, seqS, setS, retS, bin, un, op1, op2, mkA, consA, nilA, dctE, consP, nilP, callE, cst, var, Val.d, R.bind, R.out, List.getElem?_cons_succ, List.getElem?_cons_zero, List.set_cons_succ, List.set_cons_zero, List.length_cons, List.length_nil, Nat.zero_add, h15, if_true, l0, l1, t0, t1, l13, e1, x1, x2, x3, x4, x5, l5, r5, q5]
/-! ### the pool -/
theorem pool_ok {ns : List Int} (h : ns.length ≤ 63) : f__law_pool [.scr ns] [] = .ok (.ptr 0) [jarC ns 0 0] := by
  have st : startD 2 [.scr ns] = [.dat (.scr ns), .non] := rfl
  have cut : cutD none (some 63) (.scr ns) = some (.lst (ns.map .int)) := by
    show some (D.lst (((ns.drop 0).take (HT.sIx ns.length ns.length (some ((63 : Nat) : Int)) - 0)).map .int)) = _
    rw [HT.sIx_nat, List.drop_zero, List.take_of_length_le (by omega)]
  have lc : lcL (nameG 1) yesT (un intF (var 1)) (wipeS [.dat (.scr ns), .non] [1]) (ns.map .int) [] [] = .ok ([] ++ (ns.map D.int).map id) [] :=
    lcL_pure (f := id) (ns.map .int) [] (fun d hd => by
      obtain ⟨i, _, rfl⟩ := List.mem_map.mp hd
      rfl) (by rw [List.length_map]; show 0 + ns.length ≤ 16777216; omega)
  rw [List.nil_append, List.map_id] at lc
  unfold f__law_pool runD
  rw [st]
  have i63 : part (cst (.int 63)) [.dat (.scr ns), .non] [] = .ok (some 63) [] := rfl
  have m3 : ((0 : Nat) + 1 + 1 + 1 ≤ most) := by decide
  simp only [s__law_pool, seqS, newW, lstO, lcE, walkI, slice, noPart, i63, op1, consA, nilA, cst, var, Val.d, R.bind, R.out, List.getElem?_cons_succ, List.getElem?_cons_zero, List.length_cons, List.length_nil, cut, walkD, lc, m3, if_true]
  rfl
end K01

/-! k01: joined names. -/
namespace K01
open PySem DL JM
abbrev jn (ps : List Str) : Str := Txt.join "." ps
theorem joinL_app (S : List Nat) : ∀ {a b : List (List Nat)}, a ≠ [] → b ≠ [] → TL.joinL S (a ++ b) = TL.joinL S a ++ (S ++ TL.joinL S b)
  | [], _, h, _ => absurd rfl h
  | [p], b, _, hb => by
    cases b with
    | nil => exact absurd rfl hb
    | cons q r => rfl
  | p :: q :: r, b, _, hb => by
    have ih := joinL_app S (a := q :: r) (b := b) (by simp) hb
    show p ++ (S ++ TL.joinL S (q :: r ++ b)) = p ++ (S ++ TL.joinL S (q :: r)) ++ (S ++ TL.joinL S b)
    rw [ih]
    simp only [List.append_assoc]
theorem tl_jn (ps : List Str) : TL.tl (jn ps) = TL.joinL [46] (ps.map TL.tl) := by
  show TL.tl (Txt.join "." ps) = _
  rw [TL.join_eq, TL.tl_join, dot_tl]
theorem jn_flat : ∀ {SS : List (List Str)}, (∀ ps ∈ SS, ps ≠ []) → SS ≠ [] → jn (SS.map jn) = jn SS.flatten
  | [], _, h => absurd rfl h
  | [ps], _, _ => by
    apply TL.ext_tl
    rw [tl_jn, tl_jn]
    show TL.tl (jn ps) = _
    rw [tl_jn]
    simp
  | ps :: qs :: r, h, _ => by
    have ih := jn_flat (SS := qs :: r) (fun z hz => h z (List.mem_cons_of_mem _ hz)) (by simp)
    have ih2 := congrArg TL.tl ih
    rw [tl_jn, tl_jn] at ih2
    apply TL.ext_tl
    rw [tl_jn, tl_jn]
    have f0 : (qs :: r).flatten ≠ [] := by
      have := h qs (by simp)
      cases qs with
      | nil => exact absurd rfl this
      | cons a b => simp
    rw [List.flatten_cons, List.map_append, joinL_app _ (by have := h ps (by simp); cases ps with | nil => exact absurd rfl this | cons a b => simp) (by cases q : (qs :: r).flatten with | nil => exact absurd q f0 | cons a b => simp)]
    show TL.tl (jn ps) ++ ([46] ++ TL.joinL [46] (((qs :: r).map jn).map TL.tl)) = _
    rw [ih2, tl_jn]
theorem split_jn {ps : List Str} (h0 : ps ≠ []) (h : ∀ p ∈ ps, Good (tl p)) : Txt.split (jn ps) "." = ps :=
  TL.split_join dot_tl (by decide +kernel) h0 fun p hp m => (lowdig_lt ((h p hp).2.2 46 m)).2 rfl
theorem toPyA_strs : ∀ ps : List Str, toPyA (ps.map .str) = some (ps.map .str)
  | [] => rfl
  | p :: r => by simp only [List.map_cons, toPyA, toPy, toPyA_strs r]
theorem strOk_of {x : Str} (h : ∀ c ∈ tl x, c < 128) : PyData.strOk x = true := by
  unfold PyData.strOk
  rw [← Array.all_toList]
  exact List.all_eq_true.mpr fun c hc => decide_eq_true (by have := h c hc; omega)
theorem lay_strs : ∀ {ps : List Str}, (∀ p ∈ ps, ∀ c ∈ tl p, c < 128) → PyData.canLayAll0 (ps.map .str) = true
  | [], _ => rfl
  | p :: r, h => by
    simp only [List.map_cons, PyData.canLayAll0, PyData.canLay0, strOk_of (h p List.mem_cons_self), lay_strs (ps := r) fun z hz => h z (List.mem_cons_of_mem _ hz), Bool.and_self]
theorem depth_strs : ∀ ps : List Str, PyData.depthAll (ps.map .str) = 0
  | [] => rfl
  | p :: r => by simp only [List.map_cons, PyData.depthAll, PyData.depth, depth_strs r, Nat.max_self]
theorem eqv_strs : ∀ ps : List Str, PyData.eqvAll (ps.map .str) (ps.map .str) = true
  | [] => rfl
  | p :: r => by
    simp only [List.map_cons, PyData.eqvAll, eqv_strs r, Bool.and_true]
    exact beq_self_eq_true p
theorem eq_strs {ps : List Str} (h : ∀ p ∈ ps, ∀ c ∈ tl p, c < 128) : eqD (.lst (ps.map .str)) (.lst (ps.map .str)) = some (.bl true) := by
  have h1 : SeqAt.shaped (.list (ps.map .str)) = true := by
    unfold SeqAt.shaped
    simp only [PyData.canLay0, PyData.depth, lay_strs h, depth_strs, Bool.true_and]
    decide
  have h3 : PyData.eqv (.list (ps.map .str)) (.list (ps.map .str)) = true := eqv_strs ps
  simp only [eqD, eqB, toPy, toPyA_strs, Option.map_some, h1, h3, Bool.and_self, if_true]
/-! ### joined_name -/
def many6 (n : Nat) : Bool := decide (6 < n)
theorem joined_ok {ns : List Str} {made : Str} (w : W) (hj : joinD (.str ".") (.lst (ns.map .str)) = some (.str made)) (hm : made.length + 2 ≤ most) : f_joined_name (ns.map .str) w =
    if many6 (Txt.split made ".").length then .exc ⟨"TooMany", [("most", .int 6), ("what", .str "stems")]⟩ w else .ok (.str made) w := by
  have st : startD 2 [.tup (ns.map .str)] = [.dat (.tup (ns.map .str)), .non] := rfl
  have lf : listF (.tup (ns.map .str)) = some (.lst (ns.map .str)) := rfl
  have sp : splitD (.str made) (.str ".") = some (.lst ((Txt.split made ".").map .str)) := by
    show (if _ then _ else _) = _
    rw [if_pos ⟨by decide +kernel, hm⟩]
  have l : lenD (.lst ((Txt.split made ".").map .str)) = some (.int ((Txt.split made ".").length : Nat)) := by
    show some (D.int (((Txt.split made ".").map D.str).length : Nat)) = _
    rw [List.length_map]
  have g : gtD (.int ((Txt.split made ".").length : Nat)) (.int 6) = some (.bl (many6 (Txt.split made ".").length)) :=
    congrArg (fun b => some (D.bl b)) (decide_eq_decide.mpr (by omega))
  unfold f_joined_name runD
  rw [st]
  cases q : many6 (Txt.split made ".").length with
  | true =>
    rw [q] at g
    simp only [s_joined_name, seqS, setS, ifS, asB, retS, raiseS, strE, bin, un, op1, op2, consA, nilA, cst, var, Val.d, R.bind, R.out, List.getElem?_cons_succ, List.getElem?_cons_zero, List.set_cons_succ, List.set_cons_zero, lf, hj, sp, l, g, if_true]
    rfl
  | false =>
    rw [q] at g
    simp only [s_joined_name, seqS, setS, ifS, asB, retS, nextS, strE, bin, un, op1, op2, cst, var, Val.d, R.bind, R.out, List.getElem?_cons_succ, List.getElem?_cons_zero, List.set_cons_succ, List.set_cons_zero, lf, hj, sp, l, g, Bool.false_eq_true, if_false]
theorem joined4_ok {ns : List Str} (w : W) (h0 : ns ≠ []) (h4 : ns.length ≤ 4) : f__law_joined [.lst (ns.map .str)] w = f_joined_name (ns.map .str) w := by
  have st : ∀ d : D, startD 1 [d] = [.dat d] := fun _ => rfl
  match ns, h0, h4 with
  | [a], _, _ =>
    show f__law_joined _ w = f_joined_name [.str a] w
    have l : lenD (.lst ([a].map .str)) = some (.int 1) := rfl
    have q := eq_int 1 1
    have i0 : ixD (.lst ([a].map .str)) (.int 0) = some (.str a) := rfl
    unfold f__law_joined runD
    rw [st]
    simp only [s__law_joined, seqS, ifS, asB, retS, bin, un, op1, op2, callE, consA, nilA, cst, var, Val.d, R.bind, R.out, List.getElem?_cons_zero, l, q, i0, decide_true, if_true]
    cases f_joined_name [.str a] w <;> rfl
  | [a, b], _, _ =>
    show f__law_joined _ w = f_joined_name [.str a, .str b] w
    have l : lenD (.lst ([a, b].map .str)) = some (.int 2) := rfl
    have q1 : eqD (.int 2) (.int 1) = some (.bl false) := eq_int 2 1
    have q2 : eqD (.int 2) (.int 2) = some (.bl true) := eq_int 2 2
    have i0 : ixD (.lst ([a, b].map .str)) (.int 0) = some (.str a) := rfl
    have i1 : ixD (.lst ([a, b].map .str)) (.int 1) = some (.str b) := rfl
    unfold f__law_joined runD
    rw [st]
    simp only [s__law_joined, seqS, ifS, asB, retS, nextS, bin, un, op1, op2, callE, consA, nilA, cst, var, Val.d, R.bind, R.out, List.getElem?_cons_zero, l, q1, q2, i0, i1, if_true, Bool.false_eq_true, if_false]
    cases f_joined_name [.str a, .str b] w <;> rfl
  | [a, b, c], _, _ =>
    show f__law_joined _ w = f_joined_name [.str a, .str b, .str c] w
    have l : lenD (.lst ([a, b, c].map .str)) = some (.int 3) := rfl
    have q1 : eqD (.int 3) (.int 1) = some (.bl false) := eq_int 3 1
    have q2 : eqD (.int 3) (.int 2) = some (.bl false) := eq_int 3 2
    have q3 : eqD (.int 3) (.int 3) = some (.bl true) := eq_int 3 3
    have i0 : ixD (.lst ([a, b, c].map .str)) (.int 0) = some (.str a) := rfl
    have i1 : ixD (.lst ([a, b, c].map .str)) (.int 1) = some (.str b) := rfl
    have i2 : ixD (.lst ([a, b, c].map .str)) (.int 2) = some (.str c) := rfl
    unfold f__law_joined runD
    rw [st]
    simp only [s__law_joined, seqS, ifS, asB, retS, nextS, bin, un, op1, op2, callE, consA, nilA, cst, var, Val.d, R.bind, R.out, List.getElem?_cons_zero, l, q1, q2, q3, i0, i1, i2, if_true, Bool.false_eq_true, if_false]
    cases f_joined_name [.str a, .str b, .str c] w <;> rfl
  | [a, b, c, d], _, _ =>
    show f__law_joined _ w = f_joined_name [.str a, .str b, .str c, .str d] w
    have l : lenD (.lst ([a, b, c, d].map .str)) = some (.int 4) := rfl
    have q1 : eqD (.int 4) (.int 1) = some (.bl false) := eq_int 4 1
    have q2 : eqD (.int 4) (.int 2) = some (.bl false) := eq_int 4 2
    have q3 : eqD (.int 4) (.int 3) = some (.bl false) := eq_int 4 3
    have i0 : ixD (.lst ([a, b, c, d].map .str)) (.int 0) = some (.str a) := rfl
    have i1 : ixD (.lst ([a, b, c, d].map .str)) (.int 1) = some (.str b) := rfl
    have i2 : ixD (.lst ([a, b, c, d].map .str)) (.int 2) = some (.str c) := rfl
    have i3 : ixD (.lst ([a, b, c, d].map .str)) (.int 3) = some (.str d) := rfl
    unfold f__law_joined runD
    rw [st]
    simp only [s__law_joined, seqS, ifS, asB, retS, nextS, bin, un, op1, op2, callE, consA, nilA, cst, var, Val.d, R.bind, R.out, List.getElem?_cons_zero, l, q1, q2, q3, i0, i1, i2, i3, if_true, Bool.false_eq_true, if_false]
    cases f_joined_name [.str a, .str b, .str c, .str d] w <;> rfl
end K01

/-! k01: the question about joined names; the law. -/
namespace K01
open PySem DL JM
def Stems (ps : List Str) : Prop := ps ≠ [] ∧ ps.length ≤ 3 ∧ ∀ p ∈ ps, Good (tl p) ∧ (tl p).length ≤ 12
theorem flat_len : ∀ {SS : List (List Str)}, (∀ ps ∈ SS, Stems ps) → SS.flatten.length ≤ 3 * SS.length
  | [], _ => Nat.zero_le _
  | ps :: r, h => by
    have h1 := (h ps List.mem_cons_self).2.1
    have ih := flat_len (SS := r) fun z hz => h z (List.mem_cons_of_mem _ hz)
    rw [List.flatten_cons, List.length_append, List.length_cons]
    omega
theorem jn_plain {n : Nat} {ps : List Str} (h : ∀ p ∈ ps, Plain n p) : Plain (ps.length * (n + 1)) (jn ps) := by
  have key := joinL_plain (n := n) (ps.map TL.tl) fun p hp => by
    obtain ⟨q, hq, rfl⟩ := List.mem_map.mp hp
    exact h q hq
  have e : tl (jn ps) = TL.joinL [46] (ps.map TL.tl) := tl_jn ps
  refine ⟨by rw [e]; have := key.1; rw [List.length_map] at this; exact this, fun c hc => key.2 c (by rw [← e]; exact hc)⟩
def bodyJ : SemS := (seqS (setS 5 (lcE (range1I (consA (callE f__law_of (consA (var 0) (consA (mkA (consA (cst (.int 1)) (consA (cst (.int 1)) (consA (cst (.int 2)) (consA (cst (.int 3)) nilA)))) lstF) nilA))) nilA)) (nameG 8) yesT (callE f__law_stem (consA (var 0) (consA (cst (.int 12)) nilA))) [8]))
  (seqS (setS 3 (bin addD (var 3) (var 5)))
  (seqS (appS 4 (bin joinD (strE (cst (.str "."))) (var 5)))
  nextS)))
abbrev rhoJ (SS : List (List Str)) (x1 x5 : Slot) : List Slot := [.dat (.ptr 0), x1, .non, .dat (.lst (SS.flatten.map .str)), .own (.lst ((SS.map jn).map .str)), x5, .non, .non, .non]
theorem body_ok {k : Nat} {w : W} {SS : List (List Str)} {x1 x5 : Slot} (J : Jar k w) (hk : k + 61 < 1048576) (hS : ∀ ps ∈ SS, Stems ps) (hl : SS.length ≤ 3) : ∃ ps x5' w', bodyJ (rhoJ SS x1 x5) w = .nx (rhoJ (SS ++ [ps]) x1 x5') w' ∧ Stems ps ∧ Jar (k + 61) w' := by
  obtain ⟨d, w1, hd, e1, J1⟩ := of_mem (xs := [.int 1, .int 1, .int 2, .int 3]) J (by omega) (by simp) (by simp)
  obtain ⟨n, rfl, n0, n1⟩ : ∃ n : Int, d = .int n ∧ 1 ≤ n ∧ n ≤ 3 := by
    simp only [List.mem_cons, List.not_mem_nil, or_false] at hd
    rcases hd with rfl | rfl | rfl | rfl <;> exact ⟨_, rfl, by omega, by omega⟩
  have hn : n.toNat ≤ 3 := by omega
  obtain ⟨ys, w2, e2, l2, p2, J2⟩ := lcL_jar (i := 8) (c := 20) (B := k + 61) (P := St 12) (ρ := wipeS (rhoJ SS x1 x5) [8])
    (se := callE f__law_stem (consA (var 0) (consA (cst (.int 12)) nilA))) (rangeD 0 n.toNat) [] (k + 1) w1 J1 (fun d hd j v Jv hv => by
      obtain ⟨s, v', ev, gs, ls, Jv'⟩ := stem_ok (m := 12) Jv (by omega) (by decide) (by decide)
      refine ⟨_, v', ?_, ⟨s, rfl, gs, by omega⟩, Jv'⟩
      simp only [wipeS, List.set_cons_succ, List.set_cons_zero, callE, consA, nilA, cst, var, R.bind, List.getElem?_cons_zero, ev]) (by rw [rangeD_len]; omega) (by rw [rangeD_len]; show 0 + n.toNat ≤ 16777216; omega)
  obtain ⟨ps, rfl, hps⟩ := st_list p2
  rw [List.nil_append] at e2
  rw [List.length_map, rangeD_len] at l2
  rw [rangeD_len] at J2
  obtain ⟨ej, pj⟩ := join_plain (n := 12) (ps := ps) (fun p hp => good_plain (hps p hp).1 (hps p hp).2) (by rw [l2]; omega)
  have fl := flat_len hS
  refine ⟨ps, .dat (.lst (ps.map .str)), w2, ?_, ⟨fun z => by rw [z] at l2; simp at l2; omega, by omega, hps⟩, J2.mono (by omega)⟩
  have rg : -(2 ^ 62) ≤ n ∧ n < 2 ^ 62 := by omega
  have l4 : lstF [.int 1, .int 1, .int 2, .int 3] = some (.lst [.int 1, .int 1, .int 2, .int 3]) := rfl
  have ea : addD (.lst (SS.flatten.map .str)) (.lst (ps.map .str)) = some (.lst ((SS ++ [ps]).flatten.map .str)) := by
    show (if (SS.flatten.map D.str).length + (ps.map D.str).length ≤ most then some (D.lst (SS.flatten.map D.str ++ ps.map D.str)) else none) = _
    rw [if_pos (by rw [List.length_map, List.length_map]; show _ ≤ 16777216; omega), ← List.map_append]
    simp
  have ap : appF (.str (jn ps)) (.lst ((SS.map jn).map .str)) = some (.lst (((SS ++ [ps]).map jn).map .str)) := by
    show (if ((SS.map jn).map D.str).length < most then some (Cell.lst ((SS.map jn).map D.str ++ [D.str (jn ps)])) else none) = _
    rw [if_pos (by rw [List.length_map, List.length_map]; show _ < 16777216; omega)]
    simp
  simp only [bodyJ, rhoJ, seqS, setS, appS, lstAt, chg, cst, var, R.bind, R.out, lcE, range1I, consA, nilA, callE, mkA, l4, bin, op2, strE, Val.d, List.getElem?_cons_succ, List.getElem?_cons_zero, List.set_cons_succ, List.set_cons_zero, e1, rg, and_self, if_true, e2, ea, ej, ap, nextS, Option.map_some]
theorem loopJ : ∀ (items : List D) (SS : List (List Str)) (x1 x5 : Slot) (k : Nat) (w : W), Jar k w → (∀ ps ∈ SS, Stems ps) → SS.length + items.length ≤ 4 → k + 61 * items.length < 1048576 →
    ∃ SS' x1' x5' w', forL (nameG 1) bodyJ items (rhoJ SS x1 x5) w = .nx (rhoJ SS' x1' x5') w' ∧ (∀ ps ∈ SS', Stems ps) ∧ SS'.length = SS.length + items.length ∧ Jar (k + 61 * items.length) w'
  | [], SS, x1, x5, k, w, J, hS, _, _ => ⟨SS, x1, x5, w, rfl, hS, rfl, by simpa using J⟩
  | d :: r, SS, x1, x5, k, w, J, hS, hl, hk => by
    rw [List.length_cons] at hl hk
    obtain ⟨ps, x5', w1, e1, hp, J1⟩ := body_ok (x1 := .dat d) (x5 := x5) J (by omega) hS (by omega)
    obtain ⟨SS', x1', x5'', w2, e2, h2, l2, J2⟩ := loopJ r (SS ++ [ps]) (.dat d) x5' (k + 61) w1 J1 (fun z hz => by
      rcases List.mem_append.mp hz with h | h
      · exact hS z h
      · rw [List.mem_singleton.mp h]; exact hp) (by rw [List.length_append, List.length_singleton]; omega) (by omega)
    refine ⟨SS', x1', x5'', w2, ?_, h2, by rw [l2, List.length_append, List.length_singleton, List.length_cons]; omega, J2.mono (by rw [List.length_cons]; omega)⟩
    unfold forL
    simp only [nameG, rhoJ, List.set_cons_succ, List.set_cons_zero]
    rw [e1]
    exact e2
theorem reprF_ok {d : D} {p : PyData} (h1 : isSeqD d = true) (h2 : toPy d = some p) (c : (p.showable && !p.hasDict && decide (p.depth ≤ 60) && decide (p.shown.length ≤ most)) = true) : reprF d = some (.str p.shown) := by
  unfold reprF
  rw [if_pos h1, h2]
  exact if_pos c
theorem joined_right {k : Nat} {w : W} (J : Jar k w) (hk : k + 300 < 1048576) : ∃ w', f__law_joined_right [.ptr 0] w = .ok (.bl true) w' ∧ Jar (k + 300) w' := by
  have st : startD 9 [.ptr 0] = [.dat (.ptr 0), .non, .non, .non, .non, .non, .non, .non, .non] := rfl
  obtain ⟨v, w1, e1, v0, v1, J1⟩ := ladle_ok (m := 4) J (by omega) (by decide) (by decide +kernel)
  obtain ⟨SS, x1, x5, w2, e2, hS, lS, J2⟩ := loopJ (rangeD 0 (1 + v).toNat) [] .non .non (k + 1) w1 J1 (fun _ h => by cases h) (by rw [rangeD_len]; simp; omega) (by rw [rangeD_len]; omega)
  rw [rangeD_len] at lS J2
  have n0 : SS ≠ [] := fun z => by rw [z] at lS; simp at lS; omega
  have n4 : SS.length ≤ 4 := by rw [lS]; simp; omega
  have fl := flat_len hS
  have gd : ∀ p ∈ SS.flatten, Good (tl p) ∧ (tl p).length ≤ 12 := fun p hp => by
    obtain ⟨ps, h1, h2⟩ := List.mem_flatten.mp hp
    exact (hS ps h1).2.2 p h2
  have f0 : SS.flatten ≠ [] := fun z => by
    cases SS with
    | nil => exact n0 rfl
    | cons ps r =>
      rw [List.flatten_cons] at z
      exact (hS ps List.mem_cons_self).1 (List.append_eq_nil_iff.mp z).1
  have same : jn (SS.map jn) = jn SS.flatten := jn_flat (fun ps hp => (hS ps hp).1) n0
  have sp : Txt.split (jn SS.flatten) "." = SS.flatten := split_jn f0 fun p hp => (gd p hp).1
  obtain ⟨ej, pj⟩ := join_plain (n := 39) (ps := SS.map jn) (fun p hp => by
    obtain ⟨ps, h1, rfl⟩ := List.mem_map.mp hp
    have z := jn_plain (n := 12) (ps := ps) fun q hq => good_plain ((hS ps h1).2.2 q hq).1 ((hS ps h1).2.2 q hq).2
    exact ⟨Nat.le_trans z.1 (by have := (hS ps h1).2.1; omega), z.2⟩) (by rw [List.length_map]; omega)
  have ej : joinD (.str ".") (.lst ((SS.map jn).map .str)) = some (.str (jn SS.flatten)) := ej.trans (congrArg (fun z => some (D.str z)) same)
  have pj : Plain 1000 (jn SS.flatten) := same ▸ (show Plain 1000 (jn (SS.map jn)) from pj)
  have hm : (jn SS.flatten).length + 2 ≤ most := by
    rw [JM.len_tl]
    have := pj.1
    show _ ≤ 16777216
    omega
  have call := joined_ok (ns := SS.map jn) w2 ej hm
  rw [sp] at call
  have call4 := joined4_ok (ns := SS.map jn) w2 (by simpa using n0) (by rw [List.length_map]; exact n4)
  rw [call] at call4
  refine ⟨w2, ?_, J2.mono (by omega)⟩
  have rg : -(2 ^ 62) ≤ 1 + v ∧ 1 + v < 2 ^ 62 := by omega
  have ad : addD (.int 1) (.int v) = some (.int (1 + v)) := rfl
  have l : lenD (.lst (SS.flatten.map .str)) = some (.int (SS.flatten.length : Nat)) := by
    show some (D.int ((SS.flatten.map D.str).length : Nat)) = _
    rw [List.length_map]
  have g : gtD (.int (SS.flatten.length : Nat)) (.int 6) = some (.bl (many6 SS.flatten.length)) := congrArg (fun b => some (D.bl b)) (decide_eq_decide.mpr (by omega))
  have i9 : 2 < (rhoJ SS x1 x5).length := by show 2 < 9; decide
  have step1 : (parO 3 4 (datO (mkA nilA lstF)) (lstO nilA)) [.dat (.ptr 0), .non, .non, .non, .non, .non, .non, .non, .non] w = .nx (rhoJ [] .non .non) w := rfl
  have step2 : (forS (range1I (consA (bin addD (cst (.int 1)) (callE f__law_ladle (consA (var 0) (consA (cst (.int 4)) nilA)))) nilA)) (nameG 1) bodyJ) (rhoJ [] .non .non) w = .nx (rhoJ SS x1 x5) w2 := by
    simp only [forS, range1I, consA, nilA, bin, op2, callE, cst, var, Val.d, R.bind, R.out, List.getElem?_cons_zero, e1, ad, rg, and_self, if_true]
    exact e2
  have step3 : (asgS (mkA (consA (cst (.str "")) (consA (mkA nilA tupF) nilA)) tupF) (tupG 2 (consG (nameG 6) (consG (nameG 7) nilG)))) (rhoJ SS x1 x5) w2 = .nx [.dat (.ptr 0), x1, .non, .dat (.lst (SS.flatten.map .str)), .own (.lst ((SS.map jn).map .str)), x5, .dat (.str ""), .dat (.tup []), .non] w2 := rfl
  have es : s__law_joined_right = seqS (parO 3 4 (datO (mkA nilA lstF)) (lstO nilA)) (seqS (forS (range1I (consA (bin addD (cst (.int 1)) (callE f__law_ladle (consA (var 0) (consA (cst (.int 4)) nilA)))) nilA)) (nameG 1) bodyJ) (seqS (asgS (mkA (consA (cst (.str "")) (consA (mkA nilA tupF) nilA)) tupF) (tupG 2 (consG (nameG 6) (consG (nameG 7) nilG))))
    (seqS (frzS 4 (tryS2 6 2 "TooMany" f__law_joined (consA (var 4) nilA) (suiteS "TooMany" 7 (consX (fun x => x.fs.lookup ("what" : Str)) (consX (fun x => x.fs.lookup ("most" : Str)) (consX (fun _ => some (.bl true)) (fun _ => some [])))))))
    (seqS (ifS (asB (bin gtD (un lenD (var 3)) (cst (.int 6)))) (seqS (retS (andE (bin eqD (un reprF (var 7)) (un reprF (mkA (consA (cst (.str "stems")) (consA (cst (.int 6)) (consA (cst (.bl true)) nilA))) tupF))) (bin eqD (var 6) (cst (.str "")))))
    nextS) nextS)
    (seqS (retS (andE (bin eqD (var 7) (mkA nilA tupF)) (andE (un (isiD "str") (var 6)) (andE (bin eqD (bin splitD (strE (var 6)) (cst (.str "."))) (var 3)) (bin isBD (callE f_is_name (consA (var 6) nilA)) (cst (.bl true)))))))
    nextS))))) := rfl
  unfold f__law_joined_right runD
  rw [st, es, seq_go step1, seq_go step2, seq_go step3]
  cases q : many6 SS.flatten.length with
  | true =>
    rw [q] at call4 g
    have step4 : (frzS 4 (tryS2 6 2 "TooMany" f__law_joined (consA (var 4) nilA) (suiteS "TooMany" 7 (consX (fun x => x.fs.lookup ("what" : Str)) (consX (fun x => x.fs.lookup ("most" : Str)) (consX (fun _ => some (.bl true)) (fun _ => some [])))))))
        [.dat (.ptr 0), x1, .non, .dat (.lst (SS.flatten.map .str)), .own (.lst ((SS.map jn).map .str)), x5, .dat (.str ""), .dat (.tup []), .non] w2 = .nx [.dat (.ptr 0), x1, .non, .dat (.lst (SS.flatten.map .str)), .dat (.lst ((SS.map jn).map .str)), x5, .dat (.str ""), .dat (.tup [.str "stems", .int 6, .bl true]), .non] w2 := by
      have sa : (consA (var 4) nilA) [.dat (.ptr 0), x1, .non, .dat (.lst (SS.flatten.map .str)), .dat (.lst ((SS.map jn).map .str)), x5, .dat (.str ""), .dat (.tup []), .non] w2 = .ok [.lst ((SS.map jn).map .str)] w2 := rfl
      have fz : frz 4 [.dat (.ptr 0), x1, .non, .dat (.lst (SS.flatten.map .str)), .own (.lst ((SS.map jn).map .str)), x5, .dat (.str ""), .dat (.tup []), .non] = [.dat (.ptr 0), x1, .non, .dat (.lst (SS.flatten.map .str)), .dat (.lst ((SS.map jn).map .str)), x5, .dat (.str ""), .dat (.tup []), .non] := rfl
      have lk1 : ([("most", .int 6), ("what", .str "stems")] : List (Str × D)).lookup ("what" : Str) = some (.str "stems") := rfl
      have lk2 : ([("most", .int 6), ("what", .str "stems")] : List (Str × D)).lookup ("most" : Str) = some (.int 6) := rfl
      unfold frzS tryS2 tryS
      rw [fz, if_pos (by simp), sa]
      simp only [call4, if_true, suiteS, consX, lk1, lk2, Option.bind_some, Option.map_some]
      rfl
    rw [seq_go step4]
    obtain ⟨s, r5, q5⟩ : ∃ s, reprF (.tup [.str "stems", .int 6, .bl true]) = some (.str s) ∧ eqD (.str s) (.str s) = some (.bl true) := ⟨_, reprF_ok (p := .tuple [.str "stems", .int 6, .bool true]) rfl rfl (by decide +kernel), eq_self (by decide +kernel)⟩
    have t3 : tupF [.str "stems", .int 6, .bl true] = some (.tup [.str "stems", .int 6, .bl true]) := rfl
    have q6 : eqD (.str "") (.str "") = some (.bl true) := eq_self (by decide +kernel)
    simp only [seqS, ifS, asB, retS, andE, bin, un, op1, op2, mkA, consA, nilA, cst, var, Val.d, R.bind, R.out, List.getElem?_cons_succ, List.getElem?_cons_zero, l, g, if_true, t3, r5, q5, q6]
  | false =>
    rw [q] at call4 g
    have step4 : (frzS 4 (tryS2 6 2 "TooMany" f__law_joined (consA (var 4) nilA) (suiteS "TooMany" 7 (consX (fun x => x.fs.lookup ("what" : Str)) (consX (fun x => x.fs.lookup ("most" : Str)) (consX (fun _ => some (.bl true)) (fun _ => some [])))))))
        [.dat (.ptr 0), x1, .non, .dat (.lst (SS.flatten.map .str)), .own (.lst ((SS.map jn).map .str)), x5, .dat (.str ""), .dat (.tup []), .non] w2 = .nx [.dat (.ptr 0), x1, .non, .dat (.lst (SS.flatten.map .str)), .dat (.lst ((SS.map jn).map .str)), x5, .dat (.str (jn SS.flatten)), .dat (.tup []), .non] w2 := by
      have sa : (consA (var 4) nilA) [.dat (.ptr 0), x1, .non, .dat (.lst (SS.flatten.map .str)), .dat (.lst ((SS.map jn).map .str)), x5, .dat (.str ""), .dat (.tup []), .non] w2 = .ok [.lst ((SS.map jn).map .str)] w2 := rfl
      have fz : frz 4 [.dat (.ptr 0), x1, .non, .dat (.lst (SS.flatten.map .str)), .own (.lst ((SS.map jn).map .str)), x5, .dat (.str ""), .dat (.tup []), .non] = [.dat (.ptr 0), x1, .non, .dat (.lst (SS.flatten.map .str)), .dat (.lst ((SS.map jn).map .str)), x5, .dat (.str ""), .dat (.tup []), .non] := rfl
      unfold frzS tryS2 tryS
      rw [fz, if_pos (by simp), sa]
      simp only [call4, Bool.false_eq_true, if_false]
      rfl
    rw [seq_go step4]
    have t0 : tupF [] = some (.tup []) := rfl
    have q1 : eqD (.tup []) (.tup []) = some (.bl true) := rfl
    have sp2 : splitD (.str (jn SS.flatten)) (.str ".") = some (.lst (SS.flatten.map .str)) := by
      show (if _ then _ else _) = _
      rw [if_pos ⟨by decide +kernel, hm⟩, sp]
    have q2 := eq_strs (ps := SS.flatten) fun p hp c hc => by have := (lowdig_lt ((gd p hp).1.2.2 c hc)).1; omega
    have nm : nameB (tl (jn SS.flatten)) = true := by
      have e := split_dot (jn SS.flatten)
      rw [sp] at e
      unfold nameB
      rw [← e, List.length_map, List.all_map]
      have h6 : SS.flatten.length ≤ 6 := by
        have := of_decide_eq_false q
        omega
      rw [decide_eq_true h6, Bool.true_and]
      exact List.all_eq_true.mpr fun p hp => (stemB_iff _).mpr (gd p hp)
    have x1' := name_str (jn SS.flatten) hm w2
    rw [nm] at x1'
    have ib : isBD (.bl true) (.bl true) = some (.bl true) := rfl
    simp only [seqS, ifS, asB, retS, nextS, andE, bin, un, op1, op2, mkA, consA, nilA, strE, callE, cst, var, Val.d, R.bind, R.out, List.getElem?_cons_succ, List.getElem?_cons_zero, l, g, if_true, Bool.false_eq_true, if_false, t0, q1, isiD, D.ty, Option.bind_some, Option.map_some, k_str_str, sp2, q2, x1', ib]
end K01

/-! k01: the law. -/
namespace K01
open PySem DL JM
def roundS : SemS := (seqS (ifS (orT (notT (truE (callE f__law_text_right (consA (var 1) nilA)))) (notT (truE (callE f__law_number_right (consA (var 1) nilA))))) (seqS (retS (cst (.bl false)))
  nextS) nextS)
  (seqS (ifS (orT (notT (truE (callE f__law_odd_right (consA (var 1) nilA)))) (notT (truE (callE f__law_joined_right (consA (var 1) nilA))))) (seqS (retS (cst (.bl false)))
  nextS) nextS)
  nextS))
theorem round_ok {k : Nat} {w : W} {x0 x2 : Slot} (J : Jar k w) (hk : k + 600 < 1048576) : ∃ w', roundS [x0, .dat (.ptr 0), x2] w = .nx [x0, .dat (.ptr 0), x2] w' ∧ Jar (k + 600) w' := by
  obtain ⟨w1, e1, J1⟩ := text_right J (by omega)
  obtain ⟨w2, e2, J2⟩ := number_right J1 (by omega)
  obtain ⟨w3, e3, J3⟩ := odd_right J2 (by omega)
  obtain ⟨w4, e4, J4⟩ := joined_right J3 (by omega)
  refine ⟨w4, ?_, J4.mono (by omega)⟩
  simp only [roundS, seqS, ifS, orT, notT, truE, truD, callE, consA, nilA, var, Val.d, R.bind, R.out, List.getElem?_cons_succ, List.getElem?_cons_zero, e1, e2, e3, e4, Bool.not_true, Bool.false_eq_true, if_false, nextS]
theorem rounds_ok : ∀ (items : List D) (k : Nat) (w : W) (x0 x2 : Slot), Jar k w → k + 600 * items.length < 1048576 → ∃ x2' w', forL (nameG 2) roundS items [x0, .dat (.ptr 0), x2] w = .nx [x0, .dat (.ptr 0), x2'] w'
  | [], k, w, x0, x2, _, _ => ⟨x2, w, rfl⟩
  | d :: r, k, w, x0, x2, J, hk => by
    rw [List.length_cons] at hk
    obtain ⟨w1, e1, J1⟩ := round_ok (x0 := x0) (x2 := .dat d) J (by omega)
    obtain ⟨x2', w2, e2⟩ := rounds_ok r (k + 600) w1 x0 (.dat d) J1 (by omega)
    refine ⟨x2', w2, ?_⟩
    unfold forL
    simp only [nameG, List.set_cons_succ, List.set_cons_zero]
    rw [e1]
    exact e2
theorem law_true : ∀ ns : List Int, ns.length ≤ 63 → ∃ w1, f_law [.scr ns] [] = .ok (.bl true) w1 := fun ns h => by
  have st : startD 3 [.scr ns] = [.dat (.scr ns), .non, .non] := rfl
  have J : Jar 0 [jarC ns 0 0] := ⟨ns, 0, 0, rfl, h, by decide, by decide, by decide⟩
  have e0 := pool_ok h
  obtain ⟨x2, w1, e1⟩ := rounds_ok (rangeD 0 9) 0 _ (.dat (.scr ns)) .non J (by rw [rangeD_len]; decide)
  refine ⟨w1, ?_⟩
  have step1 : (setS 1 (callE f__law_pool (consA (var 0) nilA))) [.dat (.scr ns), .non, .non] [] = .nx [.dat (.scr ns), .dat (.ptr 0), .non] [jarC ns 0 0] := by
    simp only [setS, callE, consA, nilA, var, R.bind, R.out, List.getElem?_cons_zero, e0, List.set_cons_succ, List.set_cons_zero]
  have r9 : range1I (consA (cst (.int 9)) nilA) [.dat (.scr ns), .dat (.ptr 0), .non] [jarC ns 0 0] = .ok (rangeD 0 9) [jarC ns 0 0] := by
    have rg : -(2 ^ 62) ≤ (9 : Int) ∧ (9 : Int) < 2 ^ 62 := by decide
    simp only [range1I, consA, nilA, cst, R.bind, rg, and_self, if_true]
    rfl
  have es : s_law = seqS (setS 1 (callE f__law_pool (consA (var 0) nilA))) (seqS (forS (range1I (consA (cst (.int 9)) nilA)) (nameG 2) roundS) (seqS (retS (cst (.bl true))) nextS)) := rfl
  have step2 : (forS (range1I (consA (cst (.int 9)) nilA)) (nameG 2) roundS) [.dat (.scr ns), .dat (.ptr 0), .non] [jarC ns 0 0] = .nx [.dat (.scr ns), .dat (.ptr 0), x2] w1 := by
    unfold forS
    rw [r9]
    exact e1
  unfold f_law runD
  rw [st, es, seq_go step1, seq_go step2]
  rfl
end K01

namespace K01
open PySem PySem.Spec PyProof.Rows L2 DL
theorem run (w : World) : HandSHeadRun.RunEq Rw qv hk ob 4000 names w := by
  intro os
  kernel_rfl
end K01
open PySem PySem.W PySem.Calls PyProof.Rows
theorem PySem.Challenge.cw_sayable_k01_names_taken_apart_holds : PySem.Challenge.rw_sayable_k01_names_taken_apart.Holds := by
  w_on; o_law
  refine HandSHeadRun.head_any (r := PySem.W.OpenLaw.row PySem.Challenge.rw_sayable_k01_names_taken_apart) (q := K01.qv) (H := K01.hk) (ob := K01.ob) (M := 4000) (loose := K01.names) (d := HandSHeadRun.topDef (PySem.W.OpenLaw.row PySem.Challenge.rw_sayable_k01_names_taken_apart).prog 25) (kwd := []) K01.ob_eq
    (by kernel_rfl) (fun s => by kernel_rfl) K01.run (by kernel_rfl) (by kernel_rfl) (by kernel_rfl) (by rfl) (by first | assumption | decide +kernel) (by decide +kernel) ⟨rfl, rfl, rfl, rfl, rfl, by decide +kernel⟩ ?hw ?hc
  case hw => w_witness2
  case hc =>
    refine DL.walkG (l := PySem.Challenge.rw_sayable_k01_names_taken_apart) (n := 63) (k := 6) (x := "_law_script") (g := K01.f_law) rfl (by decide) (by kernel_rfl) ⟨rfl, by decide, by decide⟩ rfl (fun w mg fa h Y G hmg0 => ?_) K01.law_true
    obtain ⟨K, KX, c⟩ := Y
    have Z := K01.facts KX G c
    have named : (HandSHeadRun.topDef (PySem.W.OpenLaw.row PySem.Challenge.rw_sayable_k01_names_taken_apart).prog 25).name = ("law" : PySem.Str) := by kernel_rfl
    have here : mg ("law" : PySem.Str) = some (.ref fa) := named ▸ hmg0
    obtain rfl : fa = He.ga K "law" := by
      have z := here.symm.trans Z.m_law
      cases z
      rfl
    obtain ⟨fd, F⟩ := Z.p_law
    exact ⟨K, fd, KX, fun s v => (L2.FunD.bindsA (ps := ["_law_script"]) F (fun _ _ _ _ _ _ us hl => match us, hl with | [_], _ => rfl)) s [v] rfl, fun b _ _ => K01.d_law F Z⟩

