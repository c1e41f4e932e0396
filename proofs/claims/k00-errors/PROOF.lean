import PyProof.Rows.All
import Wide.All
import OpenK.AllK
import Wide.FinOn
import HandS.ForMost
import HandS.ForExc
import HandS.ExcInit
import HandS.ExcValue
import HandS.ExcIs
import HandS.HeadHook1
import HandS.Wide
import HandS.IsInst
import HandS.Flow
import HandS.TupAny
import HandS.Steps
import PyProof.ReprReads
import PyProof.ReprRoads
import HandS.Style
import HandS.Star
import HandS.Ends
import KE.KExcIs
import HandS.ExcField
import HandS.Defaults
import HandS.Head0
import HandS.Head1
import HandS.Head2
import HandS.HeadEnd
import HandS.HeadHook2
import HandS.HeadHook3
import HandS.HeadHook4
import HandS.MakeKw
import HandS.Iter
import HandS.Text
import PySem.Challenge.RW_sayable_k00_errors_keep_their_fields
set_option Elab.async false
set_option linter.all false
set_option maxRecDepth 100000
set_option maxHeartbeats 0
/-! The data layer over HandS: what an expression, a statement, a def does, told as a plain function of data. -/
namespace DL
open PySem PySem.Spec PyProof.Rows L2

/-! ### data -/
inductive D where
  | non | bl (b : Bool) | int (i : Int) | str (x : Str)
  | lst (xs : List D) | tup (xs : List D) | dct (kvs : List (Key × D))
  | obj (c : Str) (fs : List (Str × D)) | ptr (n : Nat) | scr (ns : List Int) | exn (c : Str) (fs : List (Str × D)) | exn0 (c : Str)
instance : Inhabited D := ⟨.non⟩
/-- a thing that may change: a local list, a jar -/
inductive Cell where
  | lst (ds : List D) | dct (kvs : List (Key × D)) | obj (c : Str) (fs : List (Str × D)) | dead
abbrev W := List Cell
structure Exn where
  c : Str
  fs : List (Str × D)
inductive R (α : Type) where
  | ok (a : α) (w : W) | exc (x : Exn) (w : W) | stuck
def R.bind {α β : Type} : R α → (α → W → R β) → R β
  | .ok a w, f => f a w
  | .exc x w, _ => .exc x w
  | .stuck, _ => .stuck
/-- a value: data, or a look at a thing of a slot's own -/
inductive Val where
  | dat (d : D) | vw (c : Cell)
inductive Slot where
  | non | dat (d : D) | own (c : Cell)

/-! ### how data lies in the heap: F is the part that never changes, ι tells where the changing things lie -/
mutual
inductive Rep (K : PySem.W.Frag) (F : Hp) (ι : List Addr) : V → D → Prop
  | non : Rep K F ι .non .non
  | bl (b : Bool) : Rep K F ι (.bl b) (.bl b)
  | int (i : Int) : Rep K F ι (.int i) (.int i)
  | str (x : Str) : Rep K F ι (.str x) (.str x)
  | lst {a : Addr} {xs : List V} {ds : List D} : F a = some (.lst xs) → RepA K F ι xs ds → Rep K F ι (.ref a) (.lst ds)
  | tup {a : Addr} {xs : List V} {ds : List D} : SqT K F a xs → RepA K F ι xs ds → Rep K F ι (.ref a) (.tup ds)
  | dct {a : Addr} {kvs : List (Key × V)} {es : List (Key × D)} : F a = some (.dK kvs) → RepK K F ι kvs es → Rep K F ι (.ref a) (.dct es)
  | obj {a dx : Addr} {c : Str} {fs : List (Str × V)} {es : List (Str × D)} : F a = some (.ins (He.ga K c) dx fs) → RepF K F ι fs es → Rep K F ι (.ref a) (.obj c es)
  | ptr {a : Addr} {n : Nat} : ι[n]? = some a → Rep K F ι (.ref a) (.ptr n)
  | scr {a : Addr} {ns : List Int} : SqL K F a (ns.map V.int) → Rep K F ι (.ref a) (.scr ns)
  | exn {a dx : Addr} {c : Str} {fs : List (Str × V)} {es : List (Str × D)} : F a = some (exo a (He.ga K c) (some dx)) → F dx = some (exd dx fs) → RepF K F ι fs es → Rep K F ι (.ref a) (.exn c es)
  | exn0 {a : Addr} {c : Str} : F a = some (ExO (.ref (He.ga K c)) a) → Rep K F ι (.ref a) (.exn0 c)
inductive RepA (K : PySem.W.Frag) (F : Hp) (ι : List Addr) : List V → List D → Prop
  | nil : RepA K F ι [] []
  | cons {v : V} {vs : List V} {d : D} {ds : List D} : Rep K F ι v d → RepA K F ι vs ds → RepA K F ι (v :: vs) (d :: ds)
inductive RepK (K : PySem.W.Frag) (F : Hp) (ι : List Addr) : List (Key × V) → List (Key × D) → Prop
  | nil : RepK K F ι [] []
  | cons {k : Key} {v : V} {vs : List (Key × V)} {d : D} {ds : List (Key × D)} : Rep K F ι v d → RepK K F ι vs ds → RepK K F ι ((k, v) :: vs) ((k, d) :: ds)
inductive RepF (K : PySem.W.Frag) (F : Hp) (ι : List Addr) : List (Str × V) → List (Str × D) → Prop
  | nil : RepF K F ι [] []
  | cons {k : Str} {v : V} {vs : List (Str × V)} {d : D} {ds : List (Str × D)} : Rep K F ι v d → RepF K F ι vs ds → RepF K F ι ((k, v) :: vs) ((k, d) :: ds)
end

/-- what was known stays -/
def Ex (F F' : Hp) : Prop := ∀ a o, F a = some o → F' a = some o
theorem Ex.refl (F : Hp) : Ex F F := fun _ _ h => h
theorem Ex.trans {F F1 F2 : Hp} (a : Ex F F1) (b : Ex F1 F2) : Ex F F2 := fun x o h => b x o (a x o h)
theorem Ex.new {F : Hp} {p : Addr} {o : HO} (h : F p = none) : Ex F (upd F p o) := fun a u e => by
  rw [upd_ne (ne_of_none e h)]
  exact e
theorem ex_rd {H H' : Hp} {a : Addr} {u : HO} (e : Ex H H') (h : Rd H a u) : Rd H' a u := by
  rcases h with h | ⟨o, h⟩
  · exact Or.inl (e a _ h)
  · exact Or.inr ⟨o, e a _ h⟩
theorem ex_l {K : PySem.W.Frag} {H H' : Hp} {a : Addr} {xs : List V} (e : Ex H H') (h : SqL K H a xs) : SqL K H' a xs := by
  rcases h with h | h
  · exact Or.inl (ex_rd e h)
  · exact Or.inr h
theorem ex_t {K : PySem.W.Frag} {H H' : Hp} {a : Addr} {xs : List V} (e : Ex H H') (h : SqT K H a xs) : SqT K H' a xs := by
  rcases h with h | h
  · exact Or.inl (ex_rd e h)
  · exact Or.inr h

section
variable {K : PySem.W.Frag} {F F' H H' : Hp} {ι ι' : List Addr}
mutual
theorem Rep.mono (e : Ex F F') (l : ∀ (n : Nat) a, ι[n]? = some a → ι'[n]? = some a) : ∀ {v : V} {d : D}, Rep K F ι v d → Rep K F' ι' v d
  | _, _, .non => .non
  | _, _, .bl b => .bl b
  | _, _, .int i => .int i
  | _, _, .str x => .str x
  | _, _, .lst h r => .lst (e _ _ h) (RepA.mono e l r)
  | _, _, .tup h r => .tup (ex_t e h) (RepA.mono e l r)
  | _, _, .dct h r => .dct (e _ _ h) (RepK.mono e l r)
  | _, _, .obj h r => .obj (e _ _ h) (RepF.mono e l r)
  | _, _, .ptr h => .ptr (l _ _ h)
  | _, _, .scr h => .scr (ex_l e h)
  | _, _, .exn h q r => .exn (e _ _ h) (e _ _ q) (RepF.mono e l r)
  | _, _, .exn0 h => .exn0 (e _ _ h)
theorem RepA.mono (e : Ex F F') (l : ∀ (n : Nat) a, ι[n]? = some a → ι'[n]? = some a) : ∀ {v : List V} {d : List D}, RepA K F ι v d → RepA K F' ι' v d
  | _, _, .nil => .nil
  | _, _, .cons h r => .cons (Rep.mono e l h) (RepA.mono e l r)
theorem RepK.mono (e : Ex F F') (l : ∀ (n : Nat) a, ι[n]? = some a → ι'[n]? = some a) : ∀ {v : List (Key × V)} {d : List (Key × D)}, RepK K F ι v d → RepK K F' ι' v d
  | _, _, .nil => .nil
  | _, _, .cons h r => .cons (Rep.mono e l h) (RepK.mono e l r)
theorem RepF.mono (e : Ex F F') (l : ∀ (n : Nat) a, ι[n]? = some a → ι'[n]? = some a) : ∀ {v : List (Str × V)} {d : List (Str × D)}, RepF K F ι v d → RepF K F' ι' v d
  | _, _, .nil => .nil
  | _, _, .cons h r => .cons (Rep.mono e l h) (RepF.mono e l r)
end
theorem RepA.length {xs : List V} {ds : List D} (r : RepA K F ι xs ds) : xs.length = ds.length := by
  induction ds generalizing xs with
  | nil => cases r; rfl
  | cons d ds ih =>
    cases r with
    | cons h r => simp [ih r]
theorem RepA.get {xs : List V} {ds : List D} (r : RepA K F ι xs ds) : ∀ {i : Nat} {x : V}, xs[i]? = some x → ∃ d, ds[i]? = some d ∧ Rep K F ι x d := by
  induction ds generalizing xs with
  | nil => cases r; intro i x h; simp at h
  | cons d ds ih =>
    cases r with
    | cons h r =>
      intro i x e
      cases i with
      | zero => simp at e; subst e; exact ⟨d, rfl, h⟩
      | succ i => simpa using ih r (by simpa using e)
theorem RepA.get' {xs : List V} {ds : List D} (r : RepA K F ι xs ds) : ∀ {i : Nat} {d : D}, ds[i]? = some d → ∃ x, xs[i]? = some x ∧ Rep K F ι x d := by
  induction ds generalizing xs with
  | nil => intro i x h; simp at h
  | cons d ds ih =>
    cases r with
    | cons h r =>
      intro i x e
      cases i with
      | zero => simp at e; subst e; exact ⟨_, rfl, h⟩
      | succ i => simpa using ih r (by simpa using e)
theorem RepA.append {xs ys : List V} {ds es : List D} (r : RepA K F ι xs ds) (q : RepA K F ι ys es) : RepA K F ι (xs ++ ys) (ds ++ es) := by
  induction ds generalizing xs with
  | nil => cases r; exact q
  | cons d ds ih =>
    cases r with
    | cons h r => exact .cons h (ih r)
theorem RepA.snoc {xs : List V} {ds : List D} {v : V} {d : D} (r : RepA K F ι xs ds) (q : Rep K F ι v d) : RepA K F ι (xs ++ [v]) (ds ++ [d]) := r.append (.cons q .nil)
theorem RepA.set {xs : List V} {ds : List D} {v : V} {d : D} (q : Rep K F ι v d) (r : RepA K F ι xs ds) : ∀ {i : Nat}, RepA K F ι (xs.set i v) (ds.set i d) := by
  induction ds generalizing xs with
  | nil => cases r; intro i; exact .nil
  | cons e ds ih =>
    cases r with
    | cons h r =>
      intro i
      cases i with
      | zero => exact .cons q r
      | succ i => exact .cons h (ih r)
theorem RepA.take {xs : List V} {ds : List D} (r : RepA K F ι xs ds) : ∀ {i : Nat}, RepA K F ι (xs.take i) (ds.take i) := by
  induction ds generalizing xs with
  | nil => cases r; intro i; simp; exact .nil
  | cons e ds ih =>
    cases r with
    | cons h r =>
      intro i
      cases i with
      | zero => exact .nil
      | succ i => exact .cons h (ih r)
theorem RepA.drop {xs : List V} {ds : List D} (r : RepA K F ι xs ds) : ∀ {i : Nat}, RepA K F ι (xs.drop i) (ds.drop i) := by
  induction ds generalizing xs with
  | nil => cases r; intro i; simp; exact .nil
  | cons e ds ih =>
    cases r with
    | cons h r =>
      intro i
      cases i with
      | zero => exact .cons h r
      | succ i => exact ih r

/-- a changing thing as it stands at a -/
def CellAt (K : PySem.W.Frag) (F H : Hp) (ι : List Addr) (a : Addr) : Cell → Prop
  | .lst ds => ∃ xs, H a = some (.lst xs) ∧ RepA K F ι xs ds
  | .dct es => ∃ kvs, H a = some (.dK kvs) ∧ RepK K F ι kvs es
  | .obj c es => ∃ dx fs, H a = some (.ins (He.ga K c) dx fs) ∧ RepF K F ι fs es
  | .dead => ∃ o, H a = some o
theorem CellAt.there {a : Addr} {c : Cell} (h : CellAt K F H ι a c) : ∃ o, H a = some o := by
  cases c with
  | lst _ => obtain ⟨_, e, _⟩ := h; exact ⟨_, e⟩
  | dct _ => obtain ⟨_, e, _⟩ := h; exact ⟨_, e⟩
  | obj _ _ => obtain ⟨_, _, e, _⟩ := h; exact ⟨_, e⟩
  | dead => exact h
theorem CellAt.mono {a : Addr} {c : Cell} (e : Ex F F') (l : ∀ (n : Nat) a, ι[n]? = some a → ι'[n]? = some a) (k : ∀ o, H a = some o → H' a = some o) (h : CellAt K F H ι a c) : CellAt K F' H' ι' a c := by
  cases c with
  | lst _ => obtain ⟨_, x, r⟩ := h; exact ⟨_, k _ x, r.mono e l⟩
  | dct _ => obtain ⟨_, x, r⟩ := h; exact ⟨_, k _ x, r.mono e l⟩
  | obj _ _ => obtain ⟨_, _, x, r⟩ := h; exact ⟨_, _, k _ x, r.mono e l⟩
  | dead => obtain ⟨_, x⟩ := h; exact ⟨_, k _ x⟩

/-- the world: the changing things stand where ι tells, none of them in F -/
structure Wd (K : PySem.W.Frag) (F H : Hp) (ι : List Addr) (w : W) : Prop where
  ex : Ex F H
  len : ι.length = w.length
  nd : ι.Nodup
  cel : ∀ (n : Nat) a c, ι[n]? = some a → w[n]? = some c → F a = none ∧ CellAt K F H ι a c
theorem Wd.ne {w : W} (h : Wd K F H ι w) {a : Addr} (m : a ∈ ι) : F a = none ∧ ∃ o, H a = some o := by
  obtain ⟨n, hn, e⟩ := List.getElem_of_mem m
  have hw : n < w.length := by rw [← h.len]; exact hn
  obtain ⟨q, r⟩ := h.cel n a w[n] (by rw [List.getElem?_eq_getElem hn, e]) (List.getElem?_eq_getElem hw)
  exact ⟨q, r.there⟩

/-- a step: F grows, all but the changing things stays, new things are new -/
structure Stp (F H : Hp) (ι : List Addr) (F' H' : Hp) (ι' : List Addr) : Prop where
  ex : Ex F F'
  keep : ∀ a o, a ∉ ι → H a = some o → H' a = some o
  kin : ∀ a o, H a = some o → ∃ o', H' a = some o'
  new : ∀ a o, F' a = some o → F a = some o ∨ H a = none
  ext : ∃ more, ι' = ι ++ more ∧ ∀ a ∈ more, H a = none
theorem Stp.refl : Stp F H ι F H ι := ⟨Ex.refl F, fun _ _ _ h => h, fun _ o h => ⟨o, h⟩, fun _ _ h => .inl h, [], by simp, fun _ h => nomatch h⟩
theorem Stp.ix (s : Stp F H ι F' H' ι') : ∀ (n : Nat) a, ι[n]? = some a → ι'[n]? = some a := fun n a h => by
  obtain ⟨m, rfl, _⟩ := s.ext
  rw [List.getElem?_append_left (List.getElem?_eq_some_iff.mp h).1]
  exact h
theorem Stp.out (s : Stp F H ι F' H' ι') {a : Addr} {o : HO} (h : H a = some o) (n : a ∉ ι) : a ∉ ι' := by
  obtain ⟨m, rfl, hm⟩ := s.ext
  intro q
  rcases List.mem_append.mp q with q | q
  · exact n q
  · rw [hm a q] at h; cases h
theorem Stp.trans {F1 H1 F2 H2 : Hp} {ι1 ι2 : List Addr} (a : Stp F H ι F1 H1 ι1) (b : Stp F1 H1 ι1 F2 H2 ι2) : Stp F H ι F2 H2 ι2 where
  ex := a.ex.trans b.ex
  keep := fun x o n h => b.keep x o (a.out h n) (a.keep x o n h)
  kin := fun x o h => by
    obtain ⟨o1, h1⟩ := a.kin x o h
    exact b.kin x o1 h1
  new := fun x o h => by
    rcases b.new x o h with h | h
    · exact a.new x o h
    · right
      cases q : H x with
      | none => rfl
      | some u =>
        obtain ⟨_, z⟩ := a.kin x u q
        rw [h] at z; cases z
  ext := by
    obtain ⟨m1, rfl, h1⟩ := a.ext
    obtain ⟨m2, rfl, h2⟩ := b.ext
    refine ⟨m1 ++ m2, by simp, fun x hx => ?_⟩
    rcases List.mem_append.mp hx with q | q
    · exact h1 x q
    · have z := h2 x q
      cases r : H x with
      | none => rfl
      | some u =>
        obtain ⟨_, y⟩ := a.kin x u r
        rw [z] at y; cases y
/-- a new frozen thing -/
theorem Stp.fresh {p : Addr} {o : HO} (h : H p = none) (hF : F p = none) : Stp F H ι (upd F p o) (upd H p o) ι where
  ex := Ex.new hF
  keep := fun a u _ e => Ex.new h a u e
  kin := fun a u e => ⟨u, Ex.new h a u e⟩
  new := fun a u e => by
    by_cases z : a = p
    · subst z; exact .inr h
    · rw [upd_ne z] at e; exact .inl e
  ext := ⟨[], by simp, fun _ h => nomatch h⟩
theorem Wd.free {w : W} (d : Wd K F H ι w) {p : Addr} (h : H p = none) : F p = none := by
  cases q : F p with
  | none => rfl
  | some o => rw [d.ex p o q] at h; cases h
theorem Wd.fresh {w : W} {p : Addr} {o : HO} (d : Wd K F H ι w) (h : H p = none) : Wd K (upd F p o) (upd H p o) ι w := by
  have hF := d.free h
  refine ⟨fun a u e => ?_, d.len, d.nd, fun n a c h1 h2 => ?_⟩
  · by_cases z : a = p
    · subst z; rw [upd_same] at e ⊢; exact e
    · rw [upd_ne z] at e ⊢; exact d.ex a u e
  · obtain ⟨q, r⟩ := d.cel n a c h1 h2
    have z : a ≠ p := fun z => by
      subst z
      obtain ⟨_, y⟩ := r.there
      rw [h] at y; cases y
    exact ⟨by rw [upd_ne z]; exact q, r.mono (Ex.new hF) (fun _ _ h => h) fun u e => by rw [upd_ne z]; exact e⟩

def RepV (K : PySem.W.Frag) (F H : Hp) (ι : List Addr) (v : V) : Val → Prop
  | .dat d => Rep K F ι v d
  | .vw c => ∃ p, v = .ref p ∧ F p = none ∧ p ∉ ι ∧ CellAt K F H ι p c
theorem RepV.mono {v : V} {x : Val} (s : Stp F H ι F' H' ι') (h : RepV K F H ι v x) : RepV K F' H' ι' v x := by
  cases x with
  | dat d => exact Rep.mono s.ex s.ix h
  | vw c =>
    obtain ⟨p, e, h1, h2, h3⟩ := h
    obtain ⟨o, ho⟩ := h3.there
    refine ⟨p, e, ?_, s.out ho h2, h3.mono s.ex s.ix fun o q => s.keep p o h2 q⟩
    cases q : F' p with
    | none => rfl
    | some u =>
      rcases s.new p u q with z | z
      · rw [h1] at z; cases z
      · rw [ho] at z; cases z

/-- a slot of the def; what is its own was made since the entry H0 -/
def SlAt (K : PySem.W.Frag) (H0 F H : Hp) (ι : List Addr) (x : Option (Option V)) : Slot → Prop
  | .non => True
  | .dat d => ∃ v, x = some (some v) ∧ Rep K F ι v d
  | .own c => ∃ p, x = some (some (.ref p)) ∧ H0 p = none ∧ F p = none ∧ p ∉ ι ∧ CellAt K F H ι p c
structure Sl (K : PySem.W.Frag) (H0 F H : Hp) (ι : List Addr) (σ : L2.St) (ρ : List Slot) : Prop where
  len : σ.length = ρ.length
  at_ : ∀ (i : Nat) s, ρ[i]? = some s → SlAt K H0 F H ι σ[i]? s
  sep : ∀ (i j : Nat) c c' (p : Addr), ρ[i]? = some (.own c) → ρ[j]? = some (.own c') → σ[i]? = some (some (.ref p)) → σ[j]? = some (some (.ref p)) → i = j
variable {H0 : Hp} {σ : L2.St} {ρ : List Slot}
theorem SlAt.mono {x : Option (Option V)} {t : Slot} (s : Stp F H ι F' H' ι') (h : SlAt K H0 F H ι x t) : SlAt K H0 F' H' ι' x t := by
  cases t with
  | non => trivial
  | dat d => obtain ⟨v, e, r⟩ := h; exact ⟨v, e, r.mono s.ex s.ix⟩
  | own c =>
    obtain ⟨p, e, h0, h1, h2, h3⟩ := h
    obtain ⟨q, e', r1, r2, r3⟩ := RepV.mono (x := .vw c) s (⟨p, rfl, h1, h2, h3⟩ : RepV K F H ι (.ref p) (.vw c))
    cases e'
    exact ⟨p, e, h0, r1, r2, r3⟩
theorem Sl.mono (s : Stp F H ι F' H' ι') (h : Sl K H0 F H ι σ ρ) : Sl K H0 F' H' ι' σ ρ := ⟨h.len, fun i t e => (h.at_ i t e).mono s, h.sep⟩
/-- a slot gets data -/
theorem Sl.set {i : Nat} {v : V} {d : D} (h : Sl K H0 F H ι σ ρ) (r : Rep K F ι v d) : Sl K H0 F H ι (σ.set i (some v)) (ρ.set i (.dat d)) where
  len := by simp [h.len]
  at_ := fun j t e => by
    by_cases z : i = j
    · subst z
      by_cases hl : i < ρ.length
      · rw [List.getElem?_set_self hl] at e
        cases e
        exact ⟨v, by rw [List.getElem?_set_self (by rw [h.len]; exact hl)], r⟩
      · rw [List.getElem?_eq_none (by simp; omega)] at e; cases e
    · rw [List.getElem?_set_ne z] at e ⊢
      exact h.at_ j t e
  sep := fun j k c c' p e1 e2 e3 e4 => by
    by_cases z : i = j
    · subst z
      by_cases hl : i < ρ.length
      · rw [List.getElem?_set_self hl] at e1; cases e1
      · rw [List.getElem?_eq_none (by simp; omega)] at e1; cases e1
    · by_cases y : i = k
      · subst y
        by_cases hl : i < ρ.length
        · rw [List.getElem?_set_self hl] at e2; cases e2
        · rw [List.getElem?_eq_none (by simp; omega)] at e2; cases e2
      · rw [List.getElem?_set_ne z] at e1 e3
        rw [List.getElem?_set_ne y] at e2 e4
        exact h.sep j k c c' p e1 e2 e3 e4
end

/-! ### semantics -/
abbrev SemE := List Slot → W → R Val
abbrev SemT := List Slot → W → R Bool
abbrev SemA := List Slot → W → R (List D)
def XPost (K : PySem.W.Frag) (E : XK) (F H : Hp) (ι : List Addr) (x : Exn) (w' : W) : Prop :=
  ∀ F' H' ι' d fs, Stp F H ι F' H' ι' → Wd K F' H' ι' w' → F' d = some (.xd fs) → RepF K F' ι' fs x.fs → E (.ref (He.ga K x.c)) (some d) H'
def OkV (K : PySem.W.Frag) (F H : Hp) (ι : List Addr) (x : Val) (w' : W) (Q : VK) : Prop := ∀ v F' H' ι', Stp F H ι F' H' ι' → Wd K F' H' ι' w' → RepV K F' H' ι' v x → Q v H'
def OkA (K : PySem.W.Frag) (F H : Hp) (ι : List Addr) (x : List D) (w' : W) (Q : List V → Hp → Prop) : Prop := ∀ v F' H' ι', Stp F H ι F' H' ι' → Wd K F' H' ι' w' → RepA K F' ι' v x → Q v H'
def OkT (K : PySem.W.Frag) (F H : Hp) (ι : List Addr) (w' : W) (Q : Hp → Prop) : Prop := ∀ F' H' ι', Stp F H ι F' H' ι' → Wd K F' H' ι' w' → Q H'
/-- what is told of an end -/
def Meets {α : Type} (A : α → W → Prop) (B : Exn → W → Prop) : R α → Prop
  | .ok a w => A a w
  | .exc x w => B x w
  | .stuck => True
def DR (K : PySem.W.Frag) (E : XK) (te : TE) (s : SemE) : Prop := ∀ (H0 F H : Hp) (ι : List Addr) (w : W) (σ : L2.St) (ρ : List Slot), Wd K F H ι w → Sl K H0 F H ι σ ρ →
  Meets (fun x w' => ∀ Q : VK, OkV K F H ι x w' Q → te σ H Q) (fun x w' => XPost K E F H ι x w' → ∀ Q, te σ H Q) (s ρ w)
def DRT (K : PySem.W.Frag) (E : XK) (tt : TT) (s : SemT) : Prop := ∀ (H0 F H : Hp) (ι : List Addr) (w : W) (σ : L2.St) (ρ : List Slot), Wd K F H ι w → Sl K H0 F H ι σ ρ →
  Meets (fun x w' => ∀ Q : Bool → Hp → Prop, OkT K F H ι w' (Q x) → tt σ H Q) (fun x w' => XPost K E F H ι x w' → ∀ Q, tt σ H Q) (s ρ w)
def DRA (K : PySem.W.Frag) (E : XK) (ta : TA) (s : SemA) : Prop := ∀ (H0 F H : Hp) (ι : List Addr) (w : W) (σ : L2.St) (ρ : List Slot), Wd K F H ι w → Sl K H0 F H ι σ ρ →
  Meets (fun x w' => ∀ Q : List V → Hp → Prop, OkA K F H ι x w' Q → ta σ H Q) (fun x w' => XPost K E F H ι x w' → ∀ Q, ta σ H Q) (s ρ w)
theorem OkV.step {K : PySem.W.Frag} {F H F' H' : Hp} {ι ι' : List Addr} {x : Val} {w' : W} {Q : VK} (s : Stp F H ι F' H' ι') (h : OkV K F H ι x w' Q) : OkV K F' H' ι' x w' Q := fun v F2 H2 ι2 a b c => h v F2 H2 ι2 (s.trans a) b c
theorem OkA.step {K : PySem.W.Frag} {F H F' H' : Hp} {ι ι' : List Addr} {x : List D} {w' : W} {Q : List V → Hp → Prop} (s : Stp F H ι F' H' ι') (h : OkA K F H ι x w' Q) : OkA K F' H' ι' x w' Q := fun v F2 H2 ι2 a b c => h v F2 H2 ι2 (s.trans a) b c
theorem OkT.step {K : PySem.W.Frag} {F H F' H' : Hp} {ι ι' : List Addr} {w' : W} {Q : Hp → Prop} (s : Stp F H ι F' H' ι') (h : OkT K F H ι w' Q) : OkT K F' H' ι' w' Q := fun F2 H2 ι2 a b => h F2 H2 ι2 (s.trans a) b
theorem XPost.step {K : PySem.W.Frag} {E : XK} {F H F' H' : Hp} {ι ι' : List Addr} {x : Exn} {w' : W} (s : Stp F H ι F' H' ι') (h : XPost K E F H ι x w') : XPost K E F' H' ι' x w' := fun F2 H2 ι2 d fs a b c e => h F2 H2 ι2 d fs (s.trans a) b c e
end DL

/-! Expressions. -/
namespace DL
open PySem PySem.Spec PyProof.Rows L2

structure DE (X : Cx) (E : XK) (e : Expr) (te : TE) (s : SemE) : Prop where
  pe : PE X e te
  dr : DR X.K E te s
structure DT (X : Cx) (E : XK) (e : Expr) (tt : TT) (s : SemT) : Prop where
  pt : PT X e tt
  dr : DRT X.K E tt s
structure DW (X : Cx) (E : XK) (e : Expr) (tt : TT) (s : SemT) : Prop where
  pw : PW X e tt
  dr : DRT X.K E tt s
structure DA (X : Cx) (E : XK) (es : List Expr) (ta : TA) (s : SemA) : Prop where
  pa : PA X es ta
  dr : DRA X.K E ta s

section
variable {K : PySem.W.Frag} {E : XK}
/-! ### how readings are put together -/
theorem DR.ok {te : TE} {s : SemE} (h : DR K E te s) {H0 F H : Hp} {ι : List Addr} {w w' : W} {σ : L2.St} {ρ : List Slot} {x : Val} (d : Wd K F H ι w) (l : Sl K H0 F H ι σ ρ) (e : s ρ w = .ok x w') {Q : VK} (q : OkV K F H ι x w' Q) : te σ H Q := by
  have z := h H0 F H ι w σ ρ d l
  rw [e] at z
  exact z Q q
theorem DR.exc {te : TE} {s : SemE} (h : DR K E te s) {H0 F H : Hp} {ι : List Addr} {w w' : W} {σ : L2.St} {ρ : List Slot} {x : Exn} (d : Wd K F H ι w) (l : Sl K H0 F H ι σ ρ) (e : s ρ w = .exc x w') (q : XPost K E F H ι x w') (Q : VK) : te σ H Q := by
  have z := h H0 F H ι w σ ρ d l
  rw [e] at z
  exact z q Q
theorem DRT.ok {te : TT} {s : SemT} (h : DRT K E te s) {H0 F H : Hp} {ι : List Addr} {w w' : W} {σ : L2.St} {ρ : List Slot} {x : Bool} (d : Wd K F H ι w) (l : Sl K H0 F H ι σ ρ) (e : s ρ w = .ok x w') {Q : Bool → Hp → Prop} (q : OkT K F H ι w' (Q x)) : te σ H Q := by
  have z := h H0 F H ι w σ ρ d l
  rw [e] at z
  exact z Q q
theorem DRT.exc {te : TT} {s : SemT} (h : DRT K E te s) {H0 F H : Hp} {ι : List Addr} {w w' : W} {σ : L2.St} {ρ : List Slot} {x : Exn} (d : Wd K F H ι w) (l : Sl K H0 F H ι σ ρ) (e : s ρ w = .exc x w') (q : XPost K E F H ι x w') (Q : Bool → Hp → Prop) : te σ H Q := by
  have z := h H0 F H ι w σ ρ d l
  rw [e] at z
  exact z q Q
theorem DRA.ok {te : TA} {s : SemA} (h : DRA K E te s) {H0 F H : Hp} {ι : List Addr} {w w' : W} {σ : L2.St} {ρ : List Slot} {x : List D} (d : Wd K F H ι w) (l : Sl K H0 F H ι σ ρ) (e : s ρ w = .ok x w') {Q : List V → Hp → Prop} (q : OkA K F H ι x w' Q) : te σ H Q := by
  have z := h H0 F H ι w σ ρ d l
  rw [e] at z
  exact z Q q
theorem DRA.exc {te : TA} {s : SemA} (h : DRA K E te s) {H0 F H : Hp} {ι : List Addr} {w w' : W} {σ : L2.St} {ρ : List Slot} {x : Exn} (d : Wd K F H ι w) (l : Sl K H0 F H ι σ ρ) (e : s ρ w = .exc x w') (q : XPost K E F H ι x w') (Q : List V → Hp → Prop) : te σ H Q := by
  have z := h H0 F H ι w σ ρ d l
  rw [e] at z
  exact z q Q
/-- the shape of all: te goes on with k behind ta, s with f behind sa -/
theorem DR.bind {ta te : TE} {sa : SemE} {f : Val → SemE} {k : V → L2.St → Hp → VK → Prop} (ha : DR K E ta sa) (he : ∀ σ H Q, ta σ H (fun x H1 => k x σ H1 Q) → te σ H Q)
    (hk : ∀ H0 F H ι w σ ρ v x, Wd K F H ι w → Sl K H0 F H ι σ ρ → RepV K F H ι v x → Meets (fun y w' => ∀ Q : VK, OkV K F H ι y w' Q → k v σ H Q) (fun y w' => XPost K E F H ι y w' → ∀ Q, k v σ H Q) (f x ρ w)) :
    DR K E te (fun ρ w => (sa ρ w).bind fun x w1 => f x ρ w1) := by
  intro H0 F H ι w σ ρ d l
  show Meets _ _ ((sa ρ w).bind fun x w1 => f x ρ w1)
  cases e : sa ρ w with
  | stuck => trivial
  | exc x w1 => exact fun q Q => he _ _ _ (ha.exc d l e q _)
  | ok x w1 =>
    show Meets _ _ (f x ρ w1)
    cases e2 : f x ρ w1 with
    | stuck => trivial
    | exc y w2 =>
      intro q Q
      refine he _ _ _ (ha.ok d l e fun v F1 H1 ι1 s1 d1 r1 => ?_)
      have z := hk H0 F1 H1 ι1 w1 σ ρ v x d1 (l.mono s1) r1
      rw [e2] at z
      exact z (q.step s1) Q
    | ok y w2 =>
      intro Q q
      refine he _ _ _ (ha.ok d l e fun v F1 H1 ι1 s1 d1 r1 => ?_)
      have z := hk H0 F1 H1 ι1 w1 σ ρ v x d1 (l.mono s1) r1
      rw [e2] at z
      exact z Q (OkV.step s1 q)
end

/-! ### constants, names -/
def cst (d : D) : SemE := fun _ w => .ok (.dat d) w
def var (i : Nat) : SemE := fun ρ w => match ρ[i]? with
  | some (.dat d) => .ok (.dat d) w
  | some (.own c) => .ok (.vw c) w
  | _ => .stuck
section
variable {X : Cx} {E : XK}
theorem okv_now {K : PySem.W.Frag} {F H : Hp} {ι : List Addr} {x : Val} {w : W} {Q : VK} {v : V} (q : OkV K F H ι x w Q) (d : Wd K F H ι w) (r : RepV K F H ι v x) : Q v H := q v F H ι Stp.refl d r
theorem dr_c {K : PySem.W.Frag} {v : V} {d : D} (r : ∀ F ι, Rep K F ι v d) : DR K E (tC v) (cst d) := fun _ F H ι w σ ρ dd l Q q => okv_now q dd (r F ι)
theorem de_int {i j pos} : DE X E (.Constant (.int i) j pos) (tC (.int i)) (cst (.int i)) := ⟨pe_int, dr_c fun _ _ => .int i⟩
theorem de_bl {b j pos} : DE X E (.Constant (.bool b) j pos) (tC (.bl b)) (cst (.bl b)) := ⟨pe_bl, dr_c fun _ _ => .bl b⟩
theorem de_non {j pos} : DE X E (.Constant .none j pos) (tC .non) (cst .non) := ⟨pe_non, dr_c fun _ _ => .non⟩
theorem de_str {x j pos} : DE X E (.Constant (.str x) j pos) (tC (.str x)) (cst (.str x)) := ⟨pe_str, dr_c fun _ _ => .str x⟩
/-- a module's constant -/
theorem de_glob {x : Str} {v : V} {d : D} {u : Value} {pos : Pos} (hm : X.mg x = some u) (r : RelV v u) (rd : ∀ F ι, Rep X.K F ι v d) (hg : Gl X x := by rfl) (hd : (x == ("__debug__" : Str)) = false := by decide) : DE X E (.Name x pos) (tC v) (cst d) := ⟨pe_glob hg hm r hd, dr_c rd⟩
theorem dr_var {K : PySem.W.Frag} (i : Nat) : DR K E (tVar i) (var i) := by
  intro H0 F H ι w σ ρ dd l
  unfold var
  cases e : ρ[i]? with
  | none => trivial
  | some t =>
    have z := l.at_ i t e
    cases t with
    | non => trivial
    | dat d =>
      obtain ⟨v, h, r⟩ := z
      exact fun Q q => ⟨v, h, okv_now q dd r⟩
    | own c =>
      obtain ⟨p, h, h0, h1, h2, h3⟩ := z
      exact fun Q q => ⟨.ref p, h, okv_now q dd ⟨p, rfl, h1, h2, h3⟩⟩
theorem dv (i : Nat) {x : Str} {pos : Pos} (hN : X.N[i]? = some x := by rfl) (hv : Vis X.env.scope x := by first | exact Or.inl rfl | exact Or.inr (Or.inl rfl) | exact Or.inr (Or.inr rfl)) (hd : (x == ("__debug__" : Str)) = false := by decide)
    (hcd : (x == ("__classdict__" : Str)) = false := by decide) : DE X E (.Name x pos) (tVar i) (var i) := ⟨pe_var hN hv hd hcd, dr_var i⟩
end

/-! ### what a value looks like at the top -/
def Cell.look : Cell → Option D
  | .lst ds => some (.lst ds)
  | .dct es => some (.dct es)
  | .obj c fs => some (.obj c fs)
  | .dead => none
/-- a value as plain data, through a pointer or a look -/
def Val.d (w : W) : Val → Option D
  | .dat (.ptr n) => (w[n]?).bind Cell.look
  | .dat d => some d
  | .vw c => c.look
/-- v looks in H as d, at its top -/
def RepS (K : PySem.W.Frag) (F H : Hp) (ι : List Addr) (v : V) : D → Prop
  | .lst ds => ∃ a xs, v = .ref a ∧ H a = some (.lst xs) ∧ RepA K F ι xs ds
  | .dct es => ∃ a kvs, v = .ref a ∧ H a = some (.dK kvs) ∧ RepK K F ι kvs es
  | .obj c es => ∃ a dx fs, v = .ref a ∧ H a = some (.ins (He.ga K c) dx fs) ∧ RepF K F ι fs es
  | d => Rep K F ι v d
theorem CellAt.look {K : PySem.W.Frag} {F H : Hp} {ι : List Addr} {a : Addr} {c : Cell} {d : D} (h : CellAt K F H ι a c) (e : c.look = some d) : RepS K F H ι (.ref a) d := by
  cases c with
  | lst ds => cases e; obtain ⟨xs, h1, h2⟩ := h; exact ⟨a, xs, rfl, h1, h2⟩
  | dct ds => cases e; obtain ⟨xs, h1, h2⟩ := h; exact ⟨a, xs, rfl, h1, h2⟩
  | obj ds => cases e; obtain ⟨dx, xs, h1, h2⟩ := h; exact ⟨a, dx, xs, rfl, h1, h2⟩
  | dead => cases e
theorem Rep.toS {K : PySem.W.Frag} {F H : Hp} {ι : List Addr} {v : V} {d : D} (x : Ex F H) (r : Rep K F ι v d) : RepS K F H ι v d := by
  cases r with
  | lst h r => exact ⟨_, _, rfl, x _ _ h, r⟩
  | dct h r => exact ⟨_, _, rfl, x _ _ h, r⟩
  | obj h r => exact ⟨_, _, _, rfl, x _ _ h, r⟩
  | non => exact .non
  | bl b => exact .bl b
  | int i => exact .int i
  | str z => exact .str z
  | tup h r => exact .tup h r
  | ptr h => exact .ptr h
  | scr h => exact .scr h
  | exn h q r => exact .exn h q r
  | exn0 h => exact .exn0 h
theorem RepV.toS {K : PySem.W.Frag} {F H : Hp} {ι : List Addr} {v : V} {x : Val} {w : W} {d : D} (r : RepV K F H ι v x) (wd : Wd K F H ι w) (e : x.d w = some d) : RepS K F H ι v d := by
  cases x with
  | vw c =>
    obtain ⟨p, rfl, h1, h2, h3⟩ := r
    exact h3.look e
  | dat y =>
    cases y with
    | ptr n =>
      have r' : Rep K F ι v (.ptr n) := r
      cases r' with
      | @ptr a _ h =>
        have e : (w[n]?).bind Cell.look = some d := e
        cases e2 : w[n]? with
        | none => rw [e2] at e; cases e
        | some c =>
          rw [e2] at e
          exact (wd.cel n a c h e2).2.look e
    | _ => cases e; exact Rep.toS wd.ex r
theorem RepS.mono {K : PySem.W.Frag} {F H F' H' : Hp} {ι ι' : List Addr} {v : V} {d : D} (nc : ∀ a o, v = .ref a → H a = some o → H' a = some o) (s : Stp F H ι F' H' ι') (r : RepS K F H ι v d) : RepS K F' H' ι' v d := by
  cases d with
  | lst ds => obtain ⟨a, xs, e, h, r⟩ := r; exact ⟨a, xs, e, nc a _ e h, r.mono s.ex s.ix⟩
  | dct ds => obtain ⟨a, xs, e, h, r⟩ := r; exact ⟨a, xs, e, nc a _ e h, r.mono s.ex s.ix⟩
  | obj c ds => obtain ⟨a, dx, xs, e, h, r⟩ := r; exact ⟨a, dx, xs, e, nc a _ e h, r.mono s.ex s.ix⟩
  | non => exact Rep.mono s.ex s.ix r
  | bl b => exact Rep.mono s.ex s.ix r
  | int i => exact Rep.mono s.ex s.ix r
  | str z => exact Rep.mono s.ex s.ix r
  | tup _ => exact Rep.mono s.ex s.ix r
  | ptr _ => exact Rep.mono s.ex s.ix r
  | scr _ => exact Rep.mono s.ex s.ix r
  | exn _ _ => exact Rep.mono s.ex s.ix r
  | exn0 _ => exact Rep.mono s.ex s.ix r

/-! ### operators -/
/-- r keeps what g tells -/
def RelOp (K : PySem.W.Frag) (r : R2) (g : D → D → Option D) : Prop :=
  ∀ F H ι (w : W) vx vy x y z, Wd K F H ι w → RepS K F H ι vx x → RepS K F H ι vy y → g x y = some z → ∀ Q : VK, OkV K F H ι (.dat z) w Q → r vx vy H Q
def op2 (g : D → D → Option D) (x y : Val) (w : W) : R Val := match x.d w, y.d w with
  | some a, some b => (match g a b with
    | some z => .ok (.dat z) w
    | none => .stuck)
  | _, _ => .stuck
def bin (g : D → D → Option D) (sa sb : SemE) : SemE := fun ρ w => (sa ρ w).bind fun x w1 => (sb ρ w1).bind fun y w2 => op2 g x y w2
theorem dr_bin {K : PySem.W.Frag} {E : XK} {r : R2} {g : D → D → Option D} {ta tb : TE} {sa sb : SemE} (hr : RelOp K r g) (ha : DR K E ta sa) (hb : DR K E tb sb) : DR K E (tOp r ta tb) (bin g sa sb) := by
  refine DR.bind (f := fun x ρ w1 => (sb ρ w1).bind fun y w2 => op2 g x y w2) (k := fun x σ H1 Q => tb σ H1 fun y H2 => r x y H2 Q) ha (fun σ H Q q => q) ?_
  intro H0 F H ι w σ ρ v x d l rx
  show Meets _ _ ((sb ρ w).bind _)
  cases e : sb ρ w with
  | stuck => trivial
  | exc y w1 => exact fun q Q => hb.exc d l e q _
  | ok y w1 =>
    show Meets _ _ (op2 g x y w1)
    unfold op2
    cases e1 : x.d w1 with
    | none => trivial
    | some a =>
      cases e2 : y.d w1 with
      | none => trivial
      | some b =>
        cases e3 : g a b with
        | none => simp only [e3]; trivial
        | some z =>
          simp only [e3]
          intro Q q
          refine hb.ok d l e fun u F1 H1 ι1 s1 d1 r1 => ?_
          exact hr F1 H1 ι1 w1 v u a b z d1 ((rx.mono s1).toS d1 e1) (r1.toS d1 e2) e3 Q (OkV.step s1 q)
theorem de_bin {X : Cx} {E : XK} {r : R2} {g : D → D → Option D} {op : Operator} {a b : Expr} {ta tb : TE} {sa sb : SemE} {pos : Pos} (ho : OpR X (binaryOp op) r) (hr : RelOp X.K r g) (ha : DE X E a ta sa) (hb : DE X E b tb sb) :
    DE X E (.BinOp a op b pos) (tOp r ta tb) (bin g sa sb) := ⟨pe_op ho ha.pe hb.pe, dr_bin hr ha.dr hb.dr⟩
theorem de_cmp {X : Cx} {E : XK} {r : R2} {g : D → D → Option D} {op : CmpOp} {a b : Expr} {ta tb : TE} {sa sb : SemE} {pos : Pos} (ho : OpR X (compareOp op) r) (hr : RelOp X.K r g) (ha : DE X E a ta sa) (hb : DE X E b tb sb)
    (hm : behindInMarks op b = false := by first | exact nobehind _ (by decide) (by decide) | rfl) : DE X E (.Compare a [op] [b] pos) (tOp r ta tb) (bin g sa sb) := ⟨pe_cmpR ho ha.pe hb.pe hm, dr_bin hr ha.dr hb.dr⟩
/-- a value that is a bool -/
def asB (s : SemE) : SemT := fun ρ w => (s ρ w).bind fun x w1 => match x with
  | .dat (.bl b) => .ok b w1
  | _ => .stuck
theorem drt_test {K : PySem.W.Frag} {E : XK} {te : TE} {s : SemE} (h : DR K E te s) : DRT K E (tTest te) (asB s) := by
  intro H0 F H ι w σ ρ d l
  unfold asB
  cases e : s ρ w with
  | stuck => trivial
  | exc x w1 => exact fun q Q => h.exc d l e q _
  | ok x w1 =>
    cases x with
    | vw c => trivial
    | dat y =>
      cases y with
      | bl b =>
        intro Q q
        refine h.ok d l e fun v F1 H1 ι1 s1 d1 r1 => ?_
        have r2 : Rep K F1 ι1 v (.bl b) := r1
        cases r2
        exact ⟨b, rfl, q F1 H1 ι1 s1 d1⟩
      | _ => trivial
theorem dt_cmp {X : Cx} {E : XK} {r : R2} {g : D → D → Option D} {op : CmpOp} {a b : Expr} {ta tb : TE} {sa sb : SemE} {pos : Pos} (ho : OpR X (compareOp op) r) (hr : RelOp X.K r g) (ha : DE X E a ta sa) (hb : DE X E b tb sb)
    (hm : behindInMarks op b = false := by first | exact nobehind _ (by decide) (by decide) | rfl) : DT X E (.Compare a [op] [b] pos) (tTest (tOp r ta tb)) (asB (bin g sa sb)) := ⟨pt_cmpR ho ha.pe hb.pe hm, drt_test (dr_bin hr ha.dr hb.dr)⟩
/-- a < b < c -/
def chain (g g' : D → D → Option D) (sa sb sc : SemE) : SemE := fun ρ w => (sa ρ w).bind fun x w1 => (sb ρ w1).bind fun y w2 => (op2 g x y w2).bind fun z w3 => match z with
  | .dat (.bl true) => (sc ρ w3).bind fun u w4 => op2 g' y u w4
  | .dat (.bl false) => .ok (.dat (.bl false)) w3
  | _ => .stuck
theorem dr_chain {K : PySem.W.Frag} {E : XK} {r r' : R2} {g g' : D → D → Option D} {ta tb tc : TE} {sa sb sc : SemE} (hr : RelOp K r g) (hr' : RelOp K r' g') (ha : DR K E ta sa) (hb : DR K E tb sb) (hc : DR K E tc sc) : DR K E (tChain r r' ta tb tc) (chain g g' sa sb sc) := by
  refine DR.bind (f := fun x ρ w1 => (sb ρ w1).bind fun y w2 => (op2 g x y w2).bind fun z w3 => match z with
    | .dat (.bl true) => (sc ρ w3).bind fun u w4 => op2 g' y u w4
    | .dat (.bl false) => .ok (.dat (.bl false)) w3
    | _ => .stuck) (k := fun x σ H1 Q => tb σ H1 fun y H2 => r x y H2 fun z H3 => ∃ k, z = .bl k ∧ (if k = true then tc σ H3 fun w' H4 => r' y w' H4 Q else Q (.bl false) H3)) ha (fun σ H Q q => q) ?_
  intro H0 F H ι w σ ρ v x d l rx
  show Meets _ _ ((sb ρ w).bind _)
  cases e : sb ρ w with
  | stuck => trivial
  | exc y w1 => exact fun q Q => hb.exc d l e q _
  | ok y w1 =>
    show Meets _ _ ((op2 g x y w1).bind _)
    unfold op2
    cases e1 : x.d w1 with
    | none => trivial
    | some a =>
      cases e2 : y.d w1 with
      | none => trivial
      | some b =>
        cases e3 : g a b with
        | none => simp only [e3, R.bind]; trivial
        | some z =>
          simp only [e3]
          have base : ∀ (k : Bool), z = .bl k → ∀ (G : V → V → L2.St → Hp → VK → Prop) (Q : VK), (∀ u F1 H1 ι1, Stp F H ι F1 H1 ι1 → Wd K F1 H1 ι1 w1 → RepV K F1 H1 ι1 u y → G v u σ H1 Q) →
              (∀ u H1, G v u σ H1 Q → (if k = true then tc σ H1 fun w' H4 => r' u w' H4 Q else Q (.bl false) H1)) → tb σ H fun y H2 => r v y H2 fun z H3 => ∃ k, z = .bl k ∧ (if k = true then tc σ H3 fun w' H4 => r' y w' H4 Q else Q (.bl false) H3) := by
            intro k ez G Q hG hG2
            subst ez
            refine hb.ok d l e fun u F1 H1 ι1 s1 d1 r1 => ?_
            refine hr F1 H1 ι1 w1 v u a b (.bl k) d1 ((rx.mono s1).toS d1 e1) (r1.toS d1 e2) e3 _ fun z' F2 H2 ι2 s2 d2 r2 => ?_
            have r3 : Rep K F2 ι2 z' (.bl k) := r2
            cases r3
            exact ⟨k, rfl, hG2 _ _ (hG u F2 H2 ι2 (s1.trans s2) d2 (r1.mono s2))⟩
          cases z with
          | bl k =>
            cases k with
            | false =>
              show ∀ Q : VK, _
              intro Q q
              exact base false rfl (fun _ u σ H1 Q => Q (.bl false) H1) Q (fun u F1 H1 ι1 s1 d1 r1 => q (.bl false) F1 H1 ι1 s1 d1 (.bl false)) fun u H1 q => by rw [if_neg Bool.false_ne_true]; exact q
            | true =>
              show Meets _ _ ((sc ρ w1).bind _)
              cases e4 : sc ρ w1 with
              | stuck => trivial
              | exc c w2 =>
                exact fun q Q => base true rfl (fun _ u σ H1 Q => tc σ H1 fun w' H4 => r' u w' H4 Q) Q (fun u F1 H1 ι1 s1 d1 r1 => hc.exc d1 (l.mono s1) e4 (q.step s1) _) fun u H1 q => by rw [if_pos rfl]; exact q
              | ok c w2 =>
                show Meets _ _ (op2 g' y c w2)
                unfold op2
                cases e5 : y.d w2 with
                | none => trivial
                | some b' =>
                  cases e6 : c.d w2 with
                  | none => trivial
                  | some c' =>
                    cases e7 : g' b' c' with
                    | none => simp only [e7]; trivial
                    | some z' =>
                      simp only [e7]
                      intro Q q
                      refine base true rfl (fun _ u σ H1 Q => tc σ H1 fun w' H4 => r' u w' H4 Q) Q (fun u F1 H1 ι1 s1 d1 r1 => ?_) fun u H1 q => by rw [if_pos rfl]; exact q
                      refine hc.ok d1 (l.mono s1) e4 fun cv F2 H2 ι2 s2 d2 r2 => ?_
                      exact hr' F2 H2 ι2 w2 u cv b' c' z' d2 ((r1.mono s2).toS d2 e5) (r2.toS d2 e6) e7 Q (OkV.step (s1.trans s2) q)
          | _ => trivial
theorem de_chain {X : Cx} {E : XK} {r r' : R2} {g g' : D → D → Option D} {op op' : CmpOp} {a b c : Expr} {ta tb tc : TE} {sa sb sc : SemE} {pos : Pos} (ho : OpR X (compareOp op) r) (hr : RelOp X.K r g) (ho' : OpR X (compareOp op') r') (hr' : RelOp X.K r' g')
    (ha : DE X E a ta sa) (hb : DE X E b tb sb) (hc : DE X E c tc sc) (hm : lastMarks [op, op'] [b, c] = false := by with_unfolding_all rfl) : DE X E (.Compare a [op, op'] [b, c] pos) (tChain r r' ta tb tc) (chain g g' sa sb sc) :=
  ⟨pe_chain ho ho' ha.pe hb.pe hc.pe hm, dr_chain hr hr' ha.dr hb.dr hc.dr⟩
theorem dt_chain {X : Cx} {E : XK} {r r' : R2} {g g' : D → D → Option D} {op op' : CmpOp} {a b c : Expr} {ta tb tc : TE} {sa sb sc : SemE} {pos : Pos} (ho : OpR X (compareOp op) r) (hr : RelOp X.K r g) (ho' : OpR X (compareOp op') r') (hr' : RelOp X.K r' g')
    (ha : DE X E a ta sa) (hb : DE X E b tb sb) (hc : DE X E c tc sc) (hm : lastMarks [op, op'] [b, c] = false := by with_unfolding_all rfl) : DT X E (.Compare a [op, op'] [b, c] pos) (tTest (tChain r r' ta tb tc)) (asB (chain g g' sa sb sc)) :=
  ⟨pt_chain ho ho' ha.pe hb.pe hc.pe hm, drt_test (dr_chain hr hr' ha.dr hb.dr hc.dr)⟩
/-! ### if else, and, or, not -/
def ifE (c : SemT) (sa sb : SemE) : SemE := fun ρ w => (c ρ w).bind fun b w1 => if b then sa ρ w1 else sb ρ w1
/-- behind a test -/
theorem DRT.bind {K : PySem.W.Frag} {E : XK} {tc : TT} {te : TE} {sc : SemT} {f : Bool → SemE} {k : Bool → L2.St → Hp → VK → Prop} (hc : DRT K E tc sc) (he : ∀ σ H Q, tc σ H (fun b H1 => k b σ H1 Q) → te σ H Q)
    (hk : ∀ b, DR K E (k b) (f b)) : DR K E te (fun ρ w => (sc ρ w).bind fun b w1 => f b ρ w1) := by
  intro H0 F H ι w σ ρ d l
  show Meets _ _ ((sc ρ w).bind fun b w1 => f b ρ w1)
  cases e : sc ρ w with
  | stuck => trivial
  | exc x w1 => exact fun q Q => he _ _ _ (hc.exc d l e q _)
  | ok b w1 =>
    show Meets _ _ (f b ρ w1)
    cases e2 : f b ρ w1 with
    | stuck => trivial
    | exc y w2 => exact fun q Q => he _ _ _ (hc.ok d l e fun F1 H1 ι1 s1 d1 => (hk b).exc d1 (l.mono s1) e2 (q.step s1) Q)
    | ok y w2 => exact fun Q q => he _ _ _ (hc.ok d l e fun F1 H1 ι1 s1 d1 => (hk b).ok d1 (l.mono s1) e2 (OkV.step s1 q))
theorem DRT.bindT {K : PySem.W.Frag} {E : XK} {tc : TT} {te : TT} {sc : SemT} {f : Bool → SemT} {k : Bool → L2.St → Hp → (Bool → Hp → Prop) → Prop} (hc : DRT K E tc sc) (he : ∀ σ H Q, tc σ H (fun b H1 => k b σ H1 Q) → te σ H Q)
    (hk : ∀ b, DRT K E (k b) (f b)) : DRT K E te (fun ρ w => (sc ρ w).bind fun b w1 => f b ρ w1) := by
  intro H0 F H ι w σ ρ d l
  show Meets _ _ ((sc ρ w).bind fun b w1 => f b ρ w1)
  cases e : sc ρ w with
  | stuck => trivial
  | exc x w1 => exact fun q Q => he _ _ _ (hc.exc d l e q _)
  | ok b w1 =>
    show Meets _ _ (f b ρ w1)
    cases e2 : f b ρ w1 with
    | stuck => trivial
    | exc y w2 => exact fun q Q => he _ _ _ (hc.ok d l e fun F1 H1 ι1 s1 d1 => (hk b).exc d1 (l.mono s1) e2 (q.step s1) Q)
    | ok y w2 => exact fun Q q => he _ _ _ (hc.ok d l e fun F1 H1 ι1 s1 d1 => (hk b).ok d1 (l.mono s1) e2 (OkT.step s1 q))
theorem drt_c {K : PySem.W.Frag} {E : XK} (b : Bool) : DRT K E (fun _ H Q => Q b H) (fun _ w => .ok b w) := fun _ F H ι w σ ρ d l Q q => q F H ι Stp.refl d
theorem DRT.of {K : PySem.W.Frag} {E : XK} {t t' : TT} {s : SemT} (h : DRT K E t s) (e : ∀ σ H Q, t σ H Q → t' σ H Q) : DRT K E t' s := by
  intro H0 F H ι w σ ρ d l
  have z := h H0 F H ι w σ ρ d l
  cases q : s ρ w with
  | stuck => trivial
  | exc x w1 => rw [q] at z; exact fun a Q => e _ _ _ (z a Q)
  | ok x w1 => rw [q] at z; exact fun Q a => e _ _ _ (z Q a)
theorem DR.of {K : PySem.W.Frag} {E : XK} {t t' : TE} {s : SemE} (h : DR K E t s) (e : ∀ σ H Q, t σ H Q → t' σ H Q) : DR K E t' s := by
  intro H0 F H ι w σ ρ d l
  have z := h H0 F H ι w σ ρ d l
  cases q : s ρ w with
  | stuck => trivial
  | exc x w1 => rw [q] at z; exact fun a Q => e _ _ _ (z a Q)
  | ok x w1 => rw [q] at z; exact fun Q a => e _ _ _ (z Q a)
theorem dr_if {K : PySem.W.Frag} {E : XK} {tc : TT} {ta tb : TE} {c : SemT} {sa sb : SemE} (hc : DRT K E tc c) (ha : DR K E ta sa) (hb : DR K E tb sb) : DR K E (tIf tc ta tb) (ifE c sa sb) := by
  refine DRT.bind (f := fun b ρ w1 => if b then sa ρ w1 else sb ρ w1) (k := fun c σ H1 Q => if c = true then ta σ H1 Q else tb σ H1 Q) hc (fun _ _ _ q => q) fun b => ?_
  cases b with
  | true => exact ha.of fun _ _ _ q => by rw [if_pos rfl]; exact q
  | false => exact hb.of fun _ _ _ q => by rw [if_neg Bool.false_ne_true]; exact q
theorem de_if {X : Cx} {E : XK} {c a b : Expr} {tc : TT} {ta tb : TE} {sc : SemT} {sa sb : SemE} {pos : Pos} (hc : DT X E c tc sc) (ha : DE X E a ta sa) (hb : DE X E b tb sb) : DE X E (.IfExp c a b pos) (tIf tc ta tb) (ifE sc sa sb) := ⟨pe_ifExp hc.pt ha.pe hb.pe, dr_if hc.dr ha.dr hb.dr⟩
def andT (a b : SemT) : SemT := fun ρ w => (a ρ w).bind fun c w1 => if c then b ρ w1 else .ok false w1
def orT (a b : SemT) : SemT := fun ρ w => (a ρ w).bind fun c w1 => if c then .ok true w1 else b ρ w1
def notT (a : SemT) : SemT := fun ρ w => (a ρ w).bind fun c w1 => .ok (!c) w1
theorem drt_and {K : PySem.W.Frag} {E : XK} {ta tb : TT} {sa sb : SemT} (ha : DRT K E ta sa) (hb : DRT K E tb sb) : DRT K E (tAnd ta tb) (andT sa sb) := by
  refine DRT.bindT (f := fun c ρ w1 => if c then sb ρ w1 else .ok false w1) (k := fun c σ H1 Q => if c = true then tb σ H1 Q else Q false H1) ha (fun _ _ _ q => q) fun b => ?_
  cases b with
  | true => exact hb.of fun _ _ _ q => by rw [if_pos rfl]; exact q
  | false => exact (drt_c false).of fun _ _ _ q => by rw [if_neg Bool.false_ne_true]; exact q
theorem drt_or {K : PySem.W.Frag} {E : XK} {ta tb : TT} {sa sb : SemT} (ha : DRT K E ta sa) (hb : DRT K E tb sb) : DRT K E (tOr ta tb) (orT sa sb) := by
  refine DRT.bindT (f := fun c ρ w1 => if c then .ok true w1 else sb ρ w1) (k := fun c σ H1 Q => if c = true then Q true H1 else tb σ H1 Q) ha (fun _ _ _ q => q) fun b => ?_
  cases b with
  | true => exact (drt_c true).of fun _ _ _ q => by rw [if_pos rfl]; exact q
  | false => exact hb.of fun _ _ _ q => by rw [if_neg Bool.false_ne_true]; exact q
theorem drt_not {K : PySem.W.Frag} {E : XK} {ta : TT} {sa : SemT} (ha : DRT K E ta sa) : DRT K E (tNot ta) (notT sa) :=
  DRT.bindT (f := fun c ρ w1 => .ok (!c) w1) (k := fun c σ H1 Q => Q (!c) H1) ha (fun _ _ _ q => q) fun b => drt_c (!b)
section
variable {X : Cx} {E : XK} {a b : Expr} {rest : List Expr} {pos : Pos} {ta tb : TT} {sa sb : SemT}
theorem DW.dt {e : Expr} (h : DW X E e ta sa) : DT X E e ta sa := ⟨h.pw.pt, h.dr⟩
theorem dw_and1 (ha : DT X E a ta sa) : DW X E (.BoolOp .And [a] pos) ta sa := ⟨pw_and1 ha.pt, ha.dr⟩
theorem dw_or1 (ha : DT X E a ta sa) : DW X E (.BoolOp .Or [a] pos) ta sa := ⟨pw_or1 ha.pt, ha.dr⟩
theorem dw_and (ha : DT X E a ta sa) (hb : DW X E (.BoolOp .And (b :: rest) pos) tb sb) : DW X E (.BoolOp .And (a :: b :: rest) pos) (tAnd ta tb) (andT sa sb) := ⟨pw_and ha.pt hb.pw, drt_and ha.dr hb.dr⟩
theorem dw_or (ha : DT X E a ta sa) (hb : DW X E (.BoolOp .Or (b :: rest) pos) tb sb) : DW X E (.BoolOp .Or (a :: b :: rest) pos) (tOr ta tb) (orT sa sb) := ⟨pw_or ha.pt hb.pw, drt_or ha.dr hb.dr⟩
theorem dt_not (ha : DT X E a ta sa) : DT X E (.UnaryOp .Not a pos) (tNot ta) (notT sa) := ⟨pt_not ha.pt, drt_not ha.dr⟩
end
/-- and, or of bools as values -/
def andE (a b : SemE) : SemE := fun ρ w => (asB a ρ w).bind fun c w1 => if c then b ρ w1 else .ok (.dat (.bl false)) w1
def orE (a b : SemE) : SemE := fun ρ w => (asB a ρ w).bind fun c w1 => if c then .ok (.dat (.bl true)) w1 else b ρ w1
def notE (a : SemE) : SemE := fun ρ w => (asB a ρ w).bind fun c w1 => .ok (.dat (.bl (!c))) w1
section
variable {X : Cx} {E : XK} {a b : Expr} {rest : List Expr} {pos : Pos} {ta tb : TE} {sa sb : SemE}
theorem de_one {op} (h : DE X E a ta sa) : DE X E (.BoolOp op [a] pos) ta sa := ⟨pe_one h.pe, h.dr⟩
theorem de_and (ha : DE X E a ta sa) (hb : DE X E (.BoolOp .And (b :: rest) pos) tb sb) : DE X E (.BoolOp .And (a :: b :: rest) pos) (tAndV ta tb) (andE sa sb) := ⟨pe_and ha.pe hb.pe, by
  refine DRT.bind (f := fun c ρ w1 => if c then sb ρ w1 else .ok (.dat (.bl false)) w1) (k := fun c σ H1 Q => if c = true then tb σ H1 Q else Q (.bl false) H1) (drt_test ha.dr) (fun _ _ _ q => q) fun b => ?_
  cases b with
  | true => exact hb.dr.of fun _ _ _ q => by rw [if_pos rfl]; exact q
  | false => exact (dr_c (v := .bl false) (d := .bl false) fun _ _ => .bl false).of fun _ _ _ q => by rw [if_neg Bool.false_ne_true]; exact q⟩
theorem de_or (ha : DE X E a ta sa) (hb : DE X E (.BoolOp .Or (b :: rest) pos) tb sb) : DE X E (.BoolOp .Or (a :: b :: rest) pos) (tOrV ta tb) (orE sa sb) := ⟨pe_or ha.pe hb.pe, by
  refine DRT.bind (f := fun c ρ w1 => if c then .ok (.dat (.bl true)) w1 else sb ρ w1) (k := fun c σ H1 Q => if c = true then Q (.bl true) H1 else tb σ H1 Q) (drt_test ha.dr) (fun _ _ _ q => q) fun b => ?_
  cases b with
  | true => exact (dr_c (v := .bl true) (d := .bl true) fun _ _ => .bl true).of fun _ _ _ q => by rw [if_pos rfl]; exact q
  | false => exact hb.dr.of fun _ _ _ q => by rw [if_neg Bool.false_ne_true]; exact q⟩
theorem de_not (ha : DE X E a ta sa) : DE X E (.UnaryOp .Not a pos) (tNotV ta) (notE sa) := ⟨pe_not ha.pe,
  DRT.bind (f := fun c ρ w1 => .ok (.dat (.bl (!c))) w1) (k := fun c σ H1 Q => Q (.bl (!c)) H1) (drt_test ha.dr) (fun _ _ _ q => q) fun b => (dr_c (v := .bl (!b)) (d := .bl (!b)) fun _ _ => .bl (!b))⟩
/-- a value that is a bool, as a test -/
theorem dt_val (h : DE X E a ta sa) (he : ∀ whole, isTrue a X.env whole = (do let v ← whole; standAt a.pos; holding [v] (truthy v)) := by intro _; rfl) : DT X E a (tB ta) (asB sa) := ⟨pt_val h.pe he, drt_test h.dr⟩
end
/-! ### arguments, displays -/
def nilA : SemA := fun _ w => .ok [] w
def consA (a : SemE) (r : SemA) : SemA := fun ρ w => (a ρ w).bind fun x w1 => match x with
  | .dat d => (r ρ w1).bind fun ds w2 => .ok (d :: ds) w2
  | .vw _ => .stuck
section
variable {X : Cx} {E : XK} {e : Expr} {es : List Expr} {te : TE} {ta : TA} {s : SemE} {sa : SemA} {pos : Pos}
theorem da_nil : DA X E [] tNil nilA := ⟨pa_nil, fun _ F H ι w σ ρ d l Q q => q [] F H ι Stp.refl d .nil⟩
theorem dra_cons {K : PySem.W.Frag} (ha : DR K E te s) (hr : DRA K E ta sa) : DRA K E (tCons te ta) (consA s sa) := by
  intro H0 F H ι w σ ρ d l
  unfold consA
  cases e : s ρ w with
  | stuck => trivial
  | exc x w1 => exact fun q Q => ha.exc d l e q _
  | ok x w1 =>
    cases x with
    | vw c => trivial
    | dat y =>
      show Meets _ _ ((sa ρ w1).bind _)
      cases e2 : sa ρ w1 with
      | stuck => trivial
      | exc x w2 => exact fun q Q => ha.ok d l e fun v F1 H1 ι1 s1 d1 r1 => hr.exc d1 (l.mono s1) e2 (q.step s1) _
      | ok ds w2 =>
        intro Q q
        refine ha.ok d l e fun v F1 H1 ι1 s1 d1 r1 => hr.ok d1 (l.mono s1) e2 fun vs F2 H2 ι2 s2 d2 r2 => ?_
        exact q (v :: vs) F2 H2 ι2 (s1.trans s2) d2 (.cons (Rep.mono s2.ex s2.ix r1) r2)
theorem da_cons (ha : DE X E e te s) (hr : DA X E es ta sa) (hs : starEach (e :: es) X.env = (false, eval e X.env) :: starEach es X.env := by rfl) : DA X E (e :: es) (tCons te ta) (consA s sa) := ⟨pa_cons ha.pe hr.pa hs, dra_cons ha.dr hr.dr⟩
/-- a new thing made of arguments -/
def mkA (sa : SemA) (f : List D → Option D) : SemE := fun ρ w => (sa ρ w).bind fun ds w1 => match f ds with
  | some d => .ok (.dat d) w1
  | none => .stuck
theorem dr_mk {K : PySem.W.Frag} {t : TE} {f : List D → Option D} {g : List V → Hp → VK → Prop} (ha : DRA K E ta sa) (ht : ∀ σ H Q, ta σ H (fun xs H1 => g xs H1 Q) → t σ H Q)
    (hg : ∀ F H ι (w : W) xs ds z, Wd K F H ι w → RepA K F ι xs ds → f ds = some z → ∀ Q : VK, OkV K F H ι (.dat z) w Q → g xs H Q) : DR K E t (mkA sa f) := by
  intro H0 F H ι w σ ρ d l
  unfold mkA
  cases e : sa ρ w with
  | stuck => trivial
  | exc x w1 => exact fun q Q => ht _ _ _ (ha.exc d l e q _)
  | ok ds w1 =>
    show Meets _ _ (match f ds with | some d => (.ok (.dat d) w1 : R Val) | none => .stuck)
    cases e2 : f ds with
    | none => trivial
    | some z => exact fun Q q => ht _ _ _ (ha.ok d l e fun xs F1 H1 ι1 s1 d1 r1 => hg F1 H1 ι1 w1 xs ds z d1 r1 e2 Q (OkV.step s1 q))
def most : Nat := 16777216
theorem most_le {n : Nat} (h : n ≤ most) : n ≤ sizeLine := by rw [sizeLine_eq]; exact h
def lstF (ds : List D) : Option D := if ds.length ≤ most then some (.lst ds) else none
def tupF (ds : List D) : Option D := if ds.length ≤ most then some (.tup ds) else none
theorem okv_new {K : PySem.W.Frag} {F H : Hp} {ι : List Addr} {w : W} {z : D} {Q : VK} {o : HO} {p : Addr} (d : Wd K F H ι w) (q : OkV K F H ι (.dat z) w Q) (hp : H p = none) (r : Rep K (upd F p o) ι (.ref p) z) : Q (.ref p) (upd H p o) :=
  q (.ref p) (upd F p o) (upd H p o) ι (Stp.fresh hp (d.free hp)) (d.fresh hp) r
theorem RepA.up {K : PySem.W.Frag} {F H : Hp} {ι : List Addr} {w : W} {p : Addr} {o : HO} {xs : List V} {ds : List D} (d : Wd K F H ι w) (hp : H p = none) (r : RepA K F ι xs ds) : RepA K (upd F p o) ι xs ds := r.mono (Ex.new (d.free hp)) fun _ _ h => h
theorem de_lst (ha : DA X E es ta sa) : DE X E (.List es pos) (tLst ta) (mkA sa lstF) := ⟨pe_lst ha.pa, by
  refine dr_mk (g := fun xs H1 Q => xs.length ≤ sizeLine ∧ ∀ p, H1 p = none → Q (.ref p) (upd H1 p (.lst xs))) ha.dr (fun _ _ _ q => q) fun F H ι w xs ds z d r e Q q => ?_
  unfold lstF at e
  split at e
  · rename_i h
    cases e
    exact ⟨by rw [r.length]; exact most_le h, fun p hp => okv_new d q hp (.lst upd_same (r.up d hp))⟩
  · cases e⟩
theorem de_tup {x1} (ha : DA X E es ta sa) : DE X E (.Tuple es x1 pos) (tTup ta) (mkA sa tupF) := ⟨pe_tup ha.pa, by
  refine dr_mk (g := fun xs H1 Q => xs.length ≤ sizeLine ∧ ∀ p, H1 p = none → Q (.ref p) (upd H1 p (.tup xs))) ha.dr (fun _ _ _ q => q) fun F H ι w xs ds z d r e Q q => ?_
  unfold tupF at e
  split at e
  · rename_i h
    cases e
    exact ⟨by rw [r.length]; exact most_le h, fun p hp => okv_new d q hp (.tup (SqT.of upd_same) (r.up d hp))⟩
  · cases e⟩
end
end DL

/-! Operators, built-ins. -/
namespace DL
open PySem PySem.Spec PyProof.Rows L2

abbrev rOr (r r' : R2) : R2 := fun x y H Q => r x y H Q ∨ r' x y H Q
section
variable {K : PySem.W.Frag}
/-! ### arithmetic -/
def addD : D → D → Option D
  | .int i, .int j => some (.int (i + j))
  | .str a, .str b => if a.length + b.length ≤ most then some (.str (a ++ b)) else none
  | .lst xs, .lst ys => if xs.length + ys.length ≤ most then some (.lst (xs ++ ys)) else none
  | .tup [], .tup _ => none
  | .tup xs, .tup ys => if xs.length + ys.length ≤ most then some (.tup (xs ++ ys)) else none
  | _, _ => none
def rAddS : R2 := fun x y H Q => ∃ i j, x = .str i ∧ y = .str j ∧ i.length + j.length ≤ sizeLine ∧ Q (.str (i ++ j)) H
def rAddD (K : PySem.W.Frag) : R2 := rOr (rI0 fun i j => .int (i + j)) (rOr rAddS (rOr rCat (rCatT K)))
theorem op_addD {X : Cx} : OpR X (binaryOp .Add) (rAddD X.K) := op_add.or (op_add_str.or (op_cat.or op_catT))
/-- the end of an operator whose answer is a flat value -/
theorem okv_flat {F H : Hp} {ι : List Addr} {w : W} {Q : VK} {v : V} {d : D} (wd : Wd K F H ι w) (q : OkV K F H ι (.dat d) w Q) (r : Rep K F ι v d) : Q v H := okv_now q wd r
theorem rel_add : RelOp K (rAddD K) addD := by
  intro F H ι w vx vy x y z wd rx ry e Q q
  unfold addD at e
  split at e
  · cases e; cases rx; cases ry
    exact .inl ⟨_, _, rfl, rfl, okv_flat wd q (.int _)⟩
  · cases rx; cases ry
    split at e
    · rename_i h
      cases e
      exact .inr (.inl ⟨_, _, rfl, rfl, most_le h, okv_flat wd q (.str _)⟩)
    · cases e
  · obtain ⟨a, xs, rfl, h1, r1⟩ := rx
    obtain ⟨b, ys, rfl, h2, r2⟩ := ry
    split at e
    · rename_i h
      cases e
      refine .inr (.inr (.inl ⟨a, b, xs, ys, rfl, rfl, h1, h2, by rw [r1.length, r2.length]; exact most_le h, fun p hp => okv_new wd q hp ?_⟩))
      exact .lst upd_same ((r1.append r2).up wd hp)
    · cases e
  · cases e
  · rename_i xs ys hne
    split at e
    · rename_i h
      cases e
      cases rx with
      | @tup a vs _ h1 r1 =>
      cases ry with
      | @tup b us _ h2 r2 =>
      refine .inr (.inr (.inr ⟨a, b, vs, us, rfl, rfl, ex_t wd.ex h1, ex_t wd.ex h2, fun z => ?_, by rw [r1.length, r2.length]; exact most_le h, fun z => ?_, fun _ p hp => okv_new wd q hp ?_⟩))
      · subst z
        cases r1
        exact hne rfl
      · subst z
        cases r2
        refine okv_flat wd q ?_
        rw [List.append_nil]
        exact .tup h1 r1
      · exact .tup (SqT.of upd_same) ((r1.append r2).up wd hp)
    · cases e
  · cases e
def intD (C : Int → Int → Bool) (g : Int → Int → Int) : D → D → Option D
  | .int i, .int j => if C i j then some (.int (g i j)) else none
  | _, _ => none
theorem rel_int {C : Int → Int → Prop} {C' : Int → Int → Bool} {g : Int → Int → Int} (hc : ∀ i j, C' i j = true → C i j) : RelOp K (rI C fun i j => .int (g i j)) (intD C' g) := by
  intro F H ι w vx vy x y z wd rx ry e Q q
  unfold intD at e
  split at e
  · cases rx; cases ry
    split at e
    · rename_i h
      cases e
      exact ⟨_, _, rfl, rfl, hc _ _ h, okv_flat wd q (.int _)⟩
    · cases e
  · cases e
def intD0 (g : Int → Int → Int) : D → D → Option D
  | .int i, .int j => some (.int (g i j))
  | _, _ => none
theorem rel_int0 {g : Int → Int → Int} : RelOp K (rI0 fun i j => .int (g i j)) (intD0 g) := by
  intro F H ι w vx vy x y z wd rx ry e Q q
  unfold intD0 at e
  split at e
  · cases rx; cases ry; cases e
    exact ⟨_, _, rfl, rfl, okv_flat wd q (.int _)⟩
  · cases e
abbrev subD : D → D → Option D := intD0 fun i j => i - j
theorem rel_sub : RelOp K (rI0 fun i j => .int (i - j)) subD := rel_int0
abbrev fdivD : D → D → Option D := intD (fun _ j => decide (0 < j ∧ j.natAbs.log2 < 9000)) fun i j => i / j
theorem rel_fdiv : RelOp K (rI CDivW fun i j => .int (i / j)) fdivD := rel_int fun i j h => by unfold CDivW; exact of_decide_eq_true h
abbrev modD : D → D → Option D := intD (fun _ j => decide (0 < j)) fun i j => i % j
theorem rel_mod : RelOp K (rI (fun _ j => 0 < j) fun i j => .int (i % j)) modD := rel_int fun _ _ h => of_decide_eq_true h
abbrev powD : D → D → Option D := intD (fun i j => decide (0 ≤ j ∧ j ≤ 1000000 ∧ i.natAbs < 2 ^ 64)) fun i j => i ^ j.toNat
theorem rel_pow : RelOp K (rI CPow fun i j => .int (i ^ j.toNat)) powD := rel_int fun i j h => by unfold CPow; exact of_decide_eq_true h
/-- a * b of ints; a list times a number -/
def mulD : D → D → Option D
  | .int i, .int j => if i.natAbs.log2 + j.natAbs.log2 < 1000000 then some (.int (i * j)) else none
  | .lst xs, .int k => if -(2 ^ 63) ≤ k ∧ k < 2 ^ 63 ∧ xs.length * k.toNat ≤ most then some (.lst (List.replicate k.toNat xs).flatten) else none
  | _, _ => none
def rMulD : R2 := rOr (rI CMulW fun i j => .int (i * j)) rRep
theorem op_mulD {X : Cx} : OpR X (binaryOp .Mult) rMulD := op_mulW.or op_rep
theorem RepA.rep {F : Hp} {ι : List Addr} {xs : List V} {ds : List D} (r : RepA K F ι xs ds) : ∀ n, RepA K F ι (List.replicate n xs).flatten (List.replicate n ds).flatten
  | 0 => .nil
  | n + 1 => by
    rw [List.replicate_succ, List.replicate_succ, List.flatten_cons, List.flatten_cons]
    exact r.append (RepA.rep r n)
theorem rel_mul : RelOp K rMulD mulD := by
  intro F H ι w vx vy x y z wd rx ry e Q q
  unfold mulD at e
  split at e
  · cases rx; cases ry
    split at e
    · rename_i h
      cases e
      exact .inl ⟨_, _, rfl, rfl, h, okv_flat wd q (.int _)⟩
    · cases e
  · obtain ⟨a, xs, rfl, h1, r1⟩ := rx
    cases ry
    split at e
    · rename_i h
      cases e
      refine .inr ⟨a, _, xs, rfl, rfl, h1, h.1, h.2.1, by rw [r1.length]; exact most_le h.2.2, fun p hp => okv_new wd q hp ?_⟩
      exact .lst upd_same ((r1.rep _).up wd hp)
    · cases e
  · cases e
/-! ### comparisons -/
/-- an order of ints, of texts -/
def ordD (g : Int → Int → Bool) (h : List Nat → List Nat → Bool) : D → D → Option D
  | .int i, .int j => some (.bl (g i j))
  | .str a, .str b => some (.bl (h a.cps.toList b.cps.toList))
  | _, _ => none
def rOrd (g : Int → Int → Bool) (h : List Nat → List Nat → Bool) : R2 := rOr (rI0 fun i j => .bl (g i j)) fun x y H Q => ∃ i j, x = .str i ∧ y = .str j ∧ Q (.bl (h i.cps.toList j.cps.toList)) H
theorem rel_ord {g : Int → Int → Bool} {h : List Nat → List Nat → Bool} : RelOp K (rOrd g h) (ordD g h) := by
  intro F H ι w vx vy x y z wd rx ry e Q q
  unfold ordD at e
  split at e
  · cases rx; cases ry; cases e
    exact .inl ⟨_, _, rfl, rfl, okv_flat wd q (.bl _)⟩
  · cases rx; cases ry; cases e
    exact .inr ⟨_, _, rfl, rfl, okv_flat wd q (.bl _)⟩
  · cases e
abbrev ltD := ordD (fun i j => decide (i < j)) fun a b => decide (a < b)
abbrev leD := ordD (fun i j => decide (i ≤ j)) fun a b => !decide (b < a)
abbrev gtD := ordD (fun i j => decide (j < i)) fun a b => decide (b < a)
abbrev geD := ordD (fun i j => decide (j ≤ i)) fun a b => !decide (a < b)
theorem op_ltD {X : Cx} : OpR X (compareOp .Lt) (rOrd (fun i j => decide (i < j)) fun (a b : List Nat) => decide (a < b)) := op_lt.or op_lt_str
theorem op_leD {X : Cx} : OpR X (compareOp .LtE) (rOrd (fun i j => decide (i ≤ j)) fun (a b : List Nat) => !decide (b < a)) := op_le.or op_le_str
theorem op_gtD {X : Cx} : OpR X (compareOp .Gt) (rOrd (fun i j => decide (j < i)) fun (a b : List Nat) => decide (b < a)) := op_gt.or op_gt_str
theorem op_geD {X : Cx} : OpR X (compareOp .GtE) (rOrd (fun i j => decide (j ≤ i)) fun (a b : List Nat) => !decide (a < b)) := op_ge.or op_ge_str
end
mutual
def toPy : D → Option PyData
  | .non => some .none
  | .bl b => some (.bool b)
  | .int i => some (.int i)
  | .str x => some (.str x)
  | .lst xs => (toPyA xs).map .list
  | .tup xs => (toPyA xs).map .tuple
  | .dct _ => none
  | .obj _ _ => none
  | .ptr _ => none
  | .scr _ => none
  | .exn _ _ => none
  | .exn0 _ => none
def toPyA : List D → Option (List PyData)
  | [] => some []
  | x :: r => match toPy x, toPyA r with
    | some a, some b => some (a :: b)
    | _, _ => none
end
section
variable {K : PySem.W.Frag} {F H : Hp} {ι : List Addr}
mutual
theorem Rep.dp (x : Ex F H) : ∀ {d : D} {v : V} {p : PyData}, Rep K F ι v d → toPy d = some p → Dp K H v p
  | .non, _, _, r, e => by cases r; cases e; exact .non
  | .bl _, _, _, r, e => by cases r; cases e; exact .bl _
  | .int _, _, _, r, e => by cases r; cases e; exact .int _
  | .str _, _, _, r, e => by cases r; cases e; exact .str _
  | .lst xs, _, _, r, e => by
    cases r with
    | lst h r =>
      unfold toPy at e
      cases q : toPyA xs with
      | none => rw [q] at e; cases e
      | some ps => rw [q] at e; cases e; exact .lst (SqL.of (x _ _ h)) (RepA.dp x r q)
  | .tup xs, _, _, r, e => by
    cases r with
    | tup h r =>
      unfold toPy at e
      cases q : toPyA xs with
      | none => rw [q] at e; cases e
      | some ps => rw [q] at e; cases e; exact .tup (ex_t x h) (RepA.dp x r q)
  | .dct _, _, _, _, e => by unfold toPy at e; cases e
  | .obj _ _, _, _, _, e => by unfold toPy at e; cases e
  | .ptr _, _, _, _, e => by unfold toPy at e; cases e
  | .scr _, _, _, _, e => by unfold toPy at e; cases e
theorem RepA.dp (x : Ex F H) : ∀ {ds : List D} {vs : List V} {ps : List PyData}, RepA K F ι vs ds → toPyA ds = some ps → DpAll K H vs ps
  | [], _, _, r, e => by cases r; cases e; exact .nil
  | d :: ds, _, _, r, e => by
    cases r with
    | cons h r =>
      unfold toPyA at e
      cases q1 : toPy d with
      | none => rw [q1] at e; cases e
      | some a =>
        cases q2 : toPyA ds with
        | none => rw [q1, q2] at e; cases e
        | some b => rw [q1, q2] at e; cases e; exact .cons (Rep.dp x h q1) (RepA.dp x r q2)
end
theorem RepS.dp (x : Ex F H) {d : D} {v : V} {p : PyData} (r : RepS K F H ι v d) (e : toPy d = some p) : Dp K H v p := by
  cases d with
  | lst ds =>
    obtain ⟨a, xs, rfl, h, r⟩ := r
    unfold toPy at e
    cases q : toPyA ds with
    | none => rw [q] at e; cases e
    | some ps => rw [q] at e; cases e; exact .lst (SqL.of h) (RepA.dp x r q)
  | dct _ => unfold toPy at e; cases e
  | obj _ _ => unfold toPy at e; cases e
  | non => exact Rep.dp x r e
  | bl _ => exact Rep.dp x r e
  | int _ => exact Rep.dp x r e
  | str _ => exact Rep.dp x r e
  | tup _ => exact Rep.dp x r e
  | ptr _ => unfold toPy at e; cases e
  | scr _ => unfold toPy at e; cases e
  | exn _ _ => unfold toPy at e; cases e
  | exn0 _ => unfold toPy at e; cases e
end
def eqB (a b : D) : Option Bool := match toPy a, toPy b with
  | some p, some q => if SeqAt.shaped p && SeqAt.shaped q then some (PyData.eqv p q) else none
  | _, _ => none
def eqD (a b : D) : Option D := (eqB a b).map .bl
def neD (a b : D) : Option D := (eqB a b).map fun k => .bl (!k)
section
variable {K : PySem.W.Frag}
theorem eqB_ok {a b : D} {k : Bool} (e : eqB a b = some k) : ∃ p q, toPy a = some p ∧ toPy b = some q ∧ SeqAt.shaped p = true ∧ SeqAt.shaped q = true ∧ k = PyData.eqv p q := by
  unfold eqB at e
  split at e
  · rename_i p q h1 h2
    split at e
    · rename_i h
      obtain ⟨a1, a2⟩ := Bool.and_eq_true_iff.mp h
      cases e
      exact ⟨p, q, h1, h2, a1, a2, rfl⟩
    · cases e
  · cases e
theorem rel_eq : RelOp K (rEqD K) eqD := by
  intro F H ι w vx vy x y z wd rx ry e Q q
  unfold eqD at e
  cases h : eqB x y with
  | none => rw [h] at e; cases e
  | some k =>
    rw [h] at e; cases e
    obtain ⟨p, u, h1, h2, h3, h4, rfl⟩ := eqB_ok h
    exact ⟨p, u, rx.dp wd.ex h1, ry.dp wd.ex h2, h3, h4, okv_flat wd q (.bl _)⟩
theorem rel_ne : RelOp K (rNeD K) neD := by
  intro F H ι w vx vy x y z wd rx ry e Q q
  unfold neD at e
  cases h : eqB x y with
  | none => rw [h] at e; cases e
  | some k =>
    rw [h] at e; cases e
    obtain ⟨p, u, h1, h2, h3, h4, rfl⟩ := eqB_ok h
    exact ⟨p, u, rx.dp wd.ex h1, ry.dp wd.ex h2, h3, h4, okv_flat wd q (.bl _)⟩
/-! is None -/
def D.isNon : D → Bool
  | .non => true
  | _ => false
def isN (neg : Bool) : D → D → Option D
  | x, .non => some (.bl (neg ^^ x.isNon))
  | _, _ => none
theorem RepS.non_iff {F H : Hp} {ι : List Addr} {v : V} {d : D} (r : RepS K F H ι v d) : decide (v = .non) = d.isNon := by
  cases d with
  | lst _ => obtain ⟨a, _, rfl, _⟩ := r; rfl
  | dct _ => obtain ⟨a, _, rfl, _⟩ := r; rfl
  | obj _ _ => obtain ⟨a, _, _, rfl, _⟩ := r; rfl
  | _ => cases r; rfl
theorem rel_isN : RelOp K rIsN (isN false) := by
  intro F H ι w vx vy x y z wd rx ry e Q q
  unfold isN at e
  split at e
  · cases ry; cases e
    refine ⟨rfl, ?_⟩
    rw [rx.non_iff]
    rw [Bool.false_xor] at q
    exact okv_flat wd q (Rep.bl _)
  · cases e
theorem rel_notN : RelOp K rNotN (isN true) := by
  intro F H ι w vx vy x y z wd rx ry e Q q
  unfold isN at e
  split at e
  · cases ry; cases e
    refine ⟨rfl, ?_⟩
    rw [rx.non_iff]
    rw [Bool.true_xor] at q
    exact okv_flat wd q (Rep.bl _)
  · cases e
/-! in a text (one sign), in a list or tuple of flat values -/
def toV : D → Option V
  | .non => some .non
  | .bl b => some (.bl b)
  | .int i => some (.int i)
  | .str x => some (.str x)
  | _ => none
def toVs : List D → Option (List V)
  | [] => some []
  | d :: r => match toV d, toVs r with
    | some v, some vs => some (v :: vs)
    | _, _ => none
theorem toV_ok {F : Hp} {ι : List Addr} {v u : V} {d : D} (r : Rep K F ι v d) (e : toV d = some u) : v = u ∧ flatV u = true := by
  cases d with
  | non => cases r; cases e; exact ⟨rfl, rfl⟩
  | bl _ => cases r; cases e; exact ⟨rfl, rfl⟩
  | int _ => cases r; cases e; exact ⟨rfl, rfl⟩
  | str _ => cases r; cases e; exact ⟨rfl, rfl⟩
  | _ => cases e
theorem toVs_ok {F : Hp} {ι : List Addr} : ∀ {ds : List D} {vs us : List V}, RepA K F ι vs ds → toVs ds = some us → vs = us ∧ us.all flatV = true
  | [], _, _, r, e => by cases r; cases e; exact ⟨rfl, rfl⟩
  | d :: ds, _, _, r, e => by
    cases r with
    | cons h r =>
      unfold toVs at e
      cases q1 : toV d with
      | none => rw [q1] at e; cases e
      | some a =>
        cases q2 : toVs ds with
        | none => rw [q1, q2] at e; cases e
        | some b =>
          rw [q1, q2] at e; cases e
          obtain ⟨rfl, h1⟩ := toV_ok h q1
          obtain ⟨rfl, h2⟩ := toVs_ok r q2
          exact ⟨rfl, by rw [List.all_cons, h1, h2] <;> rfl⟩
def inB (x : D) (ys : List D) : Option Bool := match toV x, toVs ys with
  | some v, some vs => some (inV v vs)
  | _, _ => none
def inD (neg : Bool) : D → D → Option D
  | .str a, .str b => (match a.cps.toList with
    | [c] => some (.bl (neg ^^ decide (c ∈ b.cps.toList)))
    | _ => none)
  | x, .lst ys => (inB x ys).map fun k => .bl (neg ^^ k)
  | x, .tup ys => (inB x ys).map fun k => .bl (neg ^^ k)
  | _, _ => none
def rInD (K : PySem.W.Frag) (neg : Bool) : R2 := rOr (fun x y H Q => ∃ (c : Nat) (z : Str), x = .str ⟨#[c]⟩ ∧ y = .str z ∧ Q (.bl (neg ^^ decide (c ∈ z.cps.toList))) H) (rIn K neg)
theorem op_inD {X : Cx} : OpR X (compareOp .In) (rInD X.K false) := by
  refine OpR.or ?_ op_in_seq
  intro pins s σ H x y v u Q I rx ry h
  obtain ⟨c, z, e1, e2, q⟩ := h
  rw [Bool.false_xor] at q
  exact op_in_sign pins s σ H x y v u Q I rx ry ⟨c, z, e1, e2, q⟩
theorem op_notInD {X : Cx} : OpR X (compareOp .NotIn) (rInD X.K true) := by
  refine OpR.or ?_ op_notIn_seq
  intro pins s σ H x y v u Q I rx ry h
  obtain ⟨c, z, e1, e2, q⟩ := h
  rw [Bool.true_xor] at q
  exact op_notIn_sign pins s σ H x y v u Q I rx ry ⟨c, z, e1, e2, q⟩
theorem inB_ok {x : D} {ys : List D} {k : Bool} (e : inB x ys = some k) : ∃ v vs, toV x = some v ∧ toVs ys = some vs ∧ k = inV v vs := by
  unfold inB at e
  split at e
  · rename_i v vs h1 h2; cases e; exact ⟨v, vs, h1, h2, rfl⟩
  · cases e
theorem RepS.toV {F H : Hp} {ι : List Addr} {v u : V} {d : D} (r : RepS K F H ι v d) (e : toV d = some u) : v = u ∧ flatV u = true := by
  cases d with
  | lst _ => cases e
  | dct _ => cases e
  | obj _ _ => cases e
  | _ => exact toV_ok r e
theorem neg_in {neg k : Bool} : (if neg then !k else k) = (neg ^^ k) := by cases neg <;> cases k <;> rfl
theorem rel_in (neg : Bool) : RelOp K (rInD K neg) (inD neg) := by
  intro F H ι w vx vy x y z wd rx ry e Q q
  unfold inD at e
  split at e
  · rename_i a b
    cases rx; cases ry
    split at e
    · rename_i c hc
      cases e
      refine .inl ⟨c, b, ?_, rfl, okv_flat wd q (.bl _)⟩
      obtain ⟨cps⟩ := a
      congr 2
      exact Array.toList_inj.mp hc
    · cases e
  · cases h : inB x _ with
    | none => rw [h] at e; cases e
    | some k =>
      rw [h] at e; cases e
      obtain ⟨u, us, h1, h2, rfl⟩ := inB_ok h
      obtain ⟨a, xs, rfl, hx, r⟩ := ry
      obtain ⟨rfl, f1⟩ := rx.toV h1
      obtain ⟨rfl, f2⟩ := toVs_ok r h2
      refine .inr ⟨a, _, rfl, .inl (SqL.of hx), f1, f2, ?_⟩
      rw [neg_in]
      exact okv_flat wd q (.bl _)
  · cases h : inB x _ with
    | none => rw [h] at e; cases e
    | some k =>
      rw [h] at e; cases e
      obtain ⟨u, us, h1, h2, rfl⟩ := inB_ok h
      cases ry with
      | @tup a xs _ hx r =>
      obtain ⟨rfl, f1⟩ := rx.toV h1
      obtain ⟨rfl, f2⟩ := toVs_ok r h2
      refine .inr ⟨a, _, rfl, .inr (ex_t wd.ex hx), f1, f2, ?_⟩
      rw [neg_in]
      exact okv_flat wd q (.bl _)
  · cases e
end
end DL

/-! Built-ins by name, subscripts, slices, dicts, truth, texts. -/
namespace DL
open PySem PySem.Spec PyProof.Rows L2

section
variable {K : PySem.W.Frag} {E : XK}
/-! ### a built-in of one, of two values -/
def RelC1 (K : PySem.W.Frag) (r : List V → Hp → VK → Prop) (g : D → Option D) : Prop :=
  ∀ F H ι (w : W) v x z, Wd K F H ι w → RepS K F H ι v x → g x = some z → ∀ Q : VK, OkV K F H ι (.dat z) w Q → r [v] H Q
def RelC2 (K : PySem.W.Frag) (r : List V → Hp → VK → Prop) (g : D → D → Option D) : Prop :=
  ∀ F H ι (w : W) v u x y z, Wd K F H ι w → RepS K F H ι v x → RepS K F H ι u y → g x y = some z → ∀ Q : VK, OkV K F H ι (.dat z) w Q → r [v, u] H Q
def op1 (g : D → Option D) (x : Val) (w : W) : R Val := match x.d w with
  | some a => (match g a with
    | some z => .ok (.dat z) w
    | none => .stuck)
  | none => .stuck
def un (g : D → Option D) (sa : SemE) : SemE := fun ρ w => (sa ρ w).bind fun x w1 => op1 g x w1
theorem dr_un {g : D → Option D} {te ta : TE} {sa : SemE} {k : V → L2.St → Hp → VK → Prop} (ha : DR K E ta sa) (he : ∀ σ H Q, ta σ H (fun x H1 => k x σ H1 Q) → te σ H Q)
    (hk : ∀ F H ι (w : W) (σ : L2.St) v x z, Wd K F H ι w → RepS K F H ι v x → g x = some z → ∀ Q : VK, OkV K F H ι (.dat z) w Q → k v σ H Q) : DR K E te (un g sa) := by
  refine DR.bind (f := fun x _ w1 => op1 g x w1) (k := k) ha he ?_
  intro H0 F H ι w σ ρ v x d l rx
  unfold op1
  cases e1 : x.d w with
  | none => trivial
  | some a =>
    cases e3 : g a with
    | none => simp only [e3]; trivial
    | some z =>
      simp only [e3]
      exact fun Q q => hk F H ι w σ v a z d (rx.toS d e1) e3 Q q
theorem dr_call1 {r : List V → Hp → VK → Prop} {g : D → Option D} {ta : TE} {sa : SemE} (hr : RelC1 K r g) (ha : DR K E ta sa) : DR K E (tCB r (tCons ta tNil)) (un g sa) :=
  dr_un (k := fun v _ H Q => r [v] H Q) ha (fun _ _ _ q => q) fun F H ι w _ v x z d rx e Q q => hr F H ι w v x z d rx e Q q
theorem dr_call2 {r : List V → Hp → VK → Prop} {g : D → D → Option D} {ta tb : TE} {sa sb : SemE} (hr : RelC2 K r g) (ha : DR K E ta sa) (hb : DR K E tb sb) : DR K E (tCB r (tCons ta (tCons tb tNil))) (bin g sa sb) :=
  (dr_bin (r := fun x y H Q => r [x, y] H Q) (fun F H ι w vx vy x y z wd rx ry e Q q => hr F H ι w vx vy x y z wd rx ry e Q q) ha hb).of fun _ _ _ q => q
end
section
variable {X : Cx} {E : XK} {x : Str} {p pos : Pos} {a b : Expr} {ta tb : TE} {sa sb : SemE} {r : List V → Hp → VK → Prop} {id T : String}
theorem de_callB1 {g : D → Option D} (hc : CallR X (.builtin id) r) (hr : RelC1 X.K r g) (hm : X.mg x = none) (hv : bootBuiltins x = some (.builtin id)) (ha : DE X E a ta sa) (hg : Gl X x := by rfl) (hn : x ≠ "__name__" := by decide) (hdb : (x == ("__debug__" : Str)) = false := by decide)
    (he : starEach [a] X.env = (false, eval a X.env) :: starEach [] X.env := by rfl) (hpl : (backTo pos (starEach [] X.env)).any (·.1) = false := by rfl) : DE X E (.Call (.Name x p) [a] [] pos) (tCB r (tCons ta tNil)) (un g sa) :=
  ⟨pe_callB hc hg hm hv (pa_cons ha.pe pa_nil he) hn hdb he hpl, dr_call1 hr ha.dr⟩
theorem de_callT1 {g : D → Option D} (hc : CallR X (.type T) r) (hr : RelC1 X.K r g) (hm : X.mg x = none) (hv : bootBuiltins x = some (.type T)) (ha : DE X E a ta sa) (hg : Gl X x := by rfl) (hn : x ≠ "__name__" := by decide) (hdb : (x == ("__debug__" : Str)) = false := by decide)
    (he : starEach [a] X.env = (false, eval a X.env) :: starEach [] X.env := by rfl) (hpl : (backTo pos (starEach [] X.env)).any (·.1) = false := by rfl) : DE X E (.Call (.Name x p) [a] [] pos) (tCB r (tCons ta tNil)) (un g sa) :=
  ⟨pe_callTy hc hg hm hv (pa_cons ha.pe pa_nil he) hn hdb he hpl, dr_call1 hr ha.dr⟩
theorem de_callB2 {g : D → D → Option D} (hc : CallR X (.builtin id) r) (hr : RelC2 X.K r g) (hm : X.mg x = none) (hv : bootBuiltins x = some (.builtin id)) (ha : DE X E a ta sa) (hb : DE X E b tb sb) (hg : Gl X x := by rfl) (hn : x ≠ "__name__" := by decide) (hdb : (x == ("__debug__" : Str)) = false := by decide)
    (hs : starEach [b] X.env = (false, eval b X.env) :: starEach [] X.env := by rfl) (he : starEach [a, b] X.env = (false, eval a X.env) :: starEach [b] X.env := by rfl) (hpl : (backTo pos (starEach [b] X.env)).any (·.1) = false := by rfl) : DE X E (.Call (.Name x p) [a, b] [] pos) (tCB r (tCons ta (tCons tb tNil))) (bin g sa sb) :=
  ⟨pe_callB hc hg hm hv (pa_cons ha.pe (pa_cons hb.pe pa_nil hs) he) hn hdb he hpl, dr_call2 hr ha.dr hb.dr⟩
end

section
variable {K : PySem.W.Frag}
def lenD : D → Option D
  | .str x => if x.length ≤ most then some (.int x.length) else none
  | .lst xs => some (.int xs.length)
  | .tup xs => some (.int xs.length)
  | .scr ns => some (.int ns.length)
  | .dct es => some (.int es.length)
  | _ => none
def rLenD (K : PySem.W.Frag) : List V → Hp → VK → Prop := fun xs H Q => (∃ x n, xs = [x] ∧ LenV K x H n ∧ Q (.int n) H) ∨ ∃ a kvs, xs = [V.ref a] ∧ H a = some (.dK kvs) ∧ Q (.int kvs.length) H
theorem call_lenE {X : Cx} : CallR X (.builtin "len") (rLenD X.K) := call_len.or call_lenD
theorem RepK.length {F : Hp} {ι : List Addr} {xs : List (Key × V)} {ds : List (Key × D)} (r : RepK K F ι xs ds) : xs.length = ds.length := by
  induction ds generalizing xs with
  | nil => cases r; rfl
  | cons d ds ih =>
    cases r with
    | cons h r => simp [ih r]
theorem rel_len : RelC1 K (rLenD K) lenD := by
  intro F H ι w v x z wd rx e Q q
  unfold lenD at e
  split at e
  · cases rx
    split at e
    · rename_i h
      cases e
      exact .inl ⟨_, _, rfl, ⟨most_le h, rfl⟩, okv_flat wd q (.int _)⟩
    · cases e
  · obtain ⟨a, xs, rfl, h, r⟩ := rx
    cases e
    exact .inl ⟨_, _, rfl, .inl ⟨_, SqL.of h, r.length.symm⟩, okv_flat wd q (.int _)⟩
  · cases rx with
    | tup h r =>
    cases e
    exact .inl ⟨_, _, rfl, .inr ⟨_, ex_t wd.ex h, r.length.symm⟩, okv_flat wd q (.int _)⟩
  · cases rx with
    | scr h =>
    cases e
    exact .inl ⟨_, _, rfl, .inl ⟨_, ex_l wd.ex h, by rw [List.length_map]⟩, okv_flat wd q (.int _)⟩
  · obtain ⟨a, xs, rfl, h, r⟩ := rx
    cases e
    refine .inr ⟨a, xs, rfl, h, ?_⟩
    rw [r.length]
    exact okv_flat wd q (.int _)
  · cases e
def intF : D → Option D
  | .int i => some (.int i)
  | .bl k => some (.int (if k then 1 else 0))
  | _ => none
def rInt1 : List V → Hp → VK → Prop := fun xs H Q => (∃ i, xs = [.int i] ∧ Q (.int i) H) ∨ ∃ k, xs = [.bl k] ∧ Q (.int (if k then 1 else 0)) H
theorem rel_int1 : RelC1 K rInt1 intF := by
  intro F H ι w v x z wd rx e Q q
  unfold intF at e
  split at e
  · cases rx; cases e
    exact .inl ⟨_, rfl, okv_flat wd q (.int _)⟩
  · cases rx; cases e
    exact .inr ⟨_, rfl, okv_flat wd q (.int _)⟩
  · cases e
def absF : D → Option D
  | .int i => some (.int (if i < 0 then -i else i))
  | _ => none
def rAbs : List V → Hp → VK → Prop := fun xs H Q => ∃ i, xs = [.int i] ∧ Q (.int (if i < 0 then -i else i)) H
theorem rel_abs : RelC1 K rAbs absF := by
  intro F H ι w v x z wd rx e Q q
  unfold absF at e
  split at e
  · cases rx; cases e
    exact ⟨_, rfl, okv_flat wd q (.int _)⟩
  · cases e
def maxF : D → D → Option D
  | .int i, .int j => some (.int (if j > i then j else i))
  | _, _ => none
def minF : D → D → Option D
  | .int i, .int j => some (.int (if j < i then j else i))
  | _, _ => none
def rMax2D : List V → Hp → VK → Prop := fun xs H Q => ∃ i j, xs = [.int i, .int j] ∧ Q (.int (if j > i then j else i)) H
def rMin2D : List V → Hp → VK → Prop := fun xs H Q => ∃ i j, xs = [.int i, .int j] ∧ Q (.int (if j < i then j else i)) H
theorem rel_max : RelC2 K rMax2D maxF := by
  intro F H ι w v u x y z wd rx ry e Q q
  unfold maxF at e
  split at e
  · cases rx; cases ry; cases e
    exact ⟨_, _, rfl, okv_flat wd q (.int _)⟩
  · cases e
theorem rel_min : RelC2 K rMin2D minF := by
  intro F H ι w v u x y z wd rx ry e Q q
  unfold minF at e
  split at e
  · cases rx; cases ry; cases e
    exact ⟨_, _, rfl, okv_flat wd q (.int _)⟩
  · cases e
theorem RepA.ints {F : Hp} {ι : List Addr} : ∀ ns : List Int, RepA K F ι (ns.map V.int) (ns.map D.int)
  | [] => .nil
  | n :: r => .cons (.int n) (RepA.ints r)
def listF : D → Option D
  | .lst xs => some (.lst xs)
  | .tup xs => some (.lst xs)
  | .scr ns => some (.lst (ns.map .int))
  | _ => none
def rListD (K : PySem.W.Frag) : List V → Hp → VK → Prop := fun xs H Q => ∃ p ys, xs = [.ref p] ∧ (SqL K H p ys ∨ SqT K H p ys) ∧ ∀ l, H l = none → Q (.ref l) (upd H l (.lst ys))
theorem rel_list : RelC1 K (rListD K) listF := by
  intro F H ι w v x z wd rx e Q q
  unfold listF at e
  split at e
  · obtain ⟨a, xs, rfl, h, r⟩ := rx
    cases e
    exact ⟨_, _, rfl, .inl (SqL.of h), fun p hp => okv_new wd q hp (.lst upd_same (r.up wd hp))⟩
  · cases rx with
    | tup h r =>
    cases e
    exact ⟨_, _, rfl, .inr (ex_t wd.ex h), fun p hp => okv_new wd q hp (.lst upd_same (r.up wd hp))⟩
  · cases rx with
    | scr h =>
    cases e
    exact ⟨_, _, rfl, .inl (ex_l wd.ex h), fun p hp => okv_new wd q hp (.lst upd_same (RepA.ints _))⟩
  · cases e
def tupleF : D → Option D
  | .lst xs => some (.tup xs)
  | .tup xs => some (.tup xs)
  | _ => none
def rTupleD (K : PySem.W.Frag) : List V → Hp → VK → Prop := fun xs H Q => ∃ p ys, xs = [.ref p] ∧ ((SqL K H p ys ∧ ∀ l, H l = none → Q (.ref l) (upd H l (.tup ys))) ∨ (SqT K H p ys ∧ Q (.ref p) H))
theorem rel_tuple : RelC1 K (rTupleD K) tupleF := by
  intro F H ι w v x z wd rx e Q q
  unfold tupleF at e
  split at e
  · obtain ⟨a, xs, rfl, h, r⟩ := rx
    cases e
    exact ⟨_, _, rfl, .inl ⟨SqL.of h, fun p hp => okv_new wd q hp (.tup (SqT.of upd_same) (r.up wd hp))⟩⟩
  · cases rx with
    | tup h r =>
    cases e
    exact ⟨_, _, rfl, .inr ⟨ex_t wd.ex h, okv_flat wd q (.tup h r)⟩⟩
  · cases e
/-! ### subscripts -/
def ixD : D → D → Option D
  | .lst xs, .int i => atI xs i
  | .tup xs, .int i => atI xs i
  | .str z, .int i => if z.length ≤ most then (atI z.cps.toList i).map fun c => .str ⟨#[c]⟩ else none
  | .scr ns, .int i => (atI ns i).map .int
  | _, _ => none
theorem RepA.atI {F : Hp} {ι : List Addr} {xs : List V} {ds : List D} (r : RepA K F ι xs ds) {i : Int} {d : D} (e : L2.atI ds i = some d) : ∃ v, L2.atI xs i = some v ∧ Rep K F ι v d := by
  unfold L2.atI at e ⊢
  rw [r.length]
  cases h : ixN ds.length i with
  | none => rw [h] at e; cases e
  | some j =>
    rw [h] at e
    exact r.get' e
theorem atI_map {α β : Type} (f : α → β) (xs : List α) (i : Int) : L2.atI (xs.map f) i = (L2.atI xs i).map f := by
  unfold L2.atI
  rw [List.length_map]
  cases ixN xs.length i with
  | none => rfl
  | some j => simp
theorem rel_ix : RelOp K (rIx K) ixD := by
  intro F H ι w vx vy x y z wd rx ry e Q q
  unfold ixD at e
  split at e
  · obtain ⟨a, xs, rfl, h, r⟩ := rx
    cases ry
    obtain ⟨v, hv, rv⟩ := r.atI e
    exact .inl ⟨_, _, _, v, rfl, rfl, SqL.of h, hv, okv_now q wd rv⟩
  · cases rx with
    | tup h r =>
    cases ry
    obtain ⟨v, hv, rv⟩ := r.atI e
    exact .inr (.inl ⟨_, _, _, v, rfl, rfl, ex_t wd.ex h, hv, okv_now q wd rv⟩)
  · cases rx; cases ry
    split at e
    · rename_i h
      cases hc : L2.atI _ _ with
      | none => rw [hc] at e; cases e
      | some c =>
        rw [hc] at e; cases e
        exact .inr (.inr ⟨_, _, c, rfl, rfl, most_le h, hc, okv_now q wd (Rep.str _)⟩)
    · cases e
  · cases rx with
    | scr h =>
    cases ry
    cases hc : L2.atI _ _ with
    | none => rw [hc] at e; cases e
    | some c =>
      rw [hc] at e; cases e
      exact .inl ⟨_, _, _, .int c, rfl, rfl, ex_l wd.ex h, by rw [atI_map, hc]; rfl, okv_now q wd (Rep.int _)⟩
  · cases e
theorem de_ix {X : Cx} {E : XK} {a b : Expr} {ta tb : TE} {sa sb : SemE} {pos : Pos} (ha : DE X E a ta sa) (hb : DE X E b tb sb) (hs : PlainIx b := by exact fun _ _ => rfl) : DE X E (.Subscript a b pos) (tOp (rIx X.K) ta tb) (bin ixD sa sb) := ⟨pe_ix ix_seq ha.pe hb.pe hs, dr_bin rel_ix ha.dr hb.dr⟩
/-! ### slices -/
abbrev SemO := List Slot → W → R (Option Int)
def DRO (K : PySem.W.Frag) (E : XK) (t : TO) (s : SemO) : Prop := ∀ (H0 F H : Hp) (ι : List Addr) (w : W) (σ : L2.St) (ρ : List Slot), Wd K F H ι w → Sl K H0 F H ι σ ρ →
  Meets (fun x w' => ∀ Q : Option Int → Hp → Prop, OkT K F H ι w' (Q x) → t σ H Q) (fun x w' => XPost K E F H ι x w' → ∀ Q, t σ H Q) (s ρ w)
structure DO (X : Cx) (E : XK) (e : Option Expr) (t : TO) (s : SemO) : Prop where
  po : PO X e t
  dr : DRO X.K E t s
def noPart : SemO := fun _ w => .ok none w
def part (s : SemE) : SemO := fun ρ w => (s ρ w).bind fun x w1 => match x with
  | .dat (.int i) => .ok (some i) w1
  | _ => .stuck
theorem do_none {X : Cx} {E : XK} : DO X E none tNoPart noPart := ⟨po_none, fun _ F H ι w σ ρ d l Q q => q F H ι Stp.refl d⟩
theorem do_some {X : Cx} {E : XK} {e : Expr} {te : TE} {s : SemE} (h : DE X E e te s) : DO X E (some e) (tPart te) (part s) := ⟨po_some h.pe, by
  intro H0 F H ι w σ ρ d l
  unfold part
  cases e : s ρ w with
  | stuck => trivial
  | exc x w1 => exact fun q Q => h.dr.exc d l e q _
  | ok x w1 =>
    cases x with
    | vw c => trivial
    | dat y =>
      cases y with
      | int i =>
        intro Q q
        refine h.dr.ok d l e fun v F1 H1 ι1 s1 d1 r1 => ?_
        have r2 : Rep X.K F1 ι1 v (.int i) := r1
        cases r2
        exact ⟨i, rfl, q F1 H1 ι1 s1 d1⟩
      | _ => trivial⟩
def cutD (lo hi : Option Int) : D → Option D
  | .lst xs => some (.lst ((xs.drop (HT.sIx xs.length 0 lo)).take (HT.sIx xs.length xs.length hi - HT.sIx xs.length 0 lo)))
  | .scr ns => some (.lst (((ns.drop (HT.sIx ns.length 0 lo)).take (HT.sIx ns.length ns.length hi - HT.sIx ns.length 0 lo)).map .int))
  | .str z => if z.length ≤ most then some (.str (cutS z lo hi)) else none
  | _ => none
def rSlD (K : PySem.W.Frag) : V → Option Int → Option Int → Hp → VK → Prop := fun x lo hi H Q => rSlL K x lo hi H Q ∨ rSlS x lo hi H Q
theorem rel_sl {F H : Hp} {ι : List Addr} {w : W} {v : V} {x z : D} {lo hi : Option Int} (wd : Wd K F H ι w) (rx : RepS K F H ι v x) (e : cutD lo hi x = some z) {Q : VK} (q : OkV K F H ι (.dat z) w Q) : rSlD K v lo hi H Q := by
  unfold cutD at e
  split at e
  · obtain ⟨a, xs, rfl, h, r⟩ := rx
    cases e
    refine .inl ⟨_, _, rfl, SqL.of h, fun p hp => okv_new wd q hp (.lst upd_same ?_)⟩
    unfold cutV
    rw [r.length]
    exact (r.drop.take).up wd hp
  · cases rx with
    | scr h =>
    cases e
    refine .inl ⟨_, _, rfl, ex_l wd.ex h, fun p hp => okv_new wd q hp (.lst upd_same ?_)⟩
    unfold cutV
    rw [List.length_map, ← List.map_drop, ← List.map_take]
    exact RepA.ints _
  · cases rx
    split at e
    · rename_i h
      cases e
      exact .inr ⟨_, rfl, most_le h, okv_now q wd (Rep.str _)⟩
    · cases e
  · cases e
def slice (sa : SemE) (sl sh : SemO) : SemE := fun ρ w => (sa ρ w).bind fun x w1 => (sl ρ w1).bind fun lo w2 => (sh ρ w2).bind fun hi w3 => op1 (cutD lo hi) x w3
theorem de_slice {X : Cx} {E : XK} {e : Expr} {lo hi : Option Expr} {te : TE} {tl th : TO} {s : SemE} {sl sh : SemO} {pos p2 : Pos} (he : DE X E e te s) (hl : DO X E lo tl sl) (hh : DO X E hi th sh) : DE X E (.Subscript e (.Slice lo hi none p2) pos) (tSl (rSlD X.K) te tl th) (slice s sl sh) := ⟨pe_slice (sl_list.or sl_str) he.pe hl.po hh.po, by
  refine DR.bind (f := fun x ρ w1 => (sl ρ w1).bind fun lo w2 => (sh ρ w2).bind fun hi w3 => op1 (cutD lo hi) x w3) (k := fun x σ H1 Q => tl σ H1 fun l H2 => th σ H2 fun u H3 => rSlD X.K x l u H3 Q) he.dr (fun _ _ _ q => q) ?_
  intro H0 F H ι w σ ρ v x d l rx
  show Meets _ _ ((sl ρ w).bind _)
  have hL := hl.dr H0 F H ι w σ ρ d l
  cases e : sl ρ w with
  | stuck => trivial
  | exc y w1 => rw [e] at hL; exact fun q Q => hL q _
  | ok i w1 =>
    rw [e] at hL
    show Meets _ _ ((sh ρ w1).bind _)
    have hR : ∀ F1 H1 ι1, Wd X.K F1 H1 ι1 w1 → Stp F H ι F1 H1 ι1 → _ := fun F1 H1 ι1 d1 s1 => hh.dr H0 F1 H1 ι1 w1 σ ρ d1 (l.mono s1)
    cases e2 : sh ρ w1 with
    | stuck => trivial
    | exc y w2 =>
      refine fun q Q => hL _ fun F1 H1 ι1 s1 d1 => ?_
      have z := hR F1 H1 ι1 d1 s1
      rw [e2] at z
      exact z (q.step s1) _
    | ok j w2 =>
      show Meets _ _ (op1 (cutD i j) x w2)
      unfold op1
      cases e3 : x.d w2 with
      | none => trivial
      | some a =>
        cases e4 : cutD i j a with
        | none => simp only [e4]; trivial
        | some z =>
          simp only [e4]
          refine fun Q q => hL _ fun F1 H1 ι1 s1 d1 => ?_
          have y := hR F1 H1 ι1 d1 s1
          rw [e2] at y
          refine y _ fun F2 H2 ι2 s2 d2 => ?_
          exact rel_sl d2 ((rx.mono (s1.trans s2)).toS d2 e3) e4 (OkV.step (s1.trans s2) q)⟩
/-! ### truth -/
def truD : D → Option Bool
  | .non => some false
  | .bl b => some b
  | .int i => some (i != 0)
  | .str x => if x.length ≤ most then some ((x.length : Int) != 0) else none
  | .lst xs => some (!xs.isEmpty)
  | .tup xs => some (!xs.isEmpty)
  | .dct es => some (!es.isEmpty)
  | _ => none
theorem isEmpty_len {α β : Type} {xs : List α} {ys : List β} (h : xs.length = ys.length) : (!xs.isEmpty) = !ys.isEmpty := by
  cases xs <;> cases ys <;> simp_all
theorem tru_of {F H : Hp} {ι : List Addr} {w : W} {v : V} {x : D} {k : Bool} (wd : Wd K F H ι w) (rx : RepS K F H ι v x) (e : truD x = some k) : TruV K v H k := by
  unfold truD at e
  split at e
  · cases rx; cases e; rfl
  · cases rx; cases e; rfl
  · cases rx; cases e; rfl
  · cases rx
    split at e
    · rename_i h
      cases e
      exact ⟨most_le h, rfl⟩
    · cases e
  · obtain ⟨a, xs, rfl, h, r⟩ := rx
    cases e
    exact .inl ⟨_, SqL.of h, isEmpty_len r.length.symm⟩
  · cases rx with
    | tup h r =>
    cases e
    exact .inr (.inl ⟨_, ex_t wd.ex h, isEmpty_len r.length.symm⟩)
  · obtain ⟨a, xs, rfl, h, r⟩ := rx
    cases e
    exact .inr (.inr ⟨_, h, isEmpty_len r.length.symm⟩)
  · cases e
def truE (s : SemE) : SemT := fun ρ w => (s ρ w).bind fun x w1 => match x.d w1 with
  | some a => (match truD a with
    | some k => .ok k w1
    | none => .stuck)
  | none => .stuck
theorem dt_tru {X : Cx} {E : XK} {a : Expr} {ta : TE} {sa : SemE} (h : DE X E a ta sa) (he : ∀ whole, isTrue a X.env whole = (do let v ← whole; standAt a.pos; holding [v] (truthy v)) := by intro _; rfl) :
    DT X E a (fun σ H Q => ta σ H fun x H' => ∃ k, TruV X.K x H' k ∧ Q k H') (truE sa) := ⟨pt_truth h.pe he, by
  intro H0 F H ι w σ ρ d l
  unfold truE
  cases e : sa ρ w with
  | stuck => trivial
  | exc x w1 => exact fun q Q => h.dr.exc d l e q _
  | ok x w1 =>
    show Meets _ _ (match x.d w1 with | some a => (match truD a with | some k => (.ok k w1 : R Bool) | none => .stuck) | none => .stuck)
    cases e1 : x.d w1 with
    | none => trivial
    | some a =>
      cases e2 : truD a with
      | none => simp only [e2]; trivial
      | some k =>
        simp only [e2]
        exact fun Q q => h.dr.ok d l e fun v F1 H1 ι1 s1 d1 r1 => ⟨k, tru_of d1 (r1.toS d1 e1) e2, q F1 H1 ι1 s1 d1⟩⟩
/-! ### isinstance of a built-in class -/
def D.ty : D → Option String
  | .non => some "NoneType"
  | .bl _ => some "bool"
  | .int _ => some "int"
  | .str _ => some "str"
  | .lst _ => some "list"
  | .tup _ => some "tuple"
  | .dct _ => some "dict"
  | _ => none
theorem ty_of {F H : Hp} {ι : List Addr} {w : W} {v : V} {x : D} {t : String} (wd : Wd K F H ι w) (rx : RepS K F H ι v x) (e : x.ty = some t) : TyX K H v (.type t) := by
  unfold D.ty at e
  split at e
  · cases rx; cases e; exact .base .non
  · cases rx; cases e; exact .base (.bl _)
  · cases rx; cases e; exact .base (.int _)
  · cases rx; cases e; exact .base (.str _)
  · obtain ⟨a, xs, rfl, h, r⟩ := rx
    cases e; exact .base (.lst h)
  · cases rx with
    | tup h r =>
    cases e
    rcases ex_t wd.ex h with (h | ⟨o, h⟩) | ⟨o, its, n, h1, h2, _⟩
    · exact .base (.tup h)
    · exact .fTuple h
    · exact .kTuple h1 h2
  · obtain ⟨a, xs, rfl, h, r⟩ := rx
    cases e; exact .base (.dK h)
  · cases e
def isiD (T : String) (d : D) : Option D := (d.ty.bind fun t => kitB t T).map .bl
theorem rel_isi (T : String) : RelC1 K (fun xs H Q => ∃ v, xs = [v] ∧ rIsi K [v, .ty T] H Q) (isiD T) := by
  intro F H ι w v x z wd rx e Q q
  unfold isiD at e
  cases h : x.ty with
  | none => rw [h] at e; cases e
  | some t =>
    rw [h] at e
    cases h2 : kitB t T with
    | none => simp [h2] at e
    | some b =>
      simp [h2] at e
      cases e
      exact ⟨v, rfl, v, .ty T, .type t, .type T, b, rfl, .ty T, ty_of wd rx h, kit_ty h2, okv_now q wd (Rep.bl b)⟩
theorem de_isi {X : Cx} {E : XK} {a : Expr} {ta : TE} {sa : SemE} {y : Str} {p pos p2 : Pos} (T : String) (hm : X.mg "isinstance" = none) (hy : X.mg y = none) (hT : bootBuiltins y = some (.type T)) (ha : DE X E a ta sa) (hg : Gl X "isinstance" := by rfl) (hgy : Gl X y := by rfl)
    (hn : y ≠ "__name__" := by decide) (hdb : (y == ("__debug__" : Str)) = false := by decide)
    (he : starEach [a, .Name y p2] X.env = (false, eval a X.env) :: starEach [.Name y p2] X.env := by rfl) (hpl : (backTo pos (starEach [.Name y p2] X.env)).any (·.1) = false := by rfl) :
    DE X E (.Call (.Name "isinstance" p) [a, .Name y p2] [] pos) (tCB (rIsi X.K) (tCons ta (tCons (tC (.ty T)) tNil))) (un (isiD T) sa) :=
  ⟨pe_callB call_isi hg hm (by decide +kernel) (pa_cons ha.pe (pa_cons (pe_bltn hgy hy hT rfl hn hdb) pa_nil) he) (by decide) (by decide) he hpl,
    (dr_call1 (rel_isi T) ha.dr).of fun σ H Q q => (show ta σ H _ from by
      have q' : ta σ H fun x H1 => ∃ v, [x] = [v] ∧ rIsi X.K [v, .ty T] H1 Q := q
      exact q') |> fun q => by
        show ta σ H fun x H1 => rIsi X.K [x, .ty T] H1 Q
        have e : (fun x H1 => ∃ v, [x] = [v] ∧ rIsi X.K [v, .ty T] H1 Q) = fun x H1 => rIsi X.K [x, .ty T] H1 Q := by
          funext x H1
          refine propext ⟨fun ⟨v, e, h⟩ => ?_, fun h => ⟨x, rfl, h⟩⟩
          cases e
          exact h
        rw [← e]
        exact q⟩
end
end DL

/-! Statements, defs, calls, loops, comprehensions. -/
namespace DL
open PySem PySem.Spec PyProof.Rows L2

/-! ### statements -/
inductive Out where
  | nx (ρ : List Slot) (w : W) | rt (d : D) (w : W) | bk (ρ : List Slot) (w : W) | ct (ρ : List Slot) (w : W) | exc (x : Exn) (w : W) | stuck
abbrev SemS := List Slot → W → Out
/-- from the def's entry, and from where one stands -/
structure Rch (F0 H0 : Hp) (ι0 : List Addr) (F : Hp) (ι : List Addr) (F' H' : Hp) (ι' : List Addr) : Prop where
  st : Stp F0 H0 ι0 F' H' ι'
  ex : Ex F F'
  ix : ∀ (n : Nat) a, ι[n]? = some a → ι'[n]? = some a
theorem Rch.now {F0 H0 F H : Hp} {ι0 ι : List Addr} (s : Stp F0 H0 ι0 F H ι) : Rch F0 H0 ι0 F ι F H ι := ⟨s, Ex.refl _, fun _ _ h => h⟩
theorem Rch.step {F0 H0 F F1 H1 F2 H2 : Hp} {ι0 ι ι1 ι2 : List Addr} (r : Rch F0 H0 ι0 F ι F1 H1 ι1) (s : Stp F1 H1 ι1 F2 H2 ι2) : Rch F0 H0 ι0 F ι F2 H2 ι2 := ⟨r.st.trans s, r.ex.trans s.ex, fun n a h => s.ix n a (r.ix n a h)⟩
theorem Rch.more {F0 H0 F F1 H1 F2 H2 : Hp} {ι0 ι ι1 ι2 : List Addr} (r : Rch F0 H0 ι0 F ι F1 H1 ι1) (s : Rch F0 H0 ι0 F1 ι1 F2 H2 ι2) : Rch F0 H0 ι0 F ι F2 H2 ι2 := ⟨s.st, r.ex.trans s.ex, fun n a h => s.ix n a (r.ix n a h)⟩
/-- what is wanted behind -/
def OutOk (K : PySem.W.Frag) (E : XK) (F0 H0 : Hp) (ι0 : List Addr) (F : Hp) (ι : List Addr) (D : Ends) : Out → Prop
  | .nx ρ w => ∀ σ F' H' ι', Rch F0 H0 ι0 F ι F' H' ι' → Wd K F' H' ι' w → Sl K H0 F' H' ι' σ ρ → D.nx σ H'
  | .rt d w => ∀ v F' H' ι', Rch F0 H0 ι0 F ι F' H' ι' → Wd K F' H' ι' w → Rep K F' ι' v d → D.rt v H'
  | .bk ρ w => ∀ σ F' H' ι', Rch F0 H0 ι0 F ι F' H' ι' → Wd K F' H' ι' w → Sl K H0 F' H' ι' σ ρ → D.bk σ H'
  | .ct ρ w => ∀ σ F' H' ι', Rch F0 H0 ι0 F ι F' H' ι' → Wd K F' H' ι' w → Sl K H0 F' H' ι' σ ρ → D.ct σ H'
  | .exc x w => XPost K E F0 H0 ι0 x w
  | .stuck => False
theorem OutOk.step {K : PySem.W.Frag} {E : XK} {F0 H0 F F1 H1 : Hp} {ι0 ι ι1 : List Addr} {D : Ends} {o : Out} (r : Rch F0 H0 ι0 F ι F1 H1 ι1) (h : OutOk K E F0 H0 ι0 F ι D o) : OutOk K E F0 H0 ι0 F1 ι1 D o := by
  cases o with
  | nx ρ w => exact fun σ F2 H2 ι2 s d l => h σ F2 H2 ι2 (r.more s) d l
  | rt d w => exact fun σ F2 H2 ι2 s d l => h σ F2 H2 ι2 (r.more s) d l
  | bk ρ w => exact fun σ F2 H2 ι2 s d l => h σ F2 H2 ι2 (r.more s) d l
  | ct ρ w => exact fun σ F2 H2 ι2 s d l => h σ F2 H2 ι2 (r.more s) d l
  | exc x w => exact h
  | stuck => exact h
def DSR (K : PySem.W.Frag) (E : XK) (ts : TS) (s : SemS) : Prop := ∀ (F0 H0 F H : Hp) (ι0 ι : List Addr) (w : W) (σ : L2.St) (ρ : List Slot) (D : Ends), Stp F0 H0 ι0 F H ι → Wd K F H ι w → Sl K H0 F H ι σ ρ → OutOk K E F0 H0 ι0 F ι D (s ρ w) → ts D σ H
structure DS (X : Cx) (E : XK) (st : Stmt) (ts : TS) (s : SemS) : Prop where
  ps : PS X st ts
  dr : DSR X.K E ts s
structure DSs (X : Cx) (E : XK) (st : List Stmt) (ts : TS) (s : SemS) : Prop where
  ps : PSs X st ts
  dr : DSR X.K E ts s
/-- behind an expression -/
def R.out {α : Type} (r : R α) (f : α → W → Out) : Out := match r with
  | .ok a w => f a w
  | .exc x w => .exc x w
  | .stuck => .stuck
def nextS : SemS := fun ρ w => .nx ρ w
def seqS (s t : SemS) : SemS := fun ρ w => match s ρ w with
  | .nx ρ1 w1 => t ρ1 w1
  | o => o
def retS (s : SemE) : SemS := fun ρ w => (s ρ w).out fun x w1 => match x with
  | .dat d => .rt d w1
  | .vw _ => .stuck
def ifS (c : SemT) (s t : SemS) : SemS := fun ρ w => (c ρ w).out fun b w1 => if b then s ρ w1 else t ρ w1
def setS (i : Nat) (s : SemE) : SemS := fun ρ w => (s ρ w).out fun x w1 => match x with
  | .dat d => .nx (ρ.set i (.dat d)) w1
  | .vw _ => .stuck
def dropS (s : SemE) : SemS := fun ρ w => (s ρ w).out fun _ w1 => .nx ρ w1
section
variable {K : PySem.W.Frag} {E : XK}
theorem dsr_expr {te : TE} {s : SemE} {ts : TS} {f : Val → SemS} {k : Ends → V → L2.St → Hp → Prop} (h : DR K E te s) (ht : ∀ D σ H, te σ H (fun v H1 => k D v σ H1) → ts D σ H)
    (hk : ∀ F0 H0 F H ι0 ι w σ ρ D v x, Stp F0 H0 ι0 F H ι → Wd K F H ι w → Sl K H0 F H ι σ ρ → RepV K F H ι v x → OutOk K E F0 H0 ι0 F ι D (f x ρ w) → k D v σ H) : DSR K E ts (fun ρ w => (s ρ w).out fun x w1 => f x ρ w1) := by
  intro F0 H0 F H ι0 ι w σ ρ D st wd l o
  have o : OutOk K E F0 H0 ι0 F ι D ((s ρ w).out fun x w1 => f x ρ w1) := o
  cases e : s ρ w with
  | stuck => rw [e] at o; exact False.elim o
  | exc x w1 => rw [e] at o; exact ht _ _ _ (h.exc wd l e (XPost.step st o) _)
  | ok x w1 =>
    rw [e] at o
    exact ht _ _ _ (h.ok wd l e fun v F1 H1 ι1 s1 d1 r1 => hk F0 H0 F1 H1 ι0 ι1 w1 σ ρ D v x (st.trans s1) d1 (l.mono s1) r1 (OutOk.step ((Rch.now st).step s1) o))
theorem dsr_test {tt : TT} {c : SemT} {ts : TS} {f : Bool → SemS} {k : Ends → Bool → L2.St → Hp → Prop} (h : DRT K E tt c) (ht : ∀ D σ H, tt σ H (fun v H1 => k D v σ H1) → ts D σ H)
    (hk : ∀ b, DSR K E (fun D σ H => k D b σ H) (f b)) : DSR K E ts (fun ρ w => (c ρ w).out fun b w1 => f b ρ w1) := by
  intro F0 H0 F H ι0 ι w σ ρ D st wd l o
  have o : OutOk K E F0 H0 ι0 F ι D ((c ρ w).out fun x w1 => f x ρ w1) := o
  cases e : c ρ w with
  | stuck => rw [e] at o; exact False.elim o
  | exc x w1 => rw [e] at o; exact ht _ _ _ (h.exc wd l e (XPost.step st o) _)
  | ok b w1 =>
    rw [e] at o
    exact ht _ _ _ (h.ok wd l e fun F1 H1 ι1 s1 d1 => hk b F0 H0 F1 H1 ι0 ι1 w1 σ ρ D (st.trans s1) d1 (l.mono s1) (OutOk.step ((Rch.now st).step s1) o))
end
section
variable {X : Cx} {E : XK} {st : Stmt} {rest : List Stmt} {ts us : TS} {s t : SemS} {pos : Pos} {e : Expr} {te : TE} {se : SemE}
theorem dss_nil : DSs X E [] tNext nextS := ⟨pss_nil, fun F0 H0 F H ι0 ι w σ ρ D st wd l o => o σ F H ι (Rch.now st) wd l⟩
theorem dss_cons (h1 : DS X E st ts s) (h2 : DSs X E rest us t) : DSs X E (st :: rest) (tSeq ts us) (seqS s t) := ⟨pss_cons h1.ps h2.ps, by
  intro F0 H0 F H ι0 ι w σ ρ D st wd l o
  show ts { D with nx := us D } σ H
  refine h1.dr F0 H0 F H ι0 ι w σ ρ { D with nx := us D } st wd l ?_
  unfold seqS at o
  cases q : s ρ w with
  | nx ρ1 w1 =>
    rw [q] at o
    exact fun σ1 F1 H1 ι1 s1 d1 l1 => h2.dr F0 H0 F1 H1 ι0 ι1 w1 σ1 ρ1 D s1.st d1 l1 (OutOk.step s1 o)
  | rt d w1 => rw [q] at o; exact o
  | bk ρ1 w1 => rw [q] at o; exact o
  | ct ρ1 w1 => rw [q] at o; exact o
  | exc x w1 => rw [q] at o; exact o
  | stuck => rw [q] at o; exact o⟩
theorem dss_one (h1 : DS X E st ts s) : DSs X E [st] (tSeq ts tNext) (seqS s nextS) := dss_cons h1 dss_nil
theorem ds_ret (h : DE X E e te se) : DS X E (.Return (some e) pos) (tRet te) (retS se) := ⟨ps_ret h.pe,
  dsr_expr (f := fun x _ w1 => match x with | .dat d => .rt d w1 | .vw _ => .stuck) (k := fun D v _ H1 => D.rt v H1) h.dr (fun _ _ _ q => q) fun F0 H0 F H ι0 ι w σ ρ D v x st wd l r o => by
    cases x with
    | dat d => exact o v F H ι (Rch.now st) wd r
    | vw c => exact False.elim o⟩
theorem ds_retN : DS X E (.Return none pos) tRetN (fun _ w => .rt .non w) := ⟨ps_retN, fun F0 H0 F H ι0 ι w σ ρ D st wd l o => o .non F H ι (Rch.now st) wd .non⟩
theorem ds_pass : DS X E (.Pass pos) tNext nextS := ⟨ps_pass, fun F0 H0 F H ι0 ι w σ ρ D st wd l o => o σ F H ι (Rch.now st) wd l⟩
theorem ds_break : DS X E (.Break pos) tBreak (fun ρ w => .bk ρ w) := ⟨ps_break, fun F0 H0 F H ι0 ι w σ ρ D st wd l o => o σ F H ι (Rch.now st) wd l⟩
theorem ds_cont : DS X E (.Continue pos) tCont (fun ρ w => .ct ρ w) := ⟨ps_continue, fun F0 H0 F H ι0 ι w σ ρ D st wd l o => o σ F H ι (Rch.now st) wd l⟩
theorem ds_if {c : Expr} {a b : List Stmt} {tc : TT} {sc : SemT} (hc : DT X E c tc sc) (ha : DSs X E a ts s) (hb : DSs X E b us t) : DS X E (.If c a b pos) (tIfS tc ts us) (ifS sc s t) := ⟨ps_if hc.pt ha.ps hb.ps,
  dsr_test (f := fun b ρ w1 => if b then s ρ w1 else t ρ w1) (k := fun D b σ H1 => if b = true then ts D σ H1 else us D σ H1) hc.dr (fun _ _ _ q => q) fun b => by
    cases b with
    | true =>
      intro F0 H0 F H ι0 ι w σ ρ D st wd l o
      show (if true = true then ts D σ H else us D σ H)
      rw [if_pos rfl]
      exact ha.dr F0 H0 F H ι0 ι w σ ρ D st wd l o
    | false =>
      intro F0 H0 F H ι0 ι w σ ρ D st wd l o
      show (if false = true then ts D σ H else us D σ H)
      rw [if_neg Bool.false_ne_true]
      exact hb.dr F0 H0 F H ι0 ι w σ ρ D st wd l o⟩
theorem dsr_set {K : PySem.W.Frag} (i : Nat) (h : DR K E te se) : DSR K E (tAsg te (gName i)) (setS i se) :=
  dsr_expr (f := fun x ρ w1 => match x with | .dat d => .nx (ρ.set i (.dat d)) w1 | .vw _ => .stuck) (k := fun D v σ H1 => D.nx (σ.set i (some v)) H1) h (fun _ _ _ q => q) fun F0 H0 F H ι0 ι w σ ρ D v x st wd l r o => by
    cases x with
    | dat d => exact o _ F H ι (Rch.now st) wd (l.set r)
    | vw c => exact False.elim o
theorem ds_set {i : Nat} {x : Str} {pos' : Pos} (h : DE X E e te se) (hN : X.N.Nodup) (hi : X.N[i]? = some x := by rfl) (hx : Loc X.env.scope x := by first | exact Or.inl rfl | exact Or.inr rfl)
    (hs : swapsWith e (some (.Name x pos')) pos.line X.env = pure false := by rfl) (hf : X.fn x = true ∨ X.env.scope.names.lookup x = some .local := by first | exact .inl rfl | exact .inr rfl) :
    DS X E (.Assign [.Name x pos'] e pos) (tAsg te (gName i)) (setS i se) := ⟨ps_set hN hi hx h.pe hs hf, dsr_set i h.dr⟩
theorem ds_expr (h : DE X E e te se) (hs : swapsWith e none pos.line X.env = pure false := by rfl) : DS X E (.Expr e pos) (tDrop te) (dropS se) := ⟨ps_expr h.pe hs,
  dsr_expr (f := fun _ ρ w1 => .nx ρ w1) (k := fun D _ σ H1 => D.nx σ H1) h.dr (fun _ _ _ q => q) fun F0 H0 F H ι0 ι w σ ρ D v x st wd l r o => o σ F H ι (Rch.now st) wd l⟩
/-- a = x; b = y at once -/
def setsS (is : List Nat) (sa : SemA) : SemS := fun ρ w => (sa ρ w).out fun ds w1 => if ds.length = is.length then .nx ((is.zip ds).foldl (fun ρ p => ρ.set p.1 (.dat p.2)) ρ) w1 else .stuck
theorem dsr_args {K : PySem.W.Frag} {ta : TA} {sa : SemA} {f : List D → SemS} {k : Ends → List V → L2.St → Hp → Prop} (h : DRA K E ta sa) (ht : ∀ D σ H, ta σ H (fun v H1 => k D v σ H1) → ts D σ H)
    (hk : ∀ F0 H0 F H ι0 ι w σ ρ D v x, Stp F0 H0 ι0 F H ι → Wd K F H ι w → Sl K H0 F H ι σ ρ → RepA K F ι v x → OutOk K E F0 H0 ι0 F ι D (f x ρ w) → k D v σ H) : DSR K E ts (fun ρ w => (sa ρ w).out fun x w1 => f x ρ w1) := by
  intro F0 H0 F H ι0 ι w σ ρ D st wd l o
  have o : OutOk K E F0 H0 ι0 F ι D ((sa ρ w).out fun x w1 => f x ρ w1) := o
  cases e : sa ρ w with
  | stuck => rw [e] at o; exact False.elim o
  | exc x w1 => rw [e] at o; exact ht _ _ _ (h.exc wd l e (XPost.step st o) _)
  | ok x w1 =>
    rw [e] at o
    exact ht _ _ _ (h.ok wd l e fun v F1 H1 ι1 s1 d1 r1 => hk F0 H0 F1 H1 ι0 ι1 w1 σ ρ D v x (st.trans s1) d1 (l.mono s1) r1 (OutOk.step ((Rch.now st).step s1) o))
theorem ds_par {i j : Nat} {x y : Str} {a b : Expr} {ta : TA} {sa : SemA} {px py pt : Pos} {kt k2 pt2} (hN : X.N.Nodup) (ha : DA X E [a, b] ta sa) (hc : X.calm = true := by rfl) (hi : X.N[i]? = some x := by rfl) (hj : X.N[j]? = some y := by rfl) (hij : i ≠ j := by decide)
    (hx : X.env.scope.names.lookup x = some .local := by rfl) (hy : X.env.scope.names.lookup y = some .local := by rfl)
    (hw : swappedStores [.Tuple [.Name x px, .Name y py] kt pt] (.Tuple [a, b] k2 pt2) X.env = pure (some [x, y]) := by rfl)
    (hs : swapsWithSole [.Tuple [.Name x px, .Name y py] kt pt] (.Tuple [a, b] k2 pt2) pos.line X.env = pure false := by rfl) :
    DS X E (.Assign [.Tuple [.Name x px, .Name y py] kt pt] (.Tuple [a, b] k2 pt2) pos) (tPar i j ta) (setsS [i, j] sa) := ⟨ps_par hc hN hi hj hij hx hy ha.pa hw hs, by
  refine dsr_args (f := fun ds ρ w1 => if ds.length = ([i, j] : List Nat).length then .nx ((([i, j] : List Nat).zip ds).foldl (fun ρ p => ρ.set p.1 (.dat p.2)) ρ) w1 else .stuck) (k := fun D vs σ H1 => ∃ v w, vs = [v, w] ∧ D.nx ((σ.set i (some v)).set j (some w)) H1) ha.dr (fun _ _ _ q => q) ?_
  intro F0 H0 F H ι0 ι w σ ρ D v x st wd l r o
  cases r with
  | nil => exact False.elim o
  | cons r1 r =>
    cases r with
    | nil => exact False.elim o
    | cons r2 r =>
      cases r with
      | nil => exact ⟨_, _, rfl, o _ F H ι (Rch.now st) wd ((l.set r1).set r2)⟩
      | cons _ _ => exact False.elim (by simpa [OutOk] using o)⟩
end

/-! ### defs -/
abbrev Sem := List D → W → R D
def Spec (K : PySem.W.Frag) (n : Nat) (f : Sem) : Sp := fun vs H Q E => ∃ F ι w ds, Wd K F H ι w ∧ RepA K F ι vs ds ∧ ds.length = n ∧ match f ds w with
  | .ok d w' => OkV K F H ι (.dat d) w' Q
  | .exc x w' => XPost K E F H ι x w'
  | .stuck => False
theorem Spec.len {K : PySem.W.Frag} {n : Nat} {f : Sem} {vs : List V} {H : Hp} {Q : VK} {E : XK} (h : Spec K n f vs H Q E) : vs.length = n := by
  obtain ⟨F, ι, w, ds, wd, r, l, _⟩ := h
  rw [r.length, l]
def startD (n : Nat) (ds : List D) : List Slot := ds.map .dat ++ List.replicate (n - ds.length) .non
def runD (n : Nat) (s : SemS) : Sem := fun ds w => match s (startD n ds) w with
  | .nx _ w' => .ok .non w'
  | .rt d w' => .ok d w'
  | .exc x w' => .exc x w'
  | _ => .stuck
theorem sl_start {K : PySem.W.Frag} {F H : Hp} {ι : List Addr} {N : List Str} {vs : List V} {ds : List D} (r : RepA K F ι vs ds) : Sl K H F H ι (L2.start N vs) (startD N.length ds) where
  len := by simp [L2.start, startD, r.length]
  at_ := fun i t e => by
    unfold startD at e
    unfold L2.start
    by_cases h : i < ds.length
    · rw [List.getElem?_append_left (by simpa using h), List.getElem?_map] at e
      cases q : ds[i]? with
      | none => rw [q] at e; cases e
      | some d =>
        rw [q] at e
        cases e
        obtain ⟨v, hv, rv⟩ := r.get' q
        exact ⟨v, by rw [List.getElem?_append_left (by simpa [r.length] using h), List.getElem?_map, hv]; rfl, rv⟩
    · rw [List.getElem?_append_right (by simpa using h), List.getElem?_replicate] at e
      split at e
      · cases e; trivial
      · cases e
  sep := fun i j c c' p e1 => by
    unfold startD at e1
    by_cases h : i < ds.length
    · rw [List.getElem?_append_left (by simpa using h), List.getElem?_map] at e1
      cases q : ds[i]? with
      | none => rw [q] at e1; cases e1
      | some d => rw [q] at e1; cases e1
    · rw [List.getElem?_append_right (by simpa using h), List.getElem?_replicate] at e1
      split at e1 <;> cases e1
/-- a def's body meets its promise -/
theorem body_ok {K : PySem.W.Frag} {E : XK} {N : List Str} {n : Nat} {ts : TS} {s : SemS} {vs : List V} {H : Hp} {Q : VK} (h : DSR K E ts s) (sp : Spec K n (runD N.length s) vs H Q E) : ts { nx := fun _ H' => Q .non H', rt := Q } (L2.start N vs) H := by
  obtain ⟨F, ι, w, ds, wd, r, l, o⟩ := sp
  refine h F H F H ι ι w (L2.start N vs) (startD N.length ds) _ Stp.refl wd (sl_start r) ?_
  unfold runD at o
  cases q : s (startD N.length ds) w with
  | nx ρ w' => rw [q] at o; exact fun σ F1 H1 ι1 s1 d1 l1 => o .non F1 H1 ι1 s1.st d1 (Rep.non)
  | rt d w' => rw [q] at o; exact fun v F1 H1 ι1 s1 d1 r1 => o v F1 H1 ι1 s1.st d1 r1
  | exc x w' => rw [q] at o; exact o
  | bk _ _ => rw [q] at o; exact False.elim o
  | ct _ _ => rw [q] at o; exact False.elim o
  | stuck => rw [q] at o; exact False.elim o

/-! ### calls -/
def callE (f : Sem) (sa : SemA) : SemE := fun ρ w => (sa ρ w).bind fun ds w1 => (f ds w1).bind fun d w2 => .ok (.dat d) w2
section
variable {X : Cx} {E : XK} {e : Expr} {es : List Expr} {ta : TA} {sa : SemA} {pos p : Pos} {x : Str} {k n : Nat} {f : Addr} {fd : FuncData} {ps : List Str} {g : Sem}
theorem dr_call {K : PySem.W.Frag} (ha : DRA K E ta sa) (hl : ∀ ρ w ds w1, sa ρ w = .ok ds w1 → ds.length = n) : DR K E (tCall (Spec K n g) [] E ta) (callE g sa) := by
  intro H0 F H ι w σ ρ d l
  unfold callE
  cases e : sa ρ w with
  | stuck => trivial
  | exc y w1 => exact fun q Q => ha.exc d l e q _
  | ok ds w1 =>
    show Meets _ _ ((g ds w1).bind _)
    cases e2 : g ds w1 with
    | stuck => trivial
    | exc y w2 =>
      intro q Q
      refine ha.ok d l e fun vs F1 H1 ι1 s1 d1 r1 => ?_
      show Spec K n g (vs ++ []) H1 Q E
      rw [List.append_nil]
      exact ⟨F1, ι1, w1, ds, d1, r1, hl ρ w ds w1 e, by rw [e2]; exact q.step s1⟩
    | ok z w2 =>
      intro Q q
      refine ha.ok d l e fun vs F1 H1 ι1 s1 d1 r1 => ?_
      show Spec K n g (vs ++ []) H1 Q E
      rw [List.append_nil]
      exact ⟨F1, ι1, w1, ds, d1, r1, hl ρ w ds w1 e, by rw [e2]; exact OkV.step s1 q⟩
theorem lenA_nil : ∀ ρ w ds w1, nilA ρ w = .ok ds w1 → ds.length = 0 := fun ρ w ds w1 h => by cases h; rfl
theorem lenA_cons {a : SemE} {r : SemA} {m : Nat} (h : ∀ ρ w ds w1, r ρ w = .ok ds w1 → ds.length = m) : ∀ ρ w ds w1, consA a r ρ w = .ok ds w1 → ds.length = m + 1 := fun ρ w ds w1 q => by
  unfold consA at q
  cases e : a ρ w with
  | stuck => rw [e] at q; cases q
  | exc _ _ => rw [e] at q; cases q
  | ok y w2 =>
    rw [e] at q
    cases y with
    | vw _ => cases q
    | dat y =>
      cases e2 : r ρ w2 with
      | stuck => simp [R.bind, e2] at q
      | exc _ _ => simp [R.bind, e2] at q
      | ok zs w3 =>
        simp [R.bind, e2] at q
        obtain ⟨q1, q2⟩ := q
        rw [← q1, List.length_cons, h _ _ _ _ e2]
theorem de_call (G : FnOk X.prog X.w X.K X.mg X.base (L2.CX X.prog X.w) k f fd ps (Spec X.K n g)) (hr : Room k X.A) (hm : X.mg x = some (.ref f)) (hk : PySem.W.keepIn X.K (.ref f) = true) (hb : Binds X.K fd ps []) (hx : Passes (L2.CX X.prog X.w) X E)
    (ha : DA X E (e :: es) ta sa) (hl : ∀ ρ w ds w1, sa ρ w = .ok ds w1 → ds.length = n) (hg : Gl X x := by rfl) (hdb : (x == ("__debug__" : Str)) = false := by decide)
    (he : starEach (e :: es) X.env = (false, eval e X.env) :: starEach es X.env := by rfl) (hpl : (backTo pos (starEach es X.env)).any (·.1) = false := by rfl) :
    DE X E (.Call (.Name x p) (e :: es) [] pos) (tCall (Spec X.K n g) [] E ta) (callE g sa) := ⟨pe_call G hr hg hm hk hb .nil hx ha.pa hdb he hpl, dr_call ha.dr hl⟩
end

/-! ### loops -/
def ItOk (K : PySem.W.Frag) (J : It) (F H : Hp) (ι : List Addr) (items : List D) : Prop := ∀ F2 H2 ι2 w2, Ex F F2 → (∀ (n : Nat) a, ι[n]? = some a → ι2[n]? = some a) → Wd K F2 H2 ι2 w2 → ∀ i : Nat, (i < items.length → J.go i H2) ∧ (items.length ≤ i → J.stop i H2) ∧
  ∀ x H3, i < items.length → J.yld i H2 x H3 → ∃ d F3, items[i]? = some d ∧ Stp F2 H2 ι2 F3 H3 ι2 ∧ Wd K F3 H3 ι2 w2 ∧ Rep K F3 ι2 x d
abbrev SemI := List Slot → W → R (List D)
def DRI (K : PySem.W.Frag) (E : XK) (wi : TI) (s : SemI) : Prop := ∀ (H0 F H : Hp) (ι : List Addr) (w : W) (σ : L2.St) (ρ : List Slot), Wd K F H ι w → Sl K H0 F H ι σ ρ →
  Meets (fun items w' => ∀ R : It → Hp → Prop, (∀ J F' H' ι', Stp F H ι F' H' ι' → Wd K F' H' ι' w' → ItOk K J F' H' ι' items → R J H') → wi σ H R) (fun x w' => XPost K E F H ι x w' → ∀ R, wi σ H R) (s ρ w)
structure DI (X : Cx) (E : XK) (tg iter : Expr) (wi : TI) (s : SemI) : Prop where
  pi : PI X tg iter wi
  dr : DRI X.K E wi s
/-- a target -/
abbrev SemG := D → List Slot → Option (List Slot)
def DRG (K : PySem.W.Frag) (g : TG) (s : SemG) : Prop := ∀ (H0 F H : Hp) (ι : List Addr) (σ : L2.St) (ρ ρ' : List Slot) (v : V) (d : D), Ex F H → Sl K H0 F H ι σ ρ → Rep K F ι v d → s d ρ = some ρ' → ∀ Q : L2.St → Hp → Prop, (∀ σ', Sl K H0 F H ι σ' ρ' → Q σ' H) → g v σ H Q
structure DG (X : Cx) (tg : Expr) (g : TG) (s : SemG) : Prop where
  pg : PG X tg g
  dr : DRG X.K g s
def forL (g : SemG) (b : SemS) : List D → SemS
  | [], ρ, w => .nx ρ w
  | d :: r, ρ, w => match g d ρ with
    | none => .stuck
    | some ρ1 => (match b ρ1 w with
      | .nx ρ2 w2 => forL g b r ρ2 w2
      | .ct ρ2 w2 => forL g b r ρ2 w2
      | .bk ρ2 w2 => .nx ρ2 w2
      | o => o)
def forS (si : SemI) (g : SemG) (b : SemS) : SemS := fun ρ w => (si ρ w).out fun items w1 => forL g b items ρ w1
theorem dsr_for {K : PySem.W.Frag} {E : XK} {wi : TI} {g : TG} {tb : TS} {si : SemI} {sg : SemG} {sb : SemS} (hi : DRI K E wi si) (hg : DRG K g sg) (hb : DSR K E tb sb) : DSR K E (tFor wi g tb) (forS si sg sb) := by
  intro F0 H0 F H ι0 ι w σ ρ D st wd l o
  have hI := hi H0 F H ι w σ ρ wd l
  unfold forS at o
  cases e : si ρ w with
  | stuck => rw [e] at o; exact False.elim o
  | exc x w1 => rw [e] at o hI; exact hI (XPost.step st o) _
  | ok items w1 =>
    rw [e] at o hI
    refine hI _ fun J F1 H1 ι1 s1 d1 it => ?_
    have o1 : OutOk K E F0 H0 ι0 F1 ι1 D (forL sg sb items ρ w1) := OutOk.step ((Rch.now st).step s1) o
    refine ⟨fun i m σ' H' => i + m = items.length ∧ ∃ F' ι' w' ρ', Rch F0 H0 ι0 F1 ι1 F' H' ι' ∧ Wd K F' H' ι' w' ∧ Sl K H0 F' H' ι' σ' ρ' ∧ OutOk K E F0 H0 ι0 F1 ι1 D (forL sg sb (items.drop i) ρ' w'),
      ⟨items.length, by simp, F1, ι1, w1, ρ, Rch.now (st.trans s1), d1, l.mono s1, o1⟩, ?_⟩
    rintro i m σ' H' ⟨em, F', ι', w', ρ', rc, wd', l', o'⟩
    obtain ⟨go, stop, yld⟩ := it F' H' ι' w' rc.ex rc.ix wd' i
    by_cases h : i < items.length
    · right
      have ed : items.drop i = items[i] :: items.drop (i + 1) := List.drop_eq_getElem_cons h
      refine ⟨go h, fun σ2 H2 => ∃ F2 ι2 w2 ρ2, Rch F0 H0 ι0 F1 ι1 F2 H2 ι2 ∧ Wd K F2 H2 ι2 w2 ∧ Sl K H0 F2 H2 ι2 σ2 ρ2 ∧ OutOk K E F0 H0 ι0 F1 ι1 D (forL sg sb (items.drop (i + 1)) ρ2 w2),
        fun σ2 H2 hN => ⟨m - 1, by omega, by omega, hN⟩, fun x H3 hy => ?_⟩
      obtain ⟨d, F3, ed2, s3, d3, r3⟩ := yld x H3 h hy
      have edd : items[i] = d := by
        rw [List.getElem?_eq_getElem h] at ed2
        exact Option.some.inj ed2
      rw [ed, edd] at o'
      unfold forL at o'
      cases q : sg d ρ' with
      | none => rw [q] at o'; exact False.elim o'
      | some ρ1 =>
        rw [q] at o'
        refine hg H0 F3 H3 ι' σ' ρ' ρ1 x d d3.ex (l'.mono s3) r3 q _ fun σ1 l1 => ?_
        have rc3 : Rch F0 H0 ι0 F1 ι1 F3 H3 ι' := rc.step s3
        refine hb F0 H0 F3 H3 ι0 ι' w' σ1 ρ1 _ rc3.st d3 l1 ?_
        cases q2 : sb ρ1 w' with
        | stuck => simp only [q2] at o'; exact o'
        | exc y w2 => simp only [q2] at o'; exact o'
        | rt y w2 => simp only [q2] at o'; exact fun v F2 H2 ι2 s2 d2 l2 => o' v F2 H2 ι2 (rc3.more s2) d2 l2
        | bk ρ2 w2 => simp only [q2] at o'; exact fun σ2 F2 H2 ι2 s2 d2 l2 => o' σ2 F2 H2 ι2 (rc3.more s2) d2 l2
        | nx ρ2 w2 => simp only [q2] at o'; exact fun σ2 F2 H2 ι2 s2 d2 l2 => ⟨F2, ι2, w2, ρ2, rc3.more s2, d2, l2, o'⟩
        | ct ρ2 w2 => simp only [q2] at o'; exact fun σ2 F2 H2 ι2 s2 d2 l2 => ⟨F2, ι2, w2, ρ2, rc3.more s2, d2, l2, o'⟩
    · left
      have ed : items.drop i = [] := List.drop_eq_nil_of_le (by omega)
      rw [ed] at o'
      exact ⟨stop (by omega), o' σ' F' H' ι' rc wd' l'⟩
end DL

/-! What is walked, targets, comprehensions, things of a slot's own. -/
namespace DL
open PySem PySem.Spec PyProof.Rows L2

section
variable {K : PySem.W.Frag} {E : XK}
/-! ### iterators -/
theorem it_list {F H : Hp} {ι : List Addr} {a : Addr} {xs : List V} {ds : List D} (h : SqL K F a xs) (r : RepA K F ι xs ds) : ItOk K (Itl K a) F H ι ds := by
  intro F2 H2 ι2 w2 e1 e2 wd i
  have h2 : SqL K H2 a xs := ex_l (e1.trans wd.ex) h
  refine ⟨fun hi => ?_, fun hi => ⟨xs, h2, by rw [r.length]; exact hi⟩, fun x H3 hi hy => ?_⟩
  · obtain ⟨x, hx, _⟩ := r.get' (List.getElem?_eq_getElem hi)
    exact ⟨xs, x, h2, hx⟩
  · obtain ⟨rfl, hy⟩ := hy
    obtain ⟨d, hd, rd⟩ := r.get (hy xs h2)
    exact ⟨d, F2, hd, Stp.refl, wd, rd.mono e1 e2⟩
theorem it_tup {F H : Hp} {ι : List Addr} {a : Addr} {xs : List V} {ds : List D} (h : SqT K F a xs) (r : RepA K F ι xs ds) : ItOk K (Itt K a) F H ι ds := by
  intro F2 H2 ι2 w2 e1 e2 wd i
  have h2 : SqT K H2 a xs := ex_t (e1.trans wd.ex) h
  refine ⟨fun hi => ?_, fun hi => ⟨xs, h2, by rw [r.length]; exact hi⟩, fun x H3 hi hy => ?_⟩
  · obtain ⟨x, hx, _⟩ := r.get' (List.getElem?_eq_getElem hi)
    exact ⟨xs, x, h2, hx⟩
  · obtain ⟨rfl, hy⟩ := hy
    obtain ⟨d, hd, rd⟩ := r.get (hy xs h2)
    exact ⟨d, F2, hd, Stp.refl, wd, rd.mono e1 e2⟩
def rangeD (lo : Int) (n : Nat) : List D := (List.range n).map fun i => .int (lo + (i : Nat))
theorem it_range {F H : Hp} {ι : List Addr} {lo : Int} {n : Nat} : ItOk K (Itr lo n) F H ι (rangeD lo n) := by
  intro F2 H2 ι2 w2 e1 e2 wd i
  have hl : (rangeD lo n).length = n := by simp [rangeD]
  refine ⟨fun hi => by rw [hl] at hi; exact hi, fun hi => by rw [hl] at hi; exact hi, fun x H3 hi hy => ?_⟩
  obtain ⟨rfl, rfl⟩ := hy
  rw [hl] at hi
  exact ⟨.int (lo + (i : Nat)), F2, by simp [rangeD, hi], Stp.refl, wd, .int _⟩
def signsD (x : Str) : List D := x.cps.toList.map fun c => .str ⟨#[c]⟩
theorem it_str {F H : Hp} {ι : List Addr} {x : Str} : ItOk K (Its x) F H ι (signsD x) := by
  intro F2 H2 ι2 w2 e1 e2 wd i
  have hl : (signsD x).length = x.cps.size := by simp [signsD]
  refine ⟨fun hi => by rw [hl] at hi; exact hi, fun hi => by rw [hl] at hi; exact hi, fun v H3 hi hy => ?_⟩
  obtain ⟨rfl, c, hc, rfl⟩ := hy
  exact ⟨.str ⟨#[c]⟩, F2, by simp [signsD, hc], Stp.refl, wd, .str _⟩
/-- what a value is walked as -/
def walkD : D → Option (List D)
  | .lst ds => some ds
  | .tup ds => some ds
  | .str x => some (signsD x)
  | .scr ns => some (ns.map .int)
  | _ => none
def iAny (K : PySem.W.Frag) (te : TE) : TI := fun σ H R => te σ H fun x H1 => (∃ a, x = .ref a ∧ (∃ xs, SqL K H1 a xs) ∧ R (Itl K a) H1) ∨ (∃ a, x = .ref a ∧ (∃ xs, SqT K H1 a xs) ∧ R (Itt K a) H1) ∨ ∃ z, x = .str z ∧ R (Its z) H1
def walkI (s : SemE) : SemI := fun ρ w => (s ρ w).bind fun x w1 => match x with
  | .dat d => (match walkD d with
    | some ds => .ok ds w1
    | none => .stuck)
  | .vw _ => .stuck
theorem dri_any {te : TE} {s : SemE} (h : DR K E te s) : DRI K E (iAny K te) (walkI s) := by
  intro H0 F H ι w σ ρ wd l
  unfold walkI
  cases e : s ρ w with
  | stuck => trivial
  | exc x w1 => exact fun q R => h.exc wd l e q _
  | ok x w1 =>
    cases x with
    | vw c => trivial
    | dat d =>
      show Meets _ _ (match walkD d with | some ds => (.ok ds w1 : R (List D)) | none => .stuck)
      cases e2 : walkD d with
      | none => trivial
      | some ds =>
        intro R hR
        refine h.ok wd l e fun v F1 H1 ι1 s1 d1 r1 => ?_
        have r1 : Rep K F1 ι1 v d := r1
        unfold walkD at e2
        split at e2
        · cases e2
          cases r1 with
          | lst h r => exact .inl ⟨_, rfl, ⟨_, SqL.of (d1.ex _ _ h)⟩, hR _ F1 H1 ι1 s1 d1 (it_list (SqL.of h) r)⟩
        · cases e2
          cases r1 with
          | tup h r => exact .inr (.inl ⟨_, rfl, ⟨_, ex_t d1.ex h⟩, hR _ F1 H1 ι1 s1 d1 (it_tup h r)⟩)
        · cases e2
          cases r1
          exact .inr (.inr ⟨_, rfl, hR _ F1 H1 ι1 s1 d1 it_str⟩)
        · cases e2
          cases r1 with
          | scr h => exact .inl ⟨_, rfl, ⟨_, ex_l d1.ex h⟩, hR _ F1 H1 ι1 s1 d1 (it_list h (RepA.ints _))⟩
        · cases e2
/-- range(n), range(a, b) -/
def range1I (sa : SemA) : SemI := fun ρ w => (sa ρ w).bind fun ds w1 => match ds with
  | [.int j] => if -(2 ^ 62) ≤ j ∧ j < 2 ^ 62 then .ok (rangeD 0 j.toNat) w1 else .stuck
  | _ => .stuck
def range2I (sa : SemA) : SemI := fun ρ w => (sa ρ w).bind fun ds w1 => match ds with
  | [.int i, .int j] => if -(2 ^ 62) ≤ i ∧ i < 2 ^ 62 ∧ -(2 ^ 62) ≤ j ∧ j < 2 ^ 62 then .ok (rangeD i (j - i).toNat) w1 else .stuck
  | _ => .stuck
theorem dri_range1 {ta : TA} {sa : SemA} (h : DRA K E ta sa) : DRI K E (iRng1 ta) (range1I sa) := by
  intro H0 F H ι w σ ρ wd l
  unfold range1I
  cases e : sa ρ w with
  | stuck => trivial
  | exc x w1 => exact fun q R => h.exc wd l e q _
  | ok ds w1 =>
    show Meets _ _ (match ds with | [.int j] => (if -(2 ^ 62) ≤ j ∧ j < 2 ^ 62 then .ok (rangeD 0 j.toNat) w1 else .stuck : R (List D)) | _ => .stuck)
    split
    · rename_i j
      by_cases hj : -(2 ^ 62) ≤ j ∧ j < 2 ^ 62
      · rw [if_pos hj]
        intro R hR
        refine h.ok wd l e fun v F1 H1 ι1 s1 d1 r1 => ?_
        cases r1 with
        | cons r1 r2 =>
        cases r2
        cases r1
        exact ⟨j, rfl, hj.1, hj.2, hR _ F1 H1 ι1 s1 d1 it_range⟩
      · rw [if_neg hj]; trivial
    · trivial
theorem dri_range2 {ta : TA} {sa : SemA} (h : DRA K E ta sa) : DRI K E (iRng2 ta) (range2I sa) := by
  intro H0 F H ι w σ ρ wd l
  unfold range2I
  cases e : sa ρ w with
  | stuck => trivial
  | exc x w1 => exact fun q R => h.exc wd l e q _
  | ok ds w1 =>
    show Meets _ _ (match ds with | [.int i, .int j] => (if -(2 ^ 62) ≤ i ∧ i < 2 ^ 62 ∧ -(2 ^ 62) ≤ j ∧ j < 2 ^ 62 then .ok (rangeD i (j - i).toNat) w1 else .stuck : R (List D)) | _ => .stuck)
    split
    · rename_i i j
      by_cases hj : -(2 ^ 62) ≤ i ∧ i < 2 ^ 62 ∧ -(2 ^ 62) ≤ j ∧ j < 2 ^ 62
      · rw [if_pos hj]
        intro R hR
        refine h.ok wd l e fun v F1 H1 ι1 s1 d1 r1 => ?_
        cases r1 with
        | cons r1 r2 =>
        cases r2 with
        | cons r2 r3 =>
        cases r3
        cases r1
        cases r2
        exact ⟨i, j, rfl, hj, hR _ F1 H1 ι1 s1 d1 it_range⟩
      · rw [if_neg hj]; trivial
    · trivial
end
section
variable {X : Cx} {E : XK} {tg e a b : Expr} {te : TE} {s : SemE} {p pos : Pos} {ta : TA} {sa : SemA}
theorem di_any (h : DE X E e te s) : DI X E tg e (iAny X.K te) (walkI s) := ⟨⟨fun pins st σ H R I hw => by
  refine thn (h.pe.run pins st σ H _ I hw) fun v z ⟨x, G, J, rx, alt⟩ => ?_
  rcases alt with ⟨a, rfl, ⟨xs, hq⟩, q⟩ | ⟨a, rfl, ⟨xs, hq⟩, q⟩ | ⟨y, rfl, q⟩
  · cases rx
    obtain ⟨_, _, p, _⟩ := J.list hq
    exact wpAny_pyIter_list p.isList (pi_one (tk := z.toks) J _ (turn_list a _) ⟨_, Heap.get?_push_size _ rfl, rfl, rfl⟩ q)
  · cases rx
    obtain ⟨its, _, p, _⟩ := J.tuple hq
    have p : z.heap.IsTuple a its.toArray := p
    exact wpAny_pyIter_tuple p (pi_one (tk := z.toks) J _ (turn_tuple a _) ⟨_, Heap.get?_push_size _ rfl, rfl, rfl⟩ q)
  · obtain ⟨t, rfl⟩ := rx
    by_cases wide : y.cps.all (· < 128) = true
    · exact wpAny_pyIter_ascii wide (pi_one (tk := z.toks) J _ (turn_str _ y t _ (.inl rfl)) ⟨_, Heap.get?_push_size _ rfl, rfl, rfl⟩ q)
    · exact wpAny_pyIter_wide (Bool.eq_false_iff.mpr wide) (pi_one (tk := z.toks) J _ (turn_str _ y t _ (.inr rfl)) ⟨_, Heap.get?_push_size _ rfl, rfl, rfl⟩ q)⟩, dri_any h.dr⟩
theorem di_range1 (hm : X.mg "range" = none) (ha : DA X E [a] ta sa) (hg : Gl X "range" := by rfl) (hs : starEach [a] X.env = [(false, eval a X.env)] := by rfl) : DI X E tg (.Call (.Name "range" p) [a] [] pos) (iRng1 ta) (range1I sa) := ⟨pi_range1 hg hm ha.pa hs, dri_range1 ha.dr⟩
theorem di_range2 (hm : X.mg "range" = none) (ha : DA X E [a, b] ta sa) (hg : Gl X "range" := by rfl) (hs : starEach [a, b] X.env = [(false, eval a X.env), (false, eval b X.env)] := by rfl) (hs2 : starEach [b] X.env = [(false, eval b X.env)] := by rfl) :
    DI X E tg (.Call (.Name "range" p) [a, b] [] pos) (iRng2 ta) (range2I sa) := ⟨pi_range2 hg hm ha.pa hs hs2, dri_range2 ha.dr⟩
end
/-! ### targets -/
section
variable {X : Cx} {E : XK} {pos : Pos}
def nameG (i : Nat) : SemG := fun d ρ => some (ρ.set i (.dat d))
theorem dg_name {i : Nat} {x : Str} (hN : X.N.Nodup) (hi : X.N[i]? = some x := by rfl) (hx : Loc X.env.scope x := by first | exact Or.inl rfl | exact Or.inr rfl) (hf : X.fn x = true ∨ X.env.scope.names.lookup x = some .local := by first | exact .inl rfl | exact .inr rfl) : DG X (.Name x pos) (gName i) (nameG i) :=
  ⟨pg_name hN hi hx hf, fun H0 F H ι σ ρ ρ' v d ex l r e Q q => by cases e; exact q _ (l.set r)⟩
abbrev SemGs := List D → List Slot → Option (List Slot)
def DRGs (K : PySem.W.Frag) (g : TGs) (s : SemGs) : Prop := ∀ (H0 F H : Hp) (ι : List Addr) (σ : L2.St) (ρ ρ' : List Slot) (v : List V) (d : List D), Ex F H → Sl K H0 F H ι σ ρ → RepA K F ι v d → s d ρ = some ρ' → ∀ Q : L2.St → Hp → Prop, (∀ σ', Sl K H0 F H ι σ' ρ' → Q σ' H) → g v σ H Q
structure DGs (X : Cx) (ts : List Expr) (g : TGs) (s : SemGs) : Prop where
  pg : PGs X ts g
  dr : DRGs X.K g s
def nilG : SemGs := fun ds ρ => match ds with
  | [] => some ρ
  | _ => none
def consG (g : SemG) (r : SemGs) : SemGs := fun ds ρ => match ds with
  | d :: ds => (g d ρ).bind fun ρ1 => r ds ρ1
  | [] => none
theorem dgs_nil : DGs X [] gNil nilG := ⟨pgs_nil, fun H0 F H ι σ ρ ρ' v d ex l r e Q q => by
  cases r with
  | nil => cases e; exact ⟨rfl, q _ l⟩
  | cons _ _ => cases e⟩
theorem dgs_cons {t : Expr} {ts : List Expr} {g : TG} {gs : TGs} {s : SemG} {ss : SemGs} (h : DG X t g s) (hs : DGs X ts gs ss) (hl : (assignEach (t :: ts) X.env).map (·.2) = assign t X.env :: (assignEach ts X.env).map (·.2) := by rfl) : DGs X (t :: ts) (gCons g gs) (consG s ss) := ⟨pgs_cons h.pg hs.pg hl, fun H0 F H ι σ ρ ρ' v d ex l r e Q q => by
  cases r with
  | nil => cases e
  | @cons x xs y ys h1 h2 =>
    have e : ((s y ρ).bind fun ρ1 => ss ys ρ1) = some ρ' := e
    cases e1 : s y ρ with
    | none => rw [e1] at e; cases e
    | some ρ1 =>
      rw [e1] at e
      exact ⟨x, xs, rfl, h.dr H0 F H ι σ ρ ρ1 x y ex l h1 e1 _ fun σ1 l1 => hs.dr H0 F H ι σ1 ρ1 ρ' xs ys ex l1 h2 e Q q⟩⟩
def tupG (n : Nat) (s : SemGs) : SemG := fun d ρ => match d with
  | .tup ds => if ds.length = n then s ds ρ else none
  | _ => none
theorem dg_tup {es : List Expr} {k : Nat} {t : TGs} {n : Nat} {s : SemGs} (h : DGs X es t s) (hc : X.calm = true := by rfl) (hn : (assignEach es X.env).length = n := by rfl) (hst : (assignEach es X.env).findIdx? (·.1) = none := by rfl) : DG X (.Tuple es k pos) (gTup X.K n t) (tupG n s) :=
  ⟨pg_tup hc h.pg hn hst, fun H0 F H ι σ ρ ρ' v d ex l r e Q q => by
    cases r with
    | tup ht r =>
      unfold tupG at e
      simp only at e
      split at e
      · rename_i hl
        exact ⟨_, _, rfl, ex_t ex ht, by rw [r.length, hl], h.dr H0 F H ι σ ρ ρ' _ _ ex l r e Q q⟩
      · cases e
    | _ => cases e⟩
theorem ds_for {tg iter : Expr} {body : List Stmt} {wi : TI} {g : TG} {tb : TS} {si : SemI} {sg : SemG} {sb : SemS} (hp : PassesOwn (model X.prog X.w) X.A X.env X.xe) (hi : DI X E tg iter wi si) (hg : DG X tg g sg) (hb : DSs X E body tb sb) (hc : X.calm = true := by rfl)
    (hs : ∀ x, foldedSetIterable iter X.env x = pure x := by intro _; rfl) : DS X E (.For tg iter body [] pos) (tFor wi g tb) (forS si sg sb) := ⟨ps_for hp hc hi.pi hg.pg hb.ps hs, dsr_for hi.dr hg.dr hb.dr⟩
/-- target = e, any target -/
def asgS (s : SemE) (g : SemG) : SemS := fun ρ w => (s ρ w).out fun x w1 => match x with
  | .dat d => (match g d ρ with
    | some ρ1 => .nx ρ1 w1
    | none => .stuck)
  | .vw _ => .stuck
theorem ds_asg {tg e : Expr} {te : TE} {g : TG} {se : SemE} {sg : SemG} (he : DE X E e te se) (hg : DG X tg g sg) (hs : swapsWithSole [tg] e pos.line X.env = pure false := by rfl) (hw : swappedStores [tg] e X.env = pure none := by rfl)
    (h1 : (assignEach [tg] X.env).map (·.2) = [assign tg X.env] := by rfl) : DS X E (.Assign [tg] e pos) (tAsg te g) (asgS se sg) := ⟨ps_asg he.pe hg.pg hs hw h1,
  dsr_expr (f := fun x ρ w1 => match x with | .dat d => (match sg d ρ with | some ρ1 => .nx ρ1 w1 | none => .stuck) | .vw _ => .stuck) (k := fun D v σ H1 => g v σ H1 D.nx) he.dr (fun _ _ _ q => q) fun F0 H0 F H ι0 ι w σ ρ D v x st wd l r o => by
    cases x with
    | vw c => exact False.elim o
    | dat d =>
      cases q : sg d ρ with
      | none => simp only [q] at o; exact False.elim o
      | some ρ1 => simp only [q] at o; exact hg.dr H0 F H ι σ ρ ρ1 v d wd.ex l r q _ fun σ' l' => o σ' F H ι (Rch.now st) wd l'⟩
end
end DL

/-! Comprehensions; things of a slot's own; changing things. -/
namespace DL
open PySem PySem.Spec PyProof.Rows L2

/-! ### comprehensions -/
def wipeS (ρ : List Slot) : List Nat → List Slot
  | [] => ρ
  | v :: vs => (wipeS ρ vs).set v .non
section
variable {K : PySem.W.Frag} {E : XK} {F H F' H' : Hp} {ι ι' : List Addr} {H0 : Hp} {σ : L2.St} {ρ : List Slot}
theorem Sl.forget (h : Sl K H0 F H ι σ ρ) (i : Nat) : Sl K H0 F H ι (σ.set i none) (ρ.set i .non) where
  len := by simp [h.len]
  at_ := fun j t e => by
    by_cases z : i = j
    · subst z
      by_cases hl : i < ρ.length
      · rw [List.getElem?_set_self hl] at e; cases e; trivial
      · rw [List.getElem?_eq_none (by simp; omega)] at e; cases e
    · rw [List.getElem?_set_ne z] at e ⊢
      exact h.at_ j t e
  sep := fun j k c c' p e1 e2 e3 e4 => by
    by_cases z : i = j
    · subst z
      by_cases hl : i < ρ.length
      · rw [List.getElem?_set_self hl] at e1; cases e1
      · rw [List.getElem?_eq_none (by simp; omega)] at e1; cases e1
    · by_cases y : i = k
      · subst y
        by_cases hl : i < ρ.length
        · rw [List.getElem?_set_self hl] at e2; cases e2
        · rw [List.getElem?_eq_none (by simp; omega)] at e2; cases e2
      · rw [List.getElem?_set_ne z] at e1 e3
        rw [List.getElem?_set_ne y] at e2 e4
        exact h.sep j k c c' p e1 e2 e3 e4
theorem Sl.wipe (h : Sl K H0 F H ι σ ρ) : ∀ vs : List Nat, Sl K H0 F H ι (L2.wipe σ vs) (wipeS ρ vs)
  | [] => h
  | v :: vs => (Sl.wipe h vs).forget v
/-- something made since H is changed -/
theorem Stp.poke {p : Addr} {o : HO} (s : Stp F H ι F' H' ι') (h : H p = none) : Stp F H ι F' (upd H' p o) ι' where
  ex := s.ex
  keep := fun a u n e => by rw [upd_ne (ne_of_none e h)]; exact s.keep a u n e
  kin := fun a u e => by rw [upd_ne (ne_of_none e h)]; exact s.kin a u e
  new := s.new
  ext := s.ext
theorem Wd.poke {w : W} {p : Addr} {o : HO} (d : Wd K F H ι w) (h : F p = none) (n : p ∉ ι) : Wd K F (upd H p o) ι w := by
  refine ⟨fun a u e => ?_, d.len, d.nd, fun m a c h1 h2 => ?_⟩
  · rw [upd_ne (ne_of_none e h)]; exact d.ex a u e
  · obtain ⟨q, r⟩ := d.cel m a c h1 h2
    have z : a ≠ p := fun z => by
      subst z
      exact n (List.mem_of_getElem? h1)
    exact ⟨q, r.mono (Ex.refl F) (fun _ _ h => h) fun u e => by rw [upd_ne z]; exact e⟩
end
/-- tests -/
def yesT : SemT := fun _ w => .ok true w
structure DTs (X : Cx) (E : XK) (ifs : List Expr) (tt : TT) (s : SemT) : Prop where
  pt : PTs X ifs tt
  dr : DRT X.K E tt s
theorem dts_nil {X : Cx} {E : XK} : DTs X E [] tYes yesT := ⟨pts_nil, drt_c true⟩
theorem dts_one {X : Cx} {E : XK} {c : Expr} {tt : TT} {s : SemT} (h : DT X E c tt s) : DTs X E [c] tt s := ⟨pts_one h.pt, h.dr⟩
abbrev EF : XK := fun _ _ _ => False
def lcL (g : SemG) (st : SemT) (se : SemE) (ρ : List Slot) : List D → W → List D → R (List D)
  | [], w, acc => .ok acc w
  | d :: r, w, acc => match g d ρ with
    | none => .stuck
    | some ρ1 => (match st ρ1 w with
      | .ok true w1 => (match se ρ1 w1 with
        | .ok (.dat y) w2 => if acc.length < most then lcL g st se ρ r w2 (acc ++ [y]) else .stuck
        | _ => .stuck)
      | .ok false w1 => lcL g st se ρ r w1 acc
      | _ => .stuck)
def lcE (si : SemI) (g : SemG) (st : SemT) (se : SemE) (vs : List Nat) : SemE := fun ρ w => (si ρ w).bind fun items w1 => (lcL g st se (wipeS ρ vs) items w1 []).bind fun ds w2 => .ok (.dat (.lst ds)) w2
theorem dr_lc {K : PySem.W.Frag} {E : XK} {wi : TI} {g : TG} {tt : TT} {te : TE} {si : SemI} {sg : SemG} {st : SemT} {se : SemE} {vs : List Nat} (hi : DRI K E wi si) (hg : DRG K g sg) (ht : DRT K EF tt st) (he : DR K EF te se)
    (hw : ∀ x σ H Q, g x (L2.wipe σ vs) H Q → g x (L2.wipe σ vs) H fun σ2 H2 => L2.wipe σ2 vs = L2.wipe σ vs ∧ Q σ2 H2) : DR K E (tLc wi g tt te vs) (lcE si sg st se vs) := by
  intro H0 F H ι w σ ρ wd l
  have hI := hi H0 F H ι w σ ρ wd l
  unfold lcE
  cases e : si ρ w with
  | stuck => trivial
  | exc x w1 => rw [e] at hI; exact fun q Q => hI q _
  | ok items w1 =>
    rw [e] at hI
    show Meets _ _ ((lcL sg st se (wipeS ρ vs) items w1 []).bind _)
    have main : ∀ (r : R (List D)), lcL sg st se (wipeS ρ vs) items w1 [] = r → ∀ ds w2, r = .ok ds w2 → ∀ Q : VK, OkV K F H ι (.dat (.lst ds)) w2 Q → tLc wi g tt te vs σ H Q := by
      intro r er ds w2 ew Q q
      refine hI _ fun J F1 H1 ι1 s1 d1 it D hD => ?_
      have l1 : Sl K H0 F1 H1 ι1 (L2.wipe σ vs) (wipeS ρ vs) := (l.mono s1).wipe vs
      have fD := d1.free hD
      have nD : D ∉ ι1 := fun z => by
        obtain ⟨_, o, ho⟩ := d1.ne z
        rw [hD] at ho; cases ho
      refine ⟨fun i m H' => i + m = items.length ∧ ∃ F' ι' w' acc xs, Stp F1 H1 ι1 F' H' ι' ∧ Wd K F' H' ι' w' ∧ F' D = none ∧ D ∉ ι' ∧ H' D = some (.lst xs) ∧ RepA K F' ι' xs acc ∧ lcL sg st se (wipeS ρ vs) (items.drop i) w' acc = .ok ds w2,
        ⟨items.length, by simp, F1, ι1, w1, [], [], Stp.poke Stp.refl hD, d1.poke fD nD, fD, nD, upd_same, .nil, by rw [List.drop_zero, er, ew]⟩, ?_⟩
      rintro i m H' ⟨em, F', ι', w', acc, xs, s', d', fD', nD', hD', ra, eL⟩
      obtain ⟨go, stop, yld⟩ := it F' H' ι' w' s'.ex s'.ix d' i
      by_cases h : i < items.length
      · right
        have ed : items.drop i = items[i] :: items.drop (i + 1) := List.drop_eq_getElem_cons h
        refine ⟨go h, fun H2 => ∃ F2 ι2 w2' acc2 xs2, Stp F1 H1 ι1 F2 H2 ι2 ∧ Wd K F2 H2 ι2 w2' ∧ F2 D = none ∧ D ∉ ι2 ∧ H2 D = some (.lst xs2) ∧ RepA K F2 ι2 xs2 acc2 ∧ lcL sg st se (wipeS ρ vs) (items.drop (i + 1)) w2' acc2 = .ok ds w2,
          fun H2 hN => ⟨m - 1, by omega, by omega, hN⟩, fun x H3 hy => ?_⟩
        obtain ⟨d, F3, ed2, s3, d3, r3⟩ := yld x H3 h hy
        have edd : items[i] = d := by
          rw [List.getElem?_eq_getElem h] at ed2
          exact Option.some.inj ed2
        rw [ed, edd] at eL
        unfold lcL at eL
        have st3 := s'.trans s3
        have hD3 : H3 D = some (.lst xs) := s3.keep D _ nD' hD'
        have fD3 : F3 D = none := by
          cases z : F3 D with
          | none => rfl
          | some o =>
            rcases s3.new D o z with y | y
            · rw [fD'] at y; cases y
            · rw [hD'] at y; cases y
        have ra3 : RepA K F3 ι' xs acc := ra.mono s3.ex s3.ix
        cases q1 : sg d (wipeS ρ vs) with
        | none => rw [q1] at eL; cases eL
        | some ρ1 =>
          rw [q1] at eL
          refine hw x σ H3 _ ?_
          refine hg H0 F3 H3 ι' (L2.wipe σ vs) (wipeS ρ vs) ρ1 x d d3.ex (l1.mono st3) r3 q1 _ fun σ2 l2 => ?_
          cases q2 : st ρ1 w' with
          | stuck => simp only [q2] at eL; cases eL
          | exc y w3 => simp only [q2] at eL; cases eL
          | ok b w3 =>
            refine ht.ok d3 l2 q2 fun F4 H4 ι4 s4 d4 => ?_
            have hD4 : H4 D = some (.lst xs) := s4.keep D _ nD' hD3
            have nD4 : D ∉ ι4 := s4.out hD3 nD'
            have fD4 : F4 D = none := by
              cases z : F4 D with
              | none => rfl
              | some o =>
                rcases s4.new D o z with y | y
                · rw [fD3] at y; cases y
                · rw [hD3] at y; cases y
            cases b with
            | false =>
              simp only [q2] at eL
              rw [if_neg Bool.false_ne_true]
              exact ⟨F4, ι4, w3, acc, xs, st3.trans s4, d4, fD4, nD4, hD4, ra3.mono s4.ex s4.ix, eL⟩
            | true =>
              simp only [q2] at eL
              rw [if_pos rfl]
              cases q3 : se ρ1 w3 with
              | stuck => simp only [q3] at eL; cases eL
              | exc y w4 => simp only [q3] at eL; cases eL
              | ok v w4 =>
                cases v with
                | vw c => simp only [q3] at eL; cases eL
                | dat y =>
                  simp only [q3] at eL
                  split at eL
                  · rename_i hlen
                    refine he.ok d4 (l2.mono s4) q3 fun u F5 H5 ι5 s5 d5 r5 => ?_
                    have hD5 : H5 D = some (.lst xs) := s5.keep D _ nD4 hD4
                    have nD5 : D ∉ ι5 := s5.out hD4 nD4
                    have fD5 : F5 D = none := by
                      cases z : F5 D with
                      | none => rfl
                      | some o =>
                        rcases s5.new D o z with y | y
                        · rw [fD4] at y; cases y
                        · rw [hD4] at y; cases y
                    have ra5 : RepA K F5 ι5 xs acc := (ra3.mono s4.ex s4.ix).mono s5.ex s5.ix
                    refine ⟨xs, hD5, by rw [ra5.length, sizeLine_eq]; exact hlen, F5, ι5, w4, acc ++ [y], xs ++ [u], Stp.poke ((st3.trans s4).trans s5) hD, d5.poke fD5 nD5, fD5, nD5, upd_same, ra5.snoc r5, eL⟩
                  · cases eL
      · left
        have ed : items.drop i = [] := List.drop_eq_nil_of_le (by omega)
        rw [ed] at eL
        unfold lcL at eL
        cases eL
        refine ⟨stop (by omega), q (.ref D) (upd F' D (.lst xs)) H' ι' ?_ ?_ ?_⟩
        · have z : Stp F1 H1 ι1 (upd F' D (.lst xs)) H' ι' := ⟨fun a o h => by rw [upd_ne (ne_of_none h fD)]; exact s'.ex a o h, s'.keep, s'.kin, fun a o h => by
            by_cases y : a = D
            · subst y; exact .inr hD
            · rw [upd_ne y] at h; exact s'.new a o h, s'.ext⟩
          exact s1.trans z
        · refine ⟨fun a o h => ?_, d'.len, d'.nd, fun n a c h1 h2 => ?_⟩
          · by_cases y : a = D
            · subst y; rw [upd_same] at h; cases h; exact hD'
            · rw [upd_ne y] at h; exact d'.ex a o h
          · obtain ⟨z1, z2⟩ := d'.cel n a c h1 h2
            have y : a ≠ D := fun y => by
              subst y
              exact nD' (List.mem_of_getElem? h1)
            exact ⟨by rw [upd_ne y]; exact z1, z2.mono (Ex.new fD') (fun _ _ h => h) fun _ h => h⟩
        · exact Rep.lst upd_same (ra.mono (Ex.new fD') fun _ _ h => h)
    cases e2 : lcL sg st se (wipeS ρ vs) items w1 [] with
    | stuck => trivial
    | ok ds w2 => exact fun Q q => main _ e2 ds w2 rfl Q q
    | exc y w2 =>
      exfalso
      have noexc : ∀ (items : List D) w acc, ∀ y w2, lcL sg st se (wipeS ρ vs) items w acc ≠ .exc y w2 := by
        intro items
        induction items with
        | nil => intro w acc y w2 h; cases h
        | cons d r ih =>
          intro w acc y w2 h
          unfold lcL at h
          split at h
          · cases h
          · split at h
            · split at h
              · split at h
                · exact ih _ _ _ _ h
                · cases h
              · cases h
            · exact ih _ _ _ _ h
            · cases h
      exact noexc _ _ _ _ _ e2
theorem wipe_name {i : Nat} : ∀ (x : V) (σ : L2.St) H (Q : L2.St → Hp → Prop), gName i x (L2.wipe σ [i]) H Q → gName i x (L2.wipe σ [i]) H fun σ2 H2 => L2.wipe σ2 [i] = L2.wipe σ [i] ∧ Q σ2 H2 := fun x σ H Q q => ⟨by
  show ((σ.set i none).set i (some x)).set i none = σ.set i none
  rw [List.set_set, List.set_set], q⟩
section
variable {X : Cx} {E : XK}
theorem de_lc {elt tg iter : Expr} {ifs : List Expr} {scope : Scope} {own : List (Str × Nat)} {pos : Pos} {wi : TI} {g : TG} {tt : TT} {te : TE} {si : SemI} {sg : SemG} {st : SemT} {se : SemE} (hN : X.N.Nodup) (hi : DI X E tg iter wi si) (ok : BlkOk X.N X.env.scope scope own)
    (hg : ∀ (s : Shared) (H : Hp) (C : Addr) (cl : List (Str × Addr)) (fp : List Addr), DG (X.blk s H scope (compEnvC scope cl C X.env) fp) tg g sg) (ht : ∀ (s : Shared) (H : Hp) (C : Addr) (cl : List (Str × Addr)) (fp : List Addr), DTs (X.blk s H scope (compEnvC scope cl C X.env) fp) EF ifs tt st)
    (he : ∀ (s : Shared) (H : Hp) (C : Addr) (cl : List (Str × Addr)) (fp : List Addr), DE (X.blk s H scope (compEnvC scope cl C X.env) fp) EF elt te se)
    (hw : ∀ x σ H Q, g x (L2.wipe σ (own.map (·.2))) H Q → g x (L2.wipe σ (own.map (·.2))) H fun σ2 H2 => L2.wipe σ2 (own.map (·.2)) = L2.wipe σ (own.map (·.2)) ∧ Q σ2 H2) (hc : X.calm = true := by rfl) (hs : ∀ x, foldedSetIterable iter X.env x = pure x := by intro _; rfl)
    (s0 : Shared) (h0 : Hp) : DE X E (.ListComp elt [⟨tg, iter, ifs, 0⟩] scope pos) (tLc wi g tt te (own.map (·.2))) (lcE si sg st se (own.map (·.2))) :=
  ⟨pe_lc hc hN hi.pi ok (fun s H C cl fp => (hg s H C cl fp).pg) (fun s H C cl fp => (ht s H C cl fp).pt) (fun s H C cl fp => (he s H C cl fp).pe) hs,
    dr_lc hi.dr (hg s0 h0 0 [] []).dr (ht s0 h0 0 [] []).dr (he s0 h0 0 [] []).dr hw⟩
theorem ds_setLc {i : Nat} {y : Str} {py : Pos} {elt tg iter : Expr} {ifs : List Expr} {scope : Scope} {own : List (Str × Nat)} {pos spos : Pos} {wi : TI} {g : TG} {tt : TT} {te : TE} {si : SemI} {sg : SemG} {st : SemT} {se : SemE} (hN : X.N.Nodup)
    (hi : DI X E tg iter wi si) (ok : BlkOk X.N X.env.scope scope own)
    (hg : ∀ (s : Shared) (H : Hp) (C : Addr) (cl : List (Str × Addr)) (fp : List Addr), DG (X.blk s H scope (compEnvC scope cl C X.env) fp) tg g sg) (ht : ∀ (s : Shared) (H : Hp) (C : Addr) (cl : List (Str × Addr)) (fp : List Addr), DTs (X.blk s H scope (compEnvC scope cl C X.env) fp) EF ifs tt st)
    (he : ∀ (s : Shared) (H : Hp) (C : Addr) (cl : List (Str × Addr)) (fp : List Addr), DE (X.blk s H scope (compEnvC scope cl C X.env) fp) EF elt te se)
    (hw : ∀ x σ H Q, g x (L2.wipe σ (own.map (·.2))) H Q → g x (L2.wipe σ (own.map (·.2))) H fun σ2 H2 => L2.wipe σ2 (own.map (·.2)) = L2.wipe σ (own.map (·.2)) ∧ Q σ2 H2)
    (hsw : swapsWith (.ListComp elt [⟨tg, iter, ifs, 0⟩] scope pos) (some (.Name y py)) spos.line X.env = pure true) (s0 : Shared) (h0 : Hp) (hc : X.calm = true := by rfl) (hy : X.N[i]? = some y := by rfl) (hyl : X.env.scope.names.lookup y = some .local := by rfl) (hs : ∀ x, foldedSetIterable iter X.env x = pure x := by intro _; rfl) :
    DS X E (.Assign [.Name y py] (.ListComp elt [⟨tg, iter, ifs, 0⟩] scope pos) spos) (tAsg (tLc wi g tt te (own.map (·.2))) (gName i)) (setS i (lcE si sg st se (own.map (·.2)))) :=
  ⟨ps_setLc hc hN hy hyl hsw hi.pi ok (fun s H C cl fp => (hg s H C cl fp).pg) (fun s H C cl fp => (ht s H C cl fp).pt) (fun s H C cl fp => (he s H C cl fp).pe) hs,
    dsr_set i (dr_lc hi.dr (hg s0 h0 0 [] []).dr (ht s0 h0 0 [] []).dr (he s0 h0 0 [] []).dr hw)⟩
end
end DL

/-! Things of a slot's own; changing things. -/
namespace DL
open PySem PySem.Spec PyProof.Rows L2

/-- a value for a slot: data, or a thing made since the heap B -/
def RepO (K : PySem.W.Frag) (B F H : Hp) (ι : List Addr) (v : V) : Slot → Prop
  | .non => False
  | .dat d => Rep K F ι v d
  | .own c => ∃ p, v = .ref p ∧ B p = none ∧ F p = none ∧ p ∉ ι ∧ CellAt K F H ι p c
abbrev SemO2 := List Slot → W → R Slot
def OkO (K : PySem.W.Frag) (F H : Hp) (ι : List Addr) (x : Slot) (w' : W) (Q : VK) : Prop := ∀ v F' H' ι', Stp F H ι F' H' ι' → Wd K F' H' ι' w' → RepO K H F' H' ι' v x → Q v H'
def DRW (K : PySem.W.Frag) (E : XK) (te : TE) (s : SemO2) : Prop := ∀ (H0 F H : Hp) (ι : List Addr) (w : W) (σ : L2.St) (ρ : List Slot), Wd K F H ι w → Sl K H0 F H ι σ ρ →
  Meets (fun x w' => ∀ Q : VK, OkO K F H ι x w' Q → te σ H Q) (fun x w' => XPost K E F H ι x w' → ∀ Q, te σ H Q) (s ρ w)
/-- an expression for a slot -/
structure DEo (X : Cx) (E : XK) (e : Expr) (te : TE) (s : SemO2) : Prop where
  pe : PE X e te
  dr : DRW X.K E te s
def datO (s : SemE) : SemO2 := fun ρ w => (s ρ w).bind fun x w1 => match x with
  | .dat d => .ok (.dat d) w1
  | .vw _ => .stuck
def lstO (sa : SemA) : SemO2 := fun ρ w => (sa ρ w).bind fun ds w1 => if ds.length ≤ most then .ok (.own (.lst ds)) w1 else .stuck
def dctO : SemO2 := fun _ w => .ok (.own (.dct [])) w
section
variable {X : Cx} {E : XK} {e : Expr} {es : List Expr} {te : TE} {ta : TA} {s : SemE} {sa : SemA} {pos : Pos}
theorem deo (h : DE X E e te s) : DEo X E e te (datO s) := ⟨h.pe, by
  intro H0 F H ι w σ ρ wd l
  unfold datO
  cases e : s ρ w with
  | stuck => trivial
  | exc x w1 => exact fun q Q => h.dr.exc wd l e q _
  | ok x w1 =>
    cases x with
    | vw _ => trivial
    | dat d => exact fun Q q => h.dr.ok wd l e fun v F1 H1 ι1 s1 d1 r1 => q v F1 H1 ι1 s1 d1 r1⟩
theorem Stp.only {F H : Hp} {ι : List Addr} {p : Addr} {o : HO} (h : H p = none) : Stp F H ι F (upd H p o) ι := Stp.poke Stp.refl h
theorem deo_lst (ha : DA X E es ta sa) : DEo X E (.List es pos) (tLst ta) (lstO sa) := ⟨pe_lst ha.pa, by
  intro H0 F H ι w σ ρ wd l
  unfold lstO
  cases e : sa ρ w with
  | stuck => trivial
  | exc x w1 => exact fun q Q => ha.dr.exc wd l e q _
  | ok ds w1 =>
    show Meets _ _ (if ds.length ≤ most then (.ok (.own (.lst ds)) w1 : R Slot) else .stuck)
    by_cases h : ds.length ≤ most
    · rw [if_pos h]
      intro Q q
      refine ha.dr.ok wd l e fun xs F1 H1 ι1 s1 d1 r1 => ⟨by rw [r1.length]; exact most_le h, fun p hp => ?_⟩
      have fp := d1.free hp
      have np : p ∉ ι1 := fun z => by
        obtain ⟨_, o, ho⟩ := d1.ne z
        rw [hp] at ho; cases ho
      have hp0 : H p = none := by
        cases z : H p with
        | none => rfl
        | some o =>
          obtain ⟨o', h'⟩ := s1.kin p o z
          rw [hp] at h'; cases h'
      exact q (.ref p) F1 _ ι1 (s1.trans (Stp.only hp)) (d1.poke fp np) ⟨p, rfl, hp0, fp, np, xs, upd_same, r1⟩
    · rw [if_neg h]; trivial⟩
theorem deo_dct : DEo X E (.Dict [] [] pos) tDNewK dctO := ⟨pe_dnewK, by
  intro H0 F H ι w σ ρ wd l Q q
  intro p hp
  have fp := wd.free hp
  have np : p ∉ ι := fun z => by
    obtain ⟨_, o, ho⟩ := wd.ne z
    rw [hp] at ho; cases ho
  exact q (.ref p) F _ ι (Stp.only hp) (wd.poke fp np) ⟨p, rfl, hp, fp, np, [], upd_same, .nil⟩⟩
end
section
variable {K : PySem.W.Frag} {E : XK} {F H F' H' : Hp} {ι ι' : List Addr} {H0 : Hp} {σ : L2.St} {ρ : List Slot}
theorem RepO.back {B : Hp} {v : V} {x : Slot} (b : ∀ a o, H0 a = some o → ∃ o', B a = some o') (h : RepO K B F H ι v x) : RepO K H0 F H ι v x := by
  cases x with
  | non => exact h
  | dat d => exact h
  | own c =>
    obtain ⟨p, e, h1, h2⟩ := h
    refine ⟨p, e, ?_, h2⟩
    cases z : H0 p with
    | none => rfl
    | some o =>
      obtain ⟨_, y⟩ := b p o z
      rw [h1] at y; cases y
/-- a slot gets such a value; what it owns is not what another slot owns -/
theorem Sl.put {i : Nat} {v : V} {x : Slot} (h : Sl K H0 F H ι σ ρ) (r : RepO K H0 F H ι v x) (fresh : ∀ c p, x = .own c → v = .ref p → ∀ (j : Nat) c', ρ[j]? = some (.own c') → j ≠ i → σ[j]? ≠ some (some (.ref p))) : Sl K H0 F H ι (σ.set i (some v)) (ρ.set i x) where
  len := by simp [h.len]
  at_ := fun j t e => by
    by_cases z : i = j
    · subst z
      by_cases hl : i < ρ.length
      · rw [List.getElem?_set_self hl] at e
        cases e
        rw [List.getElem?_set_self (by rw [h.len]; exact hl)]
        cases x with
        | non => exact False.elim r
        | dat d => exact ⟨v, rfl, r⟩
        | own c => obtain ⟨p, rfl, h1, h2, h3, h4⟩ := r; exact ⟨p, rfl, h1, h2, h3, h4⟩
      · rw [List.getElem?_eq_none (by simp; omega)] at e; cases e
    · rw [List.getElem?_set_ne z] at e ⊢
      exact h.at_ j t e
  sep := fun j k c c' p e1 e2 e3 e4 => by
    by_cases z : i = j
    · subst z
      by_cases y : i = k
      · exact y
      · by_cases hl : i < ρ.length
        · rw [List.getElem?_set_self hl] at e1
          rw [List.getElem?_set_self (by rw [h.len]; exact hl)] at e3
          rw [List.getElem?_set_ne y] at e2 e4
          cases e1
          cases e3
          exact absurd e4 (fresh c p rfl rfl k c' e2 (Ne.symm y))
        · rw [List.getElem?_eq_none (by simp; omega)] at e1; cases e1
    · by_cases y : i = k
      · subst y
        by_cases hl : i < ρ.length
        · rw [List.getElem?_set_self hl] at e2
          rw [List.getElem?_set_self (by rw [h.len]; exact hl)] at e4
          rw [List.getElem?_set_ne z] at e1 e3
          cases e2
          cases e4
          exact absurd e3 (fresh c' p rfl rfl j c e1 (Ne.symm z))
        · rw [List.getElem?_eq_none (by simp; omega)] at e2; cases e2
      · rw [List.getElem?_set_ne z] at e1 e3
        rw [List.getElem?_set_ne y] at e2 e4
        exact h.sep j k c c' p e1 e2 e3 e4
/-- what a slot owns stands in the heap -/
theorem Sl.there (h : Sl K H0 F H ι σ ρ) {j : Nat} {c : Cell} {p : Addr} (e : ρ[j]? = some (.own c)) (e2 : σ[j]? = some (some (.ref p))) : ∃ o, H p = some o := by
  obtain ⟨q, e3, _, _, _, r⟩ := h.at_ j _ e
  rw [e2] at e3
  cases e3
  exact r.there
end
/-- name = e for a slot -/
def setO (i : Nat) (s : SemO2) : SemS := fun ρ w => (s ρ w).out fun x w1 => .nx (ρ.set i x) w1
/-- name, name = e, e for slots -/
def parO (i j : Nat) (s t : SemO2) : SemS := fun ρ w => (s ρ w).out fun x w1 => (t ρ w1).out fun y w2 => .nx ((ρ.set i x).set j y) w2
section
variable {X : Cx} {E : XK} {e e2 : Expr} {te te2 : TE} {so so2 : SemO2} {pos : Pos}
theorem Stp.kinN {F0 H0 F H : Hp} {ι0 ι : List Addr} (s : Stp F0 H0 ι0 F H ι) : ∀ a o, H0 a = some o → ∃ o', H a = some o' := s.kin
theorem ds_setO {i : Nat} {x : Str} {pos' : Pos} (h : DEo X E e te so) (hN : X.N.Nodup) (hi : X.N[i]? = some x := by rfl) (hx : Loc X.env.scope x := by first | exact Or.inl rfl | exact Or.inr rfl)
    (hs : swapsWith e (some (.Name x pos')) pos.line X.env = pure false := by rfl) (hf : X.fn x = true ∨ X.env.scope.names.lookup x = some .local := by first | exact .inl rfl | exact .inr rfl) :
    DS X E (.Assign [.Name x pos'] e pos) (tAsg te (gName i)) (setO i so) := ⟨ps_set hN hi hx h.pe hs hf, by
  intro F0 H0 F H ι0 ι w σ ρ D st wd l o
  have hh := h.dr H0 F H ι w σ ρ wd l
  unfold setO at o
  cases q : so ρ w with
  | stuck => rw [q] at o; exact False.elim o
  | exc x w1 => rw [q] at o hh; exact hh (XPost.step st o) _
  | ok x w1 =>
    rw [q] at o hh
    refine hh _ fun v F1 H1 ι1 s1 d1 r1 => ?_
    refine o _ F1 H1 ι1 ((Rch.now st).step s1) d1 ((l.mono s1).put (r1.back st.kin) fun c p ex ev j c' e1 _ e3 => ?_)
    subst ex ev
    obtain ⟨p', e', h1, _⟩ := r1
    cases e'
    obtain ⟨u, hu⟩ := l.there e1 e3
    rw [h1] at hu; cases hu⟩
theorem ds_parO {i j : Nat} {x y : Str} {a b : Expr} {px py pt : Pos} {kt k2 pt2} (hN : X.N.Nodup) (h1 : DEo X E a te so) (h2 : DEo X E b te2 so2) (hs1 : starEach [a, b] X.env = (false, eval a X.env) :: starEach [b] X.env := by rfl) (hs2 : starEach [b] X.env = (false, eval b X.env) :: starEach [] X.env := by rfl) (hc : X.calm = true := by rfl) (hi : X.N[i]? = some x := by rfl) (hj : X.N[j]? = some y := by rfl) (hij : i ≠ j := by decide)
    (hx : X.env.scope.names.lookup x = some .local := by rfl) (hy : X.env.scope.names.lookup y = some .local := by rfl)
    (hw : swappedStores [.Tuple [.Name x px, .Name y py] kt pt] (.Tuple [a, b] k2 pt2) X.env = pure (some [x, y]) := by rfl)
    (hs : swapsWithSole [.Tuple [.Name x px, .Name y py] kt pt] (.Tuple [a, b] k2 pt2) pos.line X.env = pure false := by rfl) :
    DS X E (.Assign [.Tuple [.Name x px, .Name y py] kt pt] (.Tuple [a, b] k2 pt2) pos) (tPar i j (tCons te (tCons te2 tNil))) (parO i j so so2) := ⟨ps_par hc hN hi hj hij hx hy (pa_cons h1.pe (pa_cons h2.pe pa_nil hs2) hs1) hw hs, by
  intro F0 H0 F H ι0 ι w σ ρ D st wd l o
  have g1 := h1.dr H0 F H ι w σ ρ wd l
  unfold parO at o
  show te σ H _
  cases q : so ρ w with
  | stuck => rw [q] at o; exact False.elim o
  | exc x w1 => rw [q] at o g1; exact g1 (XPost.step st o) _
  | ok x w1 =>
    rw [q] at o g1
    refine g1 _ fun v F1 H1 ι1 s1 d1 r1 => ?_
    show te2 σ H1 _
    have l1 := l.mono s1
    have g2 := h2.dr H0 F1 H1 ι1 w1 σ ρ d1 l1
    have o : OutOk X.K E F0 H0 ι0 F ι D ((so2 ρ w1).out fun y w2 => .nx ((ρ.set i x).set j y) w2) := o
    cases q2 : so2 ρ w1 with
    | stuck => rw [q2] at o; exact False.elim o
    | exc y w2 => rw [q2] at o g2; exact g2 (XPost.step (st.trans s1) o) _
    | ok y w2 =>
      rw [q2] at o g2
      refine g2 _ fun u F2 H2 ι2 s2 d2 r2 => ?_
      refine ⟨v, u, rfl, o _ F2 H2 ι2 (((Rch.now st).step s1).step s2) d2 ?_⟩
      have r1' : RepO X.K H F2 H2 ι2 v x := by
        cases x with
        | non => exact r1
        | dat d => exact Rep.mono s2.ex s2.ix r1
        | own c =>
          obtain ⟨p, e, b1, b2, b3, b4⟩ := r1
          obtain ⟨p', e', z1, z2, z3⟩ := RepV.mono (x := .vw c) s2 (⟨p, rfl, b2, b3, b4⟩ : RepV X.K F1 H1 ι1 (.ref p) (.vw c))
          cases e'
          exact ⟨p, e, b1, z1, z2, z3⟩
      have la : Sl X.K H0 F2 H2 ι2 (σ.set i (some v)) (ρ.set i x) := (l1.mono s2).put (r1'.back st.kin) fun c p ex ev k c' e1 _ e3 => by
        subst ex ev
        obtain ⟨p', e', b1, _⟩ := r1
        cases e'
        obtain ⟨z, hz⟩ := l.there e1 e3
        rw [b1] at hz; cases hz
      refine la.put (r2.back (st.trans s1).kin) fun c p ex ev k c' e1 hk e3 => ?_
      subst ex ev
      obtain ⟨p', e', b1, _⟩ := r2
      cases e'
      by_cases hk2 : i = k
      · subst hk2
        by_cases hl : i < ρ.length
        · rw [List.getElem?_set_self hl] at e1
          rw [List.getElem?_set_self (by rw [l.len]; exact hl)] at e3
          cases e1
          cases e3
          obtain ⟨_, e5, _, _, _, z4⟩ := r1
          cases e5
          obtain ⟨z, hz⟩ := z4.there
          rw [b1] at hz; cases hz
        · rw [List.getElem?_eq_none (by simp; omega)] at e1; cases e1
      · rw [List.getElem?_set_ne hk2] at e1 e3
        obtain ⟨z, hz⟩ := l1.there e1 e3
        rw [b1] at hz; cases hz⟩
end
/-! ### from a slot's own to data -/
def Cell.d : Cell → D
  | .lst ds => .lst ds
  | .dct es => .dct es
  | .obj c es => .obj c es
  | .dead => .non
def frz (i : Nat) (ρ : List Slot) : List Slot := match ρ[i]? with
  | some (.own (.lst ds)) => ρ.set i (.dat (.lst ds))
  | some (.own (.dct es)) => ρ.set i (.dat (.dct es))
  | some (.own (.obj c es)) => ρ.set i (.dat (.obj c es))
  | _ => ρ
def frzS (i : Nat) (s : SemS) : SemS := fun ρ w => s (frz i ρ) w
section
variable {K : PySem.W.Frag} {E : XK} {F H : Hp} {ι : List Addr} {H0 : Hp} {σ : L2.St} {ρ : List Slot}
theorem frz_one {F0 : Hp} {ι0 : List Addr} {w : W} {i : Nat} {p : Addr} {o : HO} {d : D} {c : Cell} (st : Stp F0 H0 ι0 F H ι) (wd : Wd K F H ι w) (l : Sl K H0 F H ι σ ρ) (e : ρ[i]? = some (.own c)) (es : σ[i]? = some (some (.ref p))) (ho : H p = some o) (r : Rep K (upd F p o) ι (.ref p) d)
    (h0 : H0 p = none) (hF : F p = none) (hn : p ∉ ι) : Rch F0 H0 ι0 F ι (upd F p o) H ι ∧ Wd K (upd F p o) H ι w ∧ Sl K H0 (upd F p o) H ι σ (ρ.set i (.dat d)) := by
  have hx : Ex F (upd F p o) := Ex.new hF
  refine ⟨⟨⟨st.ex.trans hx, st.keep, st.kin, fun a u q => ?_, st.ext⟩, hx, fun _ _ h => h⟩, ⟨fun a u q => ?_, wd.len, wd.nd, fun n a c h1 h2 => ?_⟩, ?_⟩
  · by_cases z : a = p
    · subst z; exact .inr h0
    · rw [upd_ne z] at q; exact st.new a u q
  · by_cases z : a = p
    · subst z; rw [upd_same] at q; cases q; exact ho
    · rw [upd_ne z] at q; exact wd.ex a u q
  · obtain ⟨q1, q2⟩ := wd.cel n a c h1 h2
    have z : a ≠ p := fun z => by
      subst z
      exact hn (List.mem_of_getElem? h1)
    exact ⟨by rw [upd_ne z]; exact q1, q2.mono hx (fun _ _ h => h) fun _ h => h⟩
  · refine ⟨by simp [l.len], fun j t q => ?_, fun j k c1 c2 p' e1 e2 e3 e4 => ?_⟩
    · by_cases z : i = j
      · subst z
        have hl : i < ρ.length := (List.getElem?_eq_some_iff.mp e).1
        rw [List.getElem?_set_self hl] at q
        cases q
        exact ⟨_, es, r⟩
      · rw [List.getElem?_set_ne z] at q
        have y := l.at_ j t q
        cases t with
        | non => trivial
        | dat d' => obtain ⟨v, y1, y2⟩ := y; exact ⟨v, y1, y2.mono hx fun _ _ h => h⟩
        | own c' =>
          obtain ⟨p', y1, y2, y3, y4, y5⟩ := y
          have np : p' ≠ p := fun u => by
            subst u
            exact z (l.sep i j c c' p' e q es y1)
          exact ⟨p', y1, y2, by rw [upd_ne np]; exact y3, y4, y5.mono hx (fun _ _ h => h) fun _ h => h⟩
    · by_cases z : i = j
      · subst z
        have hl : i < ρ.length := (List.getElem?_eq_some_iff.mp e).1
        rw [List.getElem?_set_self hl] at e1; cases e1
      · by_cases y : i = k
        · subst y
          have hl : i < ρ.length := (List.getElem?_eq_some_iff.mp e).1
          rw [List.getElem?_set_self hl] at e2; cases e2
        · rw [List.getElem?_set_ne z] at e1
          rw [List.getElem?_set_ne y] at e2
          exact l.sep j k c1 c2 p' e1 e2 e3 e4
theorem dsr_frz {ts : TS} {s : SemS} (i : Nat) (h : DSR K E ts s) : DSR K E ts (frzS i s) := by
  intro F0 H0 F H ι0 ι w σ ρ D st wd l o
  have o : OutOk K E F0 H0 ι0 F ι D (s (frz i ρ) w) := o
  have same : frz i ρ = ρ → ts D σ H := fun e => h F0 H0 F H ι0 ι w σ ρ D st wd l (by rw [e] at o; exact o)
  cases e : ρ[i]? with
  | none => exact same (by unfold frz; rw [e])
  | some t =>
    cases t with
    | non => exact same (by unfold frz; rw [e])
    | dat d => exact same (by unfold frz; rw [e])
    | own c =>
      obtain ⟨p, es, h0, hF, hn, hc⟩ := l.at_ i _ e
      cases c with
      | dead => exact same (by unfold frz; rw [e])
      | lst ds =>
        obtain ⟨xs, hx, r⟩ := hc
        obtain ⟨a, b, c⟩ := frz_one st wd l e es hx (Rep.lst upd_same (r.mono (Ex.new hF) fun _ _ h => h)) h0 hF hn
        have ef : frz i ρ = ρ.set i (.dat (.lst ds)) := by unfold frz; rw [e]
        rw [ef] at o
        exact h F0 H0 _ H ι0 ι w σ _ D a.st b c (OutOk.step a o)
      | dct ds =>
        obtain ⟨xs, hx, r⟩ := hc
        obtain ⟨a, b, c⟩ := frz_one st wd l e es hx (Rep.dct upd_same (r.mono (Ex.new hF) fun _ _ h => h)) h0 hF hn
        have ef : frz i ρ = ρ.set i (.dat (.dct ds)) := by unfold frz; rw [e]
        rw [ef] at o
        exact h F0 H0 _ H ι0 ι w σ _ D a.st b c (OutOk.step a o)
      | obj cn ds =>
        obtain ⟨dx, xs, hx, r⟩ := hc
        obtain ⟨a, b, c⟩ := frz_one st wd l e es hx (Rep.obj upd_same (r.mono (Ex.new hF) fun _ _ h => h)) h0 hF hn
        have ef : frz i ρ = ρ.set i (.dat (.obj cn ds)) := by unfold frz; rw [e]
        rw [ef] at o
        exact h F0 H0 _ H ι0 ι w σ _ D a.st b c (OutOk.step a o)
end
theorem ds_frz {X : Cx} {E : XK} {st : Stmt} {ts : TS} {s : SemS} (i : Nat) (h : DS X E st ts s) : DS X E st ts (frzS i s) := ⟨h.ps, dsr_frz i h.dr⟩
/-! ### append, a[i] = e -/
/-- the thing of a slot changes -/
def chg (i : Nat) (f : Cell → Option Cell) (ρ : List Slot) (w : W) : Option (List Slot × W) := match ρ[i]? with
  | some (.own c) => (f c).map fun c' => (ρ.set i (.own c'), w)
  | some (.dat (.ptr n)) => (match w[n]? with
    | some c => (f c).map fun c' => (ρ, w.set n c')
    | none => none)
  | _ => none
section
variable {K : PySem.W.Frag} {E : XK} {F H : Hp} {ι : List Addr} {H0 : Hp} {σ : L2.St} {ρ : List Slot}
/-- behind a change -/
theorem chg_ok {F0 : Hp} {ι0 : List Addr} {w : W} {i : Nat} {f : Cell → Option Cell} {ρ' : List Slot} {w' : W} (st : Stp F0 H0 ι0 F H ι) (wd : Wd K F H ι w) (l : Sl K H0 F H ι σ ρ) (e : chg i f ρ w = some (ρ', w')) :
    ∃ p c c', σ[i]? = some (some (.ref p)) ∧ F p = none ∧ CellAt K F H ι p c ∧ f c = some c' ∧ ∀ o, CellAt K F (upd H p o) ι p c' → Rch F0 H0 ι0 F ι F (upd H p o) ι ∧ Wd K F (upd H p o) ι w' ∧ Sl K H0 F (upd H p o) ι σ ρ' := by
  unfold chg at e
  cases q : ρ[i]? with
  | none => rw [q] at e; cases e
  | some t =>
    cases t with
    | non => rw [q] at e; cases e
    | own c =>
      rw [q] at e
      have e : (f c).map (fun c' => (ρ.set i (.own c'), w)) = some (ρ', w') := e
      cases q2 : f c with
      | none => rw [q2] at e; cases e
      | some c' =>
        rw [q2] at e
        cases e
        obtain ⟨p, es, h0, hF, hn, hc⟩ := l.at_ i _ q
        refine ⟨p, c, c', es, hF, hc, q2, fun o ho => ⟨⟨st.poke h0, Ex.refl _, fun _ _ h => h⟩, wd.poke hF hn, ?_⟩⟩
        have keepD : ∀ j t, i ≠ j → ρ[j]? = some t → SlAt K H0 F (upd H p o) ι σ[j]? t := fun j t z e => by
          have y := l.at_ j t e
          cases t with
          | non => trivial
          | dat d => exact y
          | own c2 =>
            obtain ⟨p', y1, y2, y3, y4, y5⟩ := y
            have np : p' ≠ p := fun u => by
              subst u
              exact z (l.sep i j c c2 p' q e es y1)
            exact ⟨p', y1, y2, y3, y4, y5.mono (Ex.refl _) (fun _ _ h => h) fun u hu => by rw [upd_ne np]; exact hu⟩
        have hl : i < ρ.length := (List.getElem?_eq_some_iff.mp q).1
        refine ⟨by simp [l.len], fun j t e => ?_, fun j k c1 c2 p' e1 e2 e3 e4 => ?_⟩
        · by_cases z : i = j
          · subst z
            rw [List.getElem?_set_self hl] at e
            cases e
            exact ⟨p, es, h0, hF, hn, ho⟩
          · rw [List.getElem?_set_ne z] at e
            exact keepD j t z e
        · have own : ∀ (j : Nat) c1, (ρ.set i (Slot.own c'))[j]? = some (Slot.own c1) → ∃ c3, ρ[j]? = some (Slot.own c3) := fun j c1 e => by
            by_cases z : i = j
            · subst z; exact ⟨c, q⟩
            · rw [List.getElem?_set_ne z] at e; exact ⟨c1, e⟩
          obtain ⟨c3, e5⟩ := own j c1 e1
          obtain ⟨c4, e6⟩ := own k c2 e2
          exact l.sep j k c3 c4 p' e5 e6 e3 e4
    | dat d =>
      cases d with
      | ptr n =>
        rw [q] at e
        cases q1 : w[n]? with
        | none => simp only [q1] at e; cases e
        | some c =>
          simp only [q1] at e
          have e : (f c).map (fun c' => (ρ, w.set n c')) = some (ρ', w') := e
          cases q2 : f c with
          | none => rw [q2] at e; cases e
          | some c' =>
            rw [q2] at e
            cases e
            obtain ⟨v, es, r⟩ := l.at_ i _ q
            cases r with
            | @ptr a _ hp =>
            obtain ⟨hF, hc⟩ := wd.cel n a c hp q1
            refine ⟨a, c, c', es, hF, hc, q2, fun o ho => ?_⟩
            have ma : a ∈ ι := List.mem_of_getElem? hp
            have hn : n < w.length := (List.getElem?_eq_some_iff.mp q1).1
            refine ⟨⟨⟨st.ex, fun b u nb hb => ?_, fun b u hb => ?_, st.new, st.ext⟩, Ex.refl _, fun _ _ h => h⟩, ⟨fun b u hb => ?_, by rw [wd.len, List.length_set], wd.nd, fun m b c1 h1 h2 => ?_⟩, ⟨l.len, fun j t e => ?_, l.sep⟩⟩
            · have z : b ≠ a := fun z => by
                subst z
                obtain ⟨more, em, hm⟩ := st.ext
                rw [em] at ma
                rcases List.mem_append.mp ma with y | y
                · exact nb y
                · rw [hm b y] at hb; cases hb
              rw [upd_ne z]
              exact st.keep b u nb hb
            · by_cases z : b = a
              · subst z; exact ⟨o, upd_same⟩
              · rw [upd_ne z]; exact st.kin b u hb
            · rw [upd_ne (ne_of_none hb hF)]; exact wd.ex b u hb
            · by_cases z : n = m
              · subst z
                rw [hp] at h1
                cases h1
                rw [List.getElem?_set_self hn] at h2
                cases h2
                exact ⟨hF, ho⟩
              · rw [List.getElem?_set_ne z] at h2
                obtain ⟨y1, y2⟩ := wd.cel m b c1 h1 h2
                have nb : b ≠ a := fun y => by
                  subst y
                  obtain ⟨g1, g2⟩ := List.getElem?_eq_some_iff.mp hp
                  obtain ⟨g3, g4⟩ := List.getElem?_eq_some_iff.mp h1
                  exact z ((List.getElem_inj wd.nd).mp (g2.trans g4.symm))
                exact ⟨y1, y2.mono (Ex.refl _) (fun _ _ h => h) fun u hu => by rw [upd_ne nb]; exact hu⟩
            · have y := l.at_ j t e
              cases t with
              | non => trivial
              | dat d => exact y
              | own c2 =>
                obtain ⟨p', y1, y2, y3, y4, y5⟩ := y
                have np : p' ≠ a := fun u => by
                  subst u
                  exact y4 ma
                exact ⟨p', y1, y2, y3, y4, y5.mono (Ex.refl _) (fun _ _ h => h) fun u hu => by rw [upd_ne np]; exact hu⟩
      | _ => rw [q] at e; cases e
end
def appF (d : D) : Cell → Option Cell
  | .lst ds => if ds.length < most then some (.lst (ds ++ [d])) else none
  | _ => none
/-- slot i holds a list -/
def lstAt (i : Nat) (ρ : List Slot) (w : W) : Bool := match ρ[i]? with
  | some (.own (.lst _)) => true
  | some (.dat (.ptr n)) => (match w[n]? with
    | some (.lst _) => true
    | _ => false)
  | _ => false
def appS (i : Nat) (s : SemE) : SemS := fun ρ w => if lstAt i ρ w then (s ρ w).out fun x w1 => match x with
  | .dat d => (match chg i (appF d) ρ w1 with
    | some (ρ', w') => .nx ρ' w'
    | none => .stuck)
  | .vw _ => .stuck
  else .stuck
def setF (k : Int) (d : D) : Cell → Option Cell
  | .lst ds => (ixN ds.length k).map fun j => .lst (ds.set j d)
  | _ => none
/-- slot i's thing [k] = e -/
def setIx2 (i : Nat) (ρ : List Slot) (x y : Val) (w : W) : Out := match x, y with
  | .dat d, .dat (.int k) => (match chg i (setF k d) ρ w with
    | some (ρ', w') => .nx ρ' w'
    | none => .stuck)
  | _, _ => .stuck
def setIxS (i : Nat) (s sk : SemE) : SemS := fun ρ w => (s ρ w).out fun x w1 => if lstAt i ρ w1 then (sk ρ w1).out fun y w2 => setIx2 i ρ x y w2 else .stuck
theorem setIx2_ok {K : PySem.W.Frag} {E : XK} {F0 H0 F : Hp} {ι0 ι : List Addr} {D : Ends} {i : Nat} {ρ : List Slot} {x y : Val} {w : W} (o : OutOk K E F0 H0 ι0 F ι D (setIx2 i ρ x y w)) :
    ∃ d k ρ' w', x = .dat d ∧ y = .dat (.int k) ∧ chg i (setF k d) ρ w = some (ρ', w') ∧ OutOk K E F0 H0 ι0 F ι D (.nx ρ' w') := by
  cases x with
  | vw _ => exact False.elim o
  | dat d =>
    cases y with
    | vw _ => exact False.elim o
    | dat y =>
      cases y with
      | int k =>
        unfold setIx2 at o
        cases q2 : chg i (setF k d) ρ w with
        | none => simp only [q2] at o; exact False.elim o
        | some pw =>
          obtain ⟨ρ', w'⟩ := pw
          simp only [q2] at o
          exact ⟨d, k, ρ', w', rfl, rfl, q2, o⟩
      | _ => exact False.elim o
theorem lstAt_ok {K : PySem.W.Frag} {F H H0 : Hp} {ι : List Addr} {w : W} {σ : L2.St} {ρ : List Slot} {i : Nat} (wd : Wd K F H ι w) (l : Sl K H0 F H ι σ ρ) (h : lstAt i ρ w = true) : ∃ p xs, σ[i]? = some (some (.ref p)) ∧ H p = some (.lst xs) := by
  unfold lstAt at h
  split at h
  · rename_i ds q
    obtain ⟨p, es, _, _, _, xs, hx, _⟩ := l.at_ i _ q
    exact ⟨p, xs, es, hx⟩
  · rename_i n q
    split at h
    · rename_i ds q1
      obtain ⟨v, es, r⟩ := l.at_ i _ q
      cases r with
      | @ptr a _ hp =>
      obtain ⟨_, xs, hx, _⟩ := wd.cel n a _ hp q1
      exact ⟨a, xs, es, hx⟩
    · cases h
  · cases h
theorem dsr_app {K : PySem.W.Frag} {E : XK} {te : TE} {s : SemE} (i : Nat) (h : DR K E te s) : DSR K E (tDrop (tBM K "list" rAppend (tVar i) (tCons te tNil))) (appS i s) := by
  intro F0 H0 F H ι0 ι w σ ρ D st wd l o
  unfold appS at o
  by_cases hl : lstAt i ρ w = true
  · rw [if_pos hl] at o
    obtain ⟨p, xs, e1, e2⟩ := lstAt_ok wd l hl
    refine ⟨.ref p, e1, .inl ⟨rfl, xs, SqL.of e2⟩, ?_⟩
    show te σ H fun y H2 => rAppend (.ref p) [y] H2 fun _ H1 => D.nx σ H1
    cases e : s ρ w with
    | stuck => rw [e] at o; exact False.elim o
    | exc x w1 => rw [e] at o; exact h.exc wd l e (XPost.step st o) _
    | ok x w1 =>
      rw [e] at o
      refine h.ok wd l e fun v F1 H1 ι1 s1 d1 r1 => ?_
      cases x with
      | vw c => exact False.elim o
      | dat d =>
        cases q : chg i (appF d) ρ w1 with
        | none => simp only [R.out, q] at o; exact False.elim o
        | some pw =>
          obtain ⟨ρ', w'⟩ := pw
          simp only [R.out, q] at o
          obtain ⟨p', c, c', e3, hF, hc, hf, k⟩ := chg_ok (st.trans s1) d1 (l.mono s1) q
          rw [e1] at e3
          cases e3
          cases c with
          | lst ds =>
            obtain ⟨ys, hy, ra⟩ := hc
            have hf : (if ds.length < most then some (Cell.lst (ds ++ [d])) else none) = some c' := hf
            by_cases hm : ds.length < most
            · rw [if_pos hm] at hf
              cases hf
              obtain ⟨a, b, c⟩ := k (.lst (ys ++ [v])) ⟨_, upd_same, ra.snoc r1⟩
              refine ⟨p, ys, v, rfl, rfl, hy, by rw [ra.length, sizeLine_eq]; exact hm, ?_⟩
              exact o σ F1 _ ι1 (((Rch.now st).step s1).more a) b c
            · rw [if_neg hm] at hf; cases hf
          | dct _ => cases hf
          | obj _ _ => cases hf
          | dead => cases hf
  · rw [if_neg hl] at o; exact False.elim o
theorem ds_app {X : Cx} {E : XK} {x : Str} {a : Expr} {ta : TE} {sa : SemE} {p apos cpos pos : Pos} (i : Nat) (h : DE X E a ta sa) (hN : X.N[i]? = some x := by rfl) (hv : Vis X.env.scope x := by first | exact Or.inl rfl | exact Or.inr (Or.inl rfl) | exact Or.inr (Or.inr rfl)) (hd : (x == ("__debug__" : Str)) = false := by decide)
    (hcd : (x == ("__classdict__" : Str)) = false := by decide) (hbase : attributeBase (.Name x p) "append" X.env (eval (.Name x p) X.env) = eval (.Name x p) X.env := by rfl)
    (hfew : ((backTo cpos (starEach [a] X.env)).all (fun x => !x.1) && (backToKw cpos (keywordEach [] X.env)).all (fun x => x.1.isSome)
      && decide ([a].length + ([] : List Keyword).length + (if ([] : List Keyword).isEmpty then 0 else 1) < 30)) = true := by rfl)
    (hline : (apos.endLine == cpos.line) = true := by rfl) (hs : starEach [a] X.env = (false, eval a X.env) :: starEach [] X.env := by rfl) (hplain : (backTo cpos (starEach [] X.env)).any (·.1) = false := by rfl)
    (hsw : swapsWith (.Call (.Attribute (.Name x p) "append" apos) [a] [] cpos) none pos.line X.env = pure false := by rfl) :
    DS X E (.Expr (.Call (.Attribute (.Name x p) "append" apos) [a] [] cpos) pos) (tDrop (tBM X.K "list" rAppend (tVar i) (tCons ta tNil))) (appS i sa) :=
  ⟨ps_expr (pe_bm PySem.F.plainAttrs_list PySem.F.slot_list_append PySem.F.type_list_append mt_append (pe_var hN hv hd hcd) (pa_cons h.pe pa_nil hs) hbase hfew hline hs hplain) hsw, dsr_app i h.dr⟩
theorem dsr_setIx {K : PySem.W.Frag} {E : XK} {te tk : TE} {s sk : SemE} (i : Nat) (h : DR K E te s) (hk : DR K E tk sk) : DSR K E (tAsg te (gSub (tVar i) tk rSetL)) (setIxS i s sk) := by
  intro F0 H0 F H ι0 ι w σ ρ D st wd l o
  unfold setIxS at o
  show te σ H fun v H1 => gSub (tVar i) tk rSetL v σ H1 D.nx
  cases e : s ρ w with
  | stuck => rw [e] at o; exact False.elim o
  | exc x w1 => rw [e] at o; exact h.exc wd l e (XPost.step st o) _
  | ok x w1 =>
    rw [e] at o
    refine h.ok wd l e fun v F1 H1 ι1 s1 d1 r1 => ?_
    have l1 := l.mono s1
    have o : OutOk K E F0 H0 ι0 F ι D (if lstAt i ρ w1 then (sk ρ w1).out fun y w2 => setIx2 i ρ x y w2 else .stuck) := o
    by_cases hl : lstAt i ρ w1 = true
    · rw [if_pos hl] at o
      obtain ⟨p, xs, hs, _⟩ := lstAt_ok d1 l1 hl
      refine ⟨.ref p, hs, ?_⟩
      cases e2 : sk ρ w1 with
      | stuck => rw [e2] at o; exact False.elim o
      | exc y w2 => rw [e2] at o; exact hk.exc d1 l1 e2 (XPost.step (st.trans s1) o) _
      | ok y w2 =>
        rw [e2] at o
        refine hk.ok d1 l1 e2 fun u F2 H2 ι2 s2 d2 r2 => ?_
        obtain ⟨d, k, ρ', w', rfl, rfl, q2, o⟩ := setIx2_ok o
        obtain ⟨p', c, c', e3, hF, hc, hf, kk⟩ := chg_ok ((st.trans s1).trans s2) d2 (l1.mono s2) q2
        rw [hs] at e3
        cases e3
        have r2' : Rep K F2 ι2 u (.int k) := r2
        cases r2'
        cases c with
        | lst ds =>
          obtain ⟨ys, hy, ra⟩ := hc
          have hf : (ixN ds.length k).map (fun j => Cell.lst (ds.set j d)) = some c' := hf
          cases q4 : ixN ds.length k with
          | none => rw [q4] at hf; cases hf
          | some j =>
            rw [q4] at hf
            cases hf
            have r1' : Rep K F2 ι2 v d := Rep.mono s2.ex s2.ix r1
            obtain ⟨a, b, c⟩ := kk (.lst (ys.set j v)) ⟨_, upd_same, ra.set r1'⟩
            exact ⟨p, ys, k, j, rfl, rfl, hy, by rw [ra.length]; exact q4, o σ F2 _ ι2 ((((Rch.now st).step s1).step s2).more a) b c⟩
        | dct _ => cases hf
        | obj _ _ => cases hf
        | dead => cases hf
    · rw [if_neg hl] at o; exact False.elim o
theorem ds_setIx {X : Cx} {E : XK} {x : Str} {a k : Expr} {ta tk : TE} {sa sk : SemE} {p p2 pos : Pos} (i : Nat) (h : DE X E a ta sa) (hk : DE X E k tk sk) (hN : X.N[i]? = some x := by rfl) (hv : Vis X.env.scope x := by first | exact Or.inl rfl | exact Or.inr (Or.inl rfl) | exact Or.inr (Or.inr rfl)) (hd : (x == ("__debug__" : Str)) = false := by decide)
    (hcd : (x == ("__classdict__" : Str)) = false := by decide)
    (hs : swapsWithSole [.Subscript (.Name x p) k p2] a pos.line X.env = pure false := by rfl) (hw : swappedStores [.Subscript (.Name x p) k p2] a X.env = pure none := by rfl)
    (h1 : (assignEach [.Subscript (.Name x p) k p2] X.env).map (·.2) = [assign (.Subscript (.Name x p) k p2) X.env] := by rfl) (hg : PG X (.Subscript (.Name x p) k p2) (gSub (tVar i) tk rSetL)) :
    DS X E (.Assign [.Subscript (.Name x p) k p2] a pos) (tAsg ta (gSub (tVar i) tk rSetL)) (setIxS i sa sk) := ⟨ps_asg h.pe hg hs hw h1, dsr_setIx i h.dr hk.dr⟩
/-! ### a changing thing is handed back -/
def newW (s : SemO2) : SemS := fun ρ w => (s ρ w).out fun x w1 => match x with
  | .own c => .rt (.ptr w1.length) (w1 ++ [c])
  | _ => .stuck
theorem ds_retNew {X : Cx} {E : XK} {e : Expr} {te : TE} {so : SemO2} {pos : Pos} (h : DEo X E e te so) : DS X E (.Return (some e) pos) (tRet te) (newW so) := ⟨ps_ret h.pe, by
  intro F0 H0 F H ι0 ι w σ ρ D st wd l o
  have hh := h.dr H0 F H ι w σ ρ wd l
  unfold newW at o
  cases q : so ρ w with
  | stuck => rw [q] at o; exact False.elim o
  | exc x w1 => rw [q] at o hh; exact hh (XPost.step st o) _
  | ok x w1 =>
    rw [q] at o hh
    refine hh _ fun v F1 H1 ι1 s1 d1 r1 => ?_
    cases x with
    | non => exact False.elim o
    | dat d => exact False.elim o
    | own c =>
      obtain ⟨p, rfl, hB, hF, hn, hc⟩ := r1
      have hx : ∀ (n : Nat) a, ι1[n]? = some a → (ι1 ++ [p])[n]? = some a := fun n a h => by
        rw [List.getElem?_append_left (List.getElem?_eq_some_iff.mp h).1]; exact h
      have h0 : H0 p = none := by
        cases z : H0 p with
        | none => rfl
        | some u =>
          obtain ⟨_, y⟩ := st.kin p u z
          rw [hB] at y; cases y
      have st1 := st.trans s1
      have cm : ∀ a c, CellAt X.K F1 H1 ι1 a c → CellAt X.K F1 H1 (ι1 ++ [p]) a c := fun a c h => h.mono (Ex.refl _) hx fun _ h => h
      refine o (.ref p) F1 H1 (ι1 ++ [p]) ⟨⟨st1.ex, st1.keep, st1.kin, st1.new, ?_⟩, s1.ex, fun n a h => hx n a (s1.ix n a h)⟩ ⟨d1.ex, by simp [d1.len], ?_, fun n a c' e1 e2 => ?_⟩ (.ptr (by rw [← d1.len]; simp))
      · obtain ⟨m, rfl, hm⟩ := st1.ext
        refine ⟨m ++ [p], by simp, fun a ha => ?_⟩
        rcases List.mem_append.mp ha with y | y
        · exact hm a y
        · rw [List.mem_singleton.mp y]; exact h0
      · exact List.nodup_append.mpr ⟨d1.nd, by simp, fun a ha b hb => by
          rw [List.mem_singleton.mp hb]
          intro z
          subst z
          exact hn ha⟩
      · by_cases hlt : n < ι1.length
        · rw [List.getElem?_append_left hlt] at e1
          rw [List.getElem?_append_left (by rw [← d1.len]; exact hlt)] at e2
          obtain ⟨y1, y2⟩ := d1.cel n a c' e1 e2
          exact ⟨y1, cm _ _ y2⟩
        · rw [List.getElem?_append_right (by omega)] at e1
          rw [List.getElem?_append_right (by rw [← d1.len]; omega)] at e2
          rw [← d1.len] at e2
          cases hz : n - ι1.length with
          | zero =>
            rw [hz] at e1 e2
            cases e1
            cases e2
            exact ⟨hF, cm _ _ hc⟩
          | succ k => rw [hz] at e1; simp at e1⟩
end DL

/-! Defs called where nothing is being shown (repr asks that); repr; texts; a law's end. -/
namespace DL
open PySem PySem.Spec PyProof.Rows L2

/-- a def keeps its promise wherever no repr runs around it -/
structure GOk (P : Program) (w : World) (K : PySem.W.Frag) (mg : Str → Option Value) (base : Heap) (k : Nat) (f : Addr) (fd : FuncData) (ps : List Str) (sp : Sp) : Prop where
  len : ∀ vs H Q E, sp vs H Q E → vs.length = ps.length
  run : ∀ (A : Around) (outer : List Env) (s : Shared) (H : Hp) (args : Args) (us : List Value) (vs : List V) (Q : VK) (E : XK),
    A.guards = some [] → Room k A → Env0 P w K mg base A outer s H → BindsTo s fd args (ps.zip us) → Vals vs us → sp vs H Q E →
    codeAny (model P w) A (.call (.ref f) args) (L2.CR (L2.CX P w) outer P w H s Q E) s
theorem GOk.of {P : Program} {w : World} {K : PySem.W.Frag} {mg : Str → Option Value} {base : Heap} {k : Nat} {f : Addr} {fd : FuncData} {ps : List Str} {sp : Sp} (F : FnOk P w K mg base (L2.CX P w) k f fd ps sp) : GOk P w K mg base k f fd ps sp :=
  ⟨F.len, fun A outer s H args us vs Q E _ => F.run A outer s H args us vs Q E⟩
section
variable {X : Cx} {k : Nat} {f : Addr} {fd : FuncData} {ps : List Str} {sp : Sp} {E : XK} {x : Str} {p pos : Pos} {e : Expr} {es : List Expr} {t : TA}
theorem pe_gcall (G : GOk X.prog X.w X.K X.mg X.base k f fd ps sp) (hG : X.A.guards = some []) (hr : Room k X.A) (hg : Gl X x) (hm : X.mg x = some (.ref f)) (hk : PySem.W.keepIn X.K (.ref f) = true)
    (hb : Binds X.K fd ps []) (hx : Passes (L2.CX X.prog X.w) X E) (ha : PA X (e :: es) t) (hdb : (x == ("__debug__" : Str)) = false := by decide)
    (he : starEach (e :: es) X.env = (false, eval e X.env) :: starEach es X.env := by rfl) (hpl : (backTo pos (starEach es X.env)).any (·.1) = false := by rfl) : PE X (.Call (.Name x p) (e :: es) [] pos) (tCall sp [] E t) := by
  refine ⟨fun pn st σ H Q J hw => wpAny_Call_Name_kw (ld_glob J hg hm ?_ hdb)⟩
  refine PySem.W.callWith_K (h₀ := X.base) J.ok.mod.kin hk ?_ he hpl
  refine thn (ha.run pos pn st σ H _ J hw) fun us z ⟨vs, H1, J1, rv, q⟩ => ⟨J1.kIn, ?_⟩
  have q : sp vs H1 Q E := by
    have q' : sp (vs ++ []) H1 Q E := q
    rw [List.append_nil] at q'
    exact q'
  have hl : us.length = ps.length := by rw [← rv.length]; exact G.len _ _ _ _ q
  have hbd := hb z us J1.kIn (by rw [List.append_nil]; exact hl)
  rw [List.append_nil] at hbd
  refine wpAny_call (codeAny_mono (G.run X.A X.stack z H1 ⟨us, []⟩ us vs Q E hG hr J1.env0 hbd rv q) fun r z2 hz => ?_)
  cases r with
  | error er => exact hx pn σ H1 z er z2 J1 hz
  | ok fl =>
    cases fl with
    | ret u => exact J1.after hz
    | _ => exact hz.elim
end
/-- a def by its body, where no repr runs -/
theorem gn_of {P : Program} {w : World} {K : PySem.W.Frag} {mg : Str → Option Value} {base : Heap} {k : Nat} {f : Addr} {name qual : Str} {params : Arguments} {body : List Stmt} {scope : Scope} {dV kV doc pm cdv ct oc : Value} {an od : Option Addr}
    {osl : Array (Option Value)} {N ps : List Str} {sp : Sp} (lk : K.lookup f = some ⟨oc, od, .func (PySem.W.fnOf name qual params body scope dV kV doc pm an cdv ct), osl⟩) (hcd : PySem.W.codeIn K cdv qual = true)
    (S : FnScope N ps scope) (len : ∀ vs H Q E, sp vs H Q E → vs.length = ps.length)
    (hbody : ∀ (A : Around) (outer : List Env) (s : Shared) (H : Hp) (vs : List V) (Q : VK) (E : XK), A.guards = some [] → Room k (A.deeper (envOfC qual scope s.heap.objs.size f cdv)) → sp vs H Q E →
      ∃ t, PSs (cxOf (L2.CX P w) P w K mg base N qual scope f cdv A outer s H E) body t ∧ t { nx := fun _ H' => Q .non H', rt := Q } (L2.start N vs) H) :
    GOk P w K mg base (k + 1) f (PySem.W.fnOf name qual params body scope dV kV doc pm an cdv ct) ps sp := by
  refine ⟨len, fun A outer st H args us vs Q E hG hr e0 hb rv hs => ?_⟩
  have KX : K.In st.heap := e0.mod.kin.keeps fun b o q => (e0.bs b o q).1
  have nl : st.heap.NoLimit := e0.mod.nolimit.keeps fun b o q => (e0.bs b o q).1
  refine codeAny_call_function hr.depth (KX _ _ lk) rfl S.co S.gen rfl (PySem.W.codeRec_of KX hcd) (hb _ _ _ _ ?_)
  refine wpAny_newFunctionEnv_cells S.kind ?_ fun env he z hz => ?_
  · rintro ⟨n, v⟩ hy
    refine (S.par n (List.of_mem_zip hy).1).imp_right fun q => ⟨q, PySem.W.cellsFrom_some _ _ _ (.inl q)⟩
  · subst he
    refine ⟨nl.keeps hz.toInCall.keep, codeAny_func ?_⟩
    obtain ⟨t, ht, hq⟩ := hbody A outer st H vs Q E hG (hr.deeper _) hs
    have J : Inv (cxOf (L2.CX P w) P w K mg base N qual scope f cdv A outer st H E) [] (L2.start N vs) H z := inv_start S hr.hd e0 (len _ _ _ _ hs) rv hz
    refine wpAny_mono (ht.run [] z (L2.start N vs) H _ J hq) (fun fl y hy => ?_) fun er y hy => hy
    cases fl with
    | ret u =>
      obtain ⟨v, σ', H', J', r', q⟩ := hy
      exact ⟨v, H', J'.os, J'.bare, J'.base, J'.hok, r', q⟩
    | next =>
      obtain ⟨σ', H', J', q⟩ := hy
      exact ⟨.non, H', J'.os, J'.bare, J'.base, J'.hok, rfl, q⟩
    | brk => obtain ⟨_, _, _, q⟩ := hy; exact q.elim
    | cont => obtain ⟨_, _, _, q⟩ := hy; exact q.elim
/-! ### repr of plain data -/
def rRepr (K : PySem.W.Frag) : List V → Hp → VK → Prop := fun xs H Q => ∃ v d, xs = [v] ∧ Dp K H v d ∧ (∀ b, d ≠ .bool b) ∧ d ≠ .none ∧ (∀ i, d ≠ .int i) ∧ (∀ x, d ≠ .str x) ∧ d.showable = true ∧ d.hasDict = false ∧ d.depth ≤ 60 ∧ d.shown.length ≤ sizeLine ∧ Q (.str d.shown) H
theorem call_reprD {X : Cx} (hG : X.A.guards = some []) (hu : X.A.units + 64 < cLine) : CallR X (.builtin "repr") (rRepr X.K) := by
  intro pins s σ H xs us Q I r h
  obtain ⟨v, d, rfl, hd, n1, n2, n3, n4, h1, h2, h3, h4, q⟩ := h
  obtain ⟨u, rfl, ru⟩ := vals1 r
  obtain ⟨as, hr⟩ := Dp.reads I d v u hd ru
  cases hd with
  | non => exact absurd rfl n2
  | bl b => exact absurd rfl (n1 b)
  | int i => exact absurd rfl (n3 i)
  | str z => exact absurd rfl (n4 z)
  | lst _ _ =>
    cases ru
    exact repr_of_reads' hr h1 (by rw [h2]; intro z; cases z) hG (by omega) (fun _ _ e => e) (fun h' z tk kp => ⟨.str _, H, I.kept kp, ⟨_, rfl⟩, q⟩) h4
  | tup _ _ =>
    cases ru
    exact repr_of_reads' hr h1 (by rw [h2]; intro z; cases z) hG (by omega) (fun _ _ e => e) (fun h' z tk kp => ⟨.str _, H, I.kept kp, ⟨_, rfl⟩, q⟩) h4
def isSeqD : D → Bool
  | .lst _ => true
  | .tup _ => true
  | _ => false
def reprF (d : D) : Option D := if isSeqD d then (match toPy d with
  | some p => if p.showable && !p.hasDict && decide (p.depth ≤ 60) && decide (p.shown.length ≤ most) then some (.str p.shown) else none
  | none => none) else none
theorem rel_repr {K : PySem.W.Frag} : RelC1 K (rRepr K) reprF := by
  intro F H ι w v x z wd rx e Q q
  unfold reprF at e
  by_cases hs : isSeqD x = true
  · rw [if_pos hs] at e
    cases h : toPy x with
    | none => rw [h] at e; cases e
    | some p =>
      rw [h] at e
      by_cases hc : (p.showable && !p.hasDict && decide (p.depth ≤ 60) && decide (p.shown.length ≤ most)) = true
      · simp only [hc, if_true] at e
        cases e
        simp only [Bool.and_eq_true, Bool.not_eq_true', decide_eq_true_eq] at hc
        obtain ⟨⟨⟨c1, c2⟩, c3⟩, c4⟩ := hc
        have hd := rx.dp wd.ex h
        have shape : (∀ b, p ≠ .bool b) ∧ p ≠ .none ∧ (∀ i, p ≠ .int i) ∧ (∀ x, p ≠ .str x) := by
          cases x with
          | lst ds =>
            unfold toPy at h
            cases q2 : toPyA ds with
            | none => rw [q2] at h; cases h
            | some ps => rw [q2] at h; cases h; exact ⟨fun _ => nofun, nofun, fun _ => nofun, fun _ => nofun⟩
          | tup ds =>
            unfold toPy at h
            cases q2 : toPyA ds with
            | none => rw [q2] at h; cases h
            | some ps => rw [q2] at h; cases h; exact ⟨fun _ => nofun, nofun, fun _ => nofun, fun _ => nofun⟩
          | _ => cases hs
        exact ⟨v, p, rfl, hd, shape.1, shape.2.1, shape.2.2.1, shape.2.2.2, c1, c2, c3, most_le c4, okv_now q wd (Rep.str _)⟩
      · simp only [hc, if_false] at e
        cases e
  · rw [if_neg hs] at e; cases e
end DL

/-! Texts, a def with a star, own errors raised and caught. -/
namespace DL
open PySem PySem.Spec PyProof.Rows L2

section
variable {K : PySem.W.Frag}
/-! ### more operators -/
def isBD : D → D → Option D
  | .bl a, .bl b => some (.bl (decide (a = b)))
  | _, _ => none
theorem rel_isB : RelOp K rIsB isBD := by
  intro F H ι w vx vy x y z wd rx ry e Q q
  unfold isBD at e
  split at e
  · cases rx; cases ry; cases e
    exact ⟨_, _, rfl, rfl, okv_flat wd q (.bl _)⟩
  · cases e
def negF : D → Option D
  | .int i => some (.int (-i))
  | _ => none
theorem de_neg {X : Cx} {E : XK} {a : Expr} {ta : TE} {sa : SemE} {pos : Pos} (ha : DE X E a ta sa) : DE X E (.UnaryOp .USub a pos) (tUn (rU fun i => .int (-i)) ta) (un negF sa) := ⟨pe_un un_neg ha.pe,
  dr_un (k := fun v _ H Q => rU (fun i => .int (-i)) v H Q) ha.dr (fun _ _ _ q => q) fun F H ι w _ v x z d rx e Q q => by
    unfold negF at e
    split at e
    · cases rx; cases e
      exact ⟨_, rfl, okv_flat d q (.int _)⟩
    · cases e⟩
/-! ### texts -/
def splitD : D → D → Option D
  | .str a, .str b => if b.length ≠ 0 ∧ a.length + 2 ≤ most then some (.lst ((Txt.split a b).map .str)) else none
  | _, _ => none
def rSplitD : V → List V → Hp → VK → Prop := fun x xs H Q => ∃ a b, x = .str a ∧ xs = [.str b] ∧ (b.length == 0) = false ∧ a.length + 2 ≤ sizeLine ∧ rNewStrs (Txt.split a b) H Q
theorem RepA.strs {F : Hp} {ι : List Addr} : ∀ ns : List Str, RepA K F ι (ns.map V.str) (ns.map D.str)
  | [] => .nil
  | n :: r => .cons (.str n) (RepA.strs r)
theorem dr_m1 {E : XK} {r : V → List V → Hp → VK → Prop} {g : D → D → Option D} {to te : TE} {so se : SemE} (hs : ∀ x y z, g x y = some z → ∃ a, x = .str a) (hr : ∀ F H ι (w : W) vx vy x y z, Wd K F H ι w → RepS K F H ι vx x → RepS K F H ι vy y → g x y = some z → ∀ Q : VK, OkV K F H ι (.dat z) w Q → r vx [vy] H Q)
    (ho : DR K E to so) (he : DR K E te se) (hstr : ∀ ρ w x w1, so ρ w = .ok x w1 → ∃ a, x = .dat (.str a)) : DR K E (tM1 r to te) (bin g so se) := by
  intro H0 F H ι w σ ρ d l
  unfold bin
  cases e : so ρ w with
  | stuck => trivial
  | exc x w1 => exact fun q Q => ho.exc d l e q _
  | ok x w1 =>
    obtain ⟨a, rfl⟩ := hstr ρ w x w1 e
    show Meets _ _ ((se ρ w1).bind _)
    cases e2 : se ρ w1 with
    | stuck => trivial
    | exc y w2 =>
      intro q Q
      refine ho.ok d l e fun v F1 H1 ι1 s1 d1 r1 => ?_
      have r1 : Rep K F1 ι1 v (.str a) := r1
      cases r1
      exact ⟨⟨a, rfl⟩, he.exc d1 (l.mono s1) e2 (q.step s1) _⟩
    | ok y w2 =>
      show Meets _ _ (op2 g (.dat (.str a)) y w2)
      unfold op2
      cases e3 : y.d w2 with
      | none => trivial
      | some b =>
        show Meets _ _ (match g (.str a) b with | some z => (.ok (.dat z) w2 : R Val) | none => .stuck)
        cases e4 : g (.str a) b with
        | none => trivial
        | some z =>
          refine fun Q q => ho.ok d l e fun v F1 H1 ι1 s1 d1 r1 => ?_
          have r1 : Rep K F1 ι1 v (.str a) := r1
          cases r1
          refine ⟨⟨a, rfl⟩, he.ok d1 (l.mono s1) e2 fun u F2 H2 ι2 s2 d2 r2 => ?_⟩
          exact hr F2 H2 ι2 w2 _ u (.str a) b z d2 (Rep.str a) (r2.toS d2 e3) e4 Q (OkV.step (s1.trans s2) q)
/-- the receiver must be a text -/
def strE (s : SemE) : SemE := fun ρ w => (s ρ w).bind fun x w1 => match x with
  | .dat (.str a) => .ok (.dat (.str a)) w1
  | _ => .stuck
theorem dr_str {E : XK} {te : TE} {s : SemE} (h : DR K E te s) : DR K E te (strE s) := by
  intro H0 F H ι w σ ρ d l
  unfold strE
  cases e : s ρ w with
  | stuck => trivial
  | exc x w1 => exact fun q Q => h.exc d l e q _
  | ok x w1 =>
    cases x with
    | vw _ => trivial
    | dat y =>
      cases y with
      | str a => exact fun Q q => h.ok d l e q
      | _ => trivial
theorem strE_str (s : SemE) : ∀ ρ w x w1, strE s ρ w = .ok x w1 → ∃ a, x = .dat (.str a) := by
  intro ρ w x w1 q
  unfold strE at q
  cases e : s ρ w with
  | stuck => rw [e] at q; cases q
  | exc _ _ => rw [e] at q; cases q
  | ok y w2 =>
    rw [e] at q
    cases y with
    | vw _ => cases q
    | dat y =>
      cases y with
      | str a => cases q; exact ⟨a, rfl⟩
      | _ => cases q
def toStr : D → Option Str
  | .str x => some x
  | _ => none
def toStrs : List D → Option (List Str)
  | [] => some []
  | d :: r => match toStr d, toStrs r with
    | some v, some vs => some (v :: vs)
    | _, _ => none
theorem toStrs_ok {F : Hp} {ι : List Addr} : ∀ {ds : List D} {vs : List V} {us : List Str}, RepA K F ι vs ds → toStrs ds = some us → vs = us.map V.str
  | [], _, _, r, e => by cases r; cases e; rfl
  | d :: ds, _, _, r, e => by
    cases r with
    | cons h r =>
      unfold toStrs at e
      cases q1 : toStr d with
      | none => rw [q1] at e; cases e
      | some a =>
        cases q2 : toStrs ds with
        | none => rw [q1, q2] at e; cases e
        | some b =>
          rw [q1, q2] at e; cases e
          have := toStrs_ok r q2
          subst this
          cases d with
          | str x => cases q1; cases h; rfl
          | _ => cases q1
def seqStrs : D → Option (List Str)
  | .lst ds => toStrs ds
  | .tup ds => toStrs ds
  | _ => none
def joinD : D → D → Option D
  | .str a, y => (match seqStrs y with
    | some ys => if (ys.map (·.length)).sum + ys.length * a.length ≤ most then some (.str (Txt.join a ys)) else none
    | none => none)
  | _, _ => none
end
section
variable {X : Cx} {E : XK} {o e : Expr} {to te : TE} {so se : SemE} {apos pos : Pos}
theorem de_split (ho : DE X E o to so) (he : DE X E e te se) (hs : starEach [e] X.env = [(false, eval e X.env)] := by rfl) (hbase : attributeBase o "split" X.env (eval o X.env) = eval o X.env := by rfl) (hline : (apos.endLine == pos.line) = true := by rfl) :
    DE X E (.Call (.Attribute o "split" apos) [e] [] pos) (tM1 rSplitD to te) (bin splitD (strE so) se) := ⟨pe_split ho.pe he.pe hs hbase hline,
  dr_m1 (fun x y z h => by unfold splitD at h; split at h; exact ⟨_, rfl⟩; cases h) (fun F H ι w vx vy x y z wd rx ry h Q q => by
    unfold splitD at h
    split at h
    · cases rx; cases ry
      split at h
      · rename_i hc
        cases h
        refine ⟨_, _, rfl, rfl, by simpa using hc.1, most_le hc.2, fun p hp => okv_new wd q hp (.lst upd_same (RepA.strs _))⟩
      · cases h
    · cases h) (dr_str ho.dr) he.dr (strE_str so)⟩
theorem de_join (ho : DE X E o to so) (he : DE X E e te se) (hs : starEach [e] X.env = [(false, eval e X.env)] := by rfl) (hbase : attributeBase o "join" X.env (eval o X.env) = eval o X.env := by rfl) (hline : (apos.endLine == pos.line) = true := by rfl) :
    DE X E (.Call (.Attribute o "join" apos) [e] [] pos) (tM1 (fun x xs H Q => ∃ a p, ∃ ys : List Str, x = .str a ∧ xs = [.ref p] ∧ (SqL X.K H p (ys.map V.str) ∨ SqT X.K H p (ys.map V.str)) ∧
      (ys.map (·.length)).sum + ys.length * a.length ≤ 16777216 ∧ Q (.str (Txt.join a ys)) H) to te) (bin joinD (strE so) se) := ⟨pe_join ho.pe he.pe hs hbase hline,
  dr_m1 (fun x y z h => by unfold joinD at h; split at h; exact ⟨_, rfl⟩; cases h) (fun F H ι w vx vy x y z wd rx ry h Q q => by
    unfold joinD at h
    split at h
    · rename_i a y'
      cases rx
      cases hm : seqStrs y with
      | none => simp only [hm] at h; cases h
      | some ys =>
        simp only [hm] at h
        split at h
        · rename_i hc
          cases h
          cases y with
          | lst ds =>
            obtain ⟨p, xs, rfl, hx, r⟩ := ry
            have := toStrs_ok r hm
            subst this
            exact ⟨_, p, ys, rfl, rfl, .inl (SqL.of hx), hc, okv_now q wd (Rep.str _)⟩
          | tup ds =>
            cases ry with
            | tup hx r =>
            have z := toStrs_ok r hm
            subst z
            exact ⟨_, _, ys, rfl, rfl, .inr (ex_t wd.ex hx), hc, okv_now q wd (Rep.str _)⟩
          | _ => cases hm
        · cases h
    · cases h) (dr_str ho.dr) he.dr (strE_str so)⟩
end
section
variable {X : Cx} {E : XK} {pos : Pos}
/-- a, b, c = x, y, z -/
theorem ds_par3 {i j l : Nat} {x y z : Str} {a b c : Expr} {ta : TA} {sa : SemA} {px py pz pt : Pos} {kt k2 pt2} (hN : X.N.Nodup) (ha : DA X E [a, b, c] ta sa) (hc : X.calm = true := by rfl) (hi : X.N[i]? = some x := by rfl) (hj : X.N[j]? = some y := by rfl) (hl : X.N[l]? = some z := by rfl) (hij : i ≠ j := by decide) (hil : i ≠ l := by decide) (hjl : j ≠ l := by decide)
    (hx : X.env.scope.names.lookup x = some .local := by rfl) (hy : X.env.scope.names.lookup y = some .local := by rfl) (hz : X.env.scope.names.lookup z = some .local := by rfl)
    (hw : swappedStores [.Tuple [.Name x px, .Name y py, .Name z pz] kt pt] (.Tuple [a, b, c] k2 pt2) X.env = pure (some [x, y, z]) := by rfl)
    (hs : swapsWithSole [.Tuple [.Name x px, .Name y py, .Name z pz] kt pt] (.Tuple [a, b, c] k2 pt2) pos.line X.env = pure false := by rfl) :
    DS X E (.Assign [.Tuple [.Name x px, .Name y py, .Name z pz] kt pt] (.Tuple [a, b, c] k2 pt2) pos) (tPar3 i j l ta) (setsS [i, j, l] sa) := ⟨ps_par3 hc hN hi hj hl hij hil hjl hx hy hz ha.pa hw hs, by
  refine dsr_args (f := fun ds ρ w1 => if ds.length = ([i, j, l] : List Nat).length then .nx ((([i, j, l] : List Nat).zip ds).foldl (fun ρ p => ρ.set p.1 (.dat p.2)) ρ) w1 else .stuck) (k := fun D vs σ H1 => tPar3 i j l (fun _ H Q => Q vs H) D σ H1) ha.dr (fun _ _ _ q => q) ?_
  intro F0 H0 F H ι0 ι w σ ρ D v x st wd l r o
  cases r with
  | nil => exact False.elim o
  | cons r1 r =>
    cases r with
    | nil => exact False.elim (by simpa [OutOk] using o)
    | cons r2 r =>
      cases r with
      | nil => exact False.elim (by simpa [OutOk] using o)
      | cons r3 r =>
        cases r with
        | nil => exact ⟨_, _, _, rfl, o _ F H ι (Rch.now st) wd (((l.set r1).set r2).set r3)⟩
        | cons _ _ => exact False.elim (by simpa [OutOk] using o)⟩
end
/-! ### a def with a star -/
def SpecN (K : PySem.W.Frag) (f : Sem) : Sp := fun vs H Q E => ∃ F ι w ds, Wd K F H ι w ∧ RepA K F ι vs ds ∧ ds.length ≤ most ∧ match f ds w with
  | .ok d w' => OkV K F H ι (.dat d) w' Q
  | .exc x w' => XPost K E F H ι x w'
  | .stuck => False
theorem fn_starD {P : Program} {w : World} {K : PySem.W.Frag} {mg : Str → Option Value} {base : Heap} {k : Nat} {f : Addr} {name qual : Str} {params : Arguments} {body : List Stmt} {scope : Scope} {dV kV doc pm cdv ct oc : Value} {an od : Option Addr}
    {osl : Array (Option Value)} {N : List Str} {pv : Str} {s : SemS} (lk : K.lookup f = some ⟨oc, od, .func (PySem.W.fnOf name qual params body scope dV kV doc pm an cdv ct), osl⟩) (hcd : PySem.W.codeIn K cdv qual = true) (S : FnScope N [pv] scope)
    (hb : ∀ rest : List Value, bindArgs (PySem.W.fnOf name qual params body scope dV kV doc pm an cdv ct) ⟨rest, []⟩ = (newTuple rest >>= fun t => pure [(pv, t)]))
    (hbody : ∀ (A : Around) (outer : List Env) (st : Shared) (H : Hp) (E : XK), Room k (A.deeper (envOfC qual scope st.heap.objs.size f cdv)) → ∃ t, DSs (cxOf (L2.CX P w) P w K mg base N qual scope f cdv A outer st H E) E body t s) :
    FnR P w K mg base (L2.CX P w) (k + 1) f (SpecN K (fun ds w => runD N.length s [.tup ds] w)) := by
  refine (StX.fn_star (ps := []) (sp := Spec K 1 (runD N.length s)) lk hcd S StX.cxUp (fun us rest hl => ?_) (fun A outer st H vs Q E hr hs => ?_)).imp fun vs H Q E h => ?_
  · cases us with
    | nil => exact hb rest
    | cons _ _ => cases hl
  · obtain ⟨t, ht⟩ := hbody A outer st H E hr
    exact ⟨t, ht.ps, body_ok ht.dr hs⟩
  · obtain ⟨F, ι, w1, ds, wd, r, hm, o⟩ := h
    refine ⟨[], vs, rfl, rfl, by rw [r.length]; exact most_le hm, fun p hp => ?_⟩
    refine ⟨upd F p (.tup vs), ι, w1, [.tup ds], wd.fresh hp, .cons (.tup (SqT.of upd_same) (r.up wd hp)) .nil, rfl, ?_⟩
    have st : Stp F H ι (upd F p (.tup vs)) (upd H p (.tup vs)) ι := Stp.fresh hp (wd.free hp)
    cases q : runD N.length s [.tup ds] w1 with
    | ok d w2 => simp only [q] at o ⊢; exact OkV.step st o
    | exc x w2 => simp only [q] at o ⊢; exact XPost.step st o
    | stuck => simp only [q] at o
theorem dr_callN {K : PySem.W.Frag} {E : XK} {ta : TA} {sa : SemA} {g : Sem} {n : Nat} (ha : DRA K E ta sa) (hl : ∀ ρ w ds w1, sa ρ w = .ok ds w1 → ds.length = n) (hn : n ≤ most) : DR K E (fun σ H Q => ta σ H fun vs H1 => SpecN K g vs H1 Q E) (callE g sa) := by
  intro H0 F H ι w σ ρ d l
  unfold callE
  cases e : sa ρ w with
  | stuck => trivial
  | exc y w1 => exact fun q Q => ha.exc d l e q _
  | ok ds w1 =>
    show Meets _ _ ((g ds w1).bind _)
    cases e2 : g ds w1 with
    | stuck => trivial
    | exc y w2 => exact fun q Q => ha.ok d l e fun vs F1 H1 ι1 s1 d1 r1 => ⟨F1, ι1, w1, ds, d1, r1, by rw [hl ρ w ds w1 e]; exact hn, by rw [e2]; exact q.step s1⟩
    | ok z w2 => exact fun Q q => ha.ok d l e fun vs F1 H1 ι1 s1 d1 r1 => ⟨F1, ι1, w1, ds, d1, r1, by rw [hl ρ w ds w1 e]; exact hn, by rw [e2]; exact OkV.step s1 q⟩
theorem de_callN {X : Cx} {E : XK} {e : Expr} {es : List Expr} {ta : TA} {sa : SemA} {pos p : Pos} {x : Str} {k n : Nat} {f : Addr} {g : Sem} (G : FnR X.prog X.w X.K X.mg X.base (L2.CX X.prog X.w) k f (SpecN X.K g)) (hr : Room k X.A) (hm : X.mg x = some (.ref f)) (hk : PySem.W.keepIn X.K (.ref f) = true) (hx : Passes (L2.CX X.prog X.w) X E)
    (ha : DA X E (e :: es) ta sa) (hl : ∀ ρ w ds w1, sa ρ w = .ok ds w1 → ds.length = n) (hn : n ≤ most := by decide) (hg : Gl X x := by rfl) (hdb : (x == ("__debug__" : Str)) = false := by decide)
    (he : starEach (e :: es) X.env = (false, eval e X.env) :: starEach es X.env := by rfl) (hpl : (backTo pos (starEach es X.env)).any (·.1) = false := by rfl) :
    DE X E (.Call (.Name x p) (e :: es) [] pos) (fun σ H Q => ta σ H fun vs H1 => SpecN X.K g vs H1 Q E) (callE g sa) := ⟨⟨fun pn st σ H Q J hw => by
  refine wpAny_Call_Name_kw (ld_glob J hg hm ?_ hdb)
  refine PySem.W.callWith_K (h₀ := X.base) J.ok.mod.kin hk ?_ he hpl
  refine thn (ha.pa.run pos pn st σ H _ J hw) fun us z ⟨vs, H1, J1, rv, q⟩ => ⟨J1.kIn, ?_⟩
  exact wpAny_call (run_fnR G hr hx J1 rv q)⟩, dr_callN ha.dr hl hn⟩
end DL

/-! Own errors: made, raised, caught by a name. -/
namespace DL
open PySem PySem.Spec PyProof.Rows L2

/-- __init__ of an own error: it stores its arguments under these names -/
def spInit (C : Addr) (names : List Str) : Sp := fun vs H Q _ => ∃ (a : Addr) (ws : List V), vs = .ref a :: ws ∧ ws.length = names.length ∧ H a = some (exo a C none) ∧
  ∀ (d : Addr) (H' : Hp), H d = none → H' a = some (exo a C (some d)) → H' d = some (exd d (names.zip ws).reverse) → (∀ b, b ≠ a → b ≠ d → H' b = H b) → Q .non H'
theorem spInit.len {C : Addr} {names : List Str} {vs : List V} {H : Hp} {Q : VK} {E : XK} (h : spInit C names vs H Q E) : vs.length = names.length + 1 := by
  obtain ⟨a, ws, rfl, hl, _⟩ := h
  simp [hl]
section
variable {P : Program} {w : World} {K : PySem.W.Frag} {mg : Str → Option Value} {base : Heap} {k : Nat}
/-- one field, two fields -/
theorem init1_ok {N : List Str} {C : Addr} {f : Str} {vs : List V} {H : Hp} {Q : VK} {E : XK} (T : OexC K C) (h1 : PySem.W.findIn K (.ref C) f = some none) (sp : spInit C [f] vs H Q E) :
    tSeq (tOst K f (tVar 0) (tVar 1)) tNext { nx := fun _ H' => Q .non H', rt := Q } (L2.start ["self", N.headD "x"] vs) H := by
  obtain ⟨a, ws, rfl, hl, ha, q⟩ := sp
  match ws, hl with
  | [v], _ =>
    refine ⟨v, rfl, .ref a, rfl, a, C, rfl, T, h1, .inl ⟨ha, fun dx hd hne => ?_⟩⟩
    refine q dx _ hd upd_same ?_ fun b n1 n2 => by rw [upd_ne n1, upd_ne n2]
    rw [upd_ne hne, upd_same]
    rfl
theorem init2_ok {x y : Str} {C : Addr} {f g : Str} {vs : List V} {H : Hp} {Q : VK} {E : XK} (T : OexC K C) (h1 : PySem.W.findIn K (.ref C) f = some none) (h2 : PySem.W.findIn K (.ref C) g = some none) (sp : spInit C [f, g] vs H Q E) :
    tSeq (tOst K f (tVar 0) (tVar 1)) (tSeq (tOst K g (tVar 0) (tVar 2)) tNext) { nx := fun _ H' => Q .non H', rt := Q } (L2.start ["self", x, y] vs) H := by
  obtain ⟨a, ws, rfl, hl, ha, q⟩ := sp
  match ws, hl with
  | [v, u], _ =>
    refine ⟨v, rfl, .ref a, rfl, a, C, rfl, T, h1, .inl ⟨ha, fun dx hd hne => ?_⟩⟩
    refine ⟨u, rfl, .ref a, rfl, a, C, rfl, T, h2, .inr ⟨dx, _, upd_same, by rw [upd_ne hne, upd_same], by show 1 ≤ 900; decide, ?_⟩⟩
    refine q dx _ hd ?_ upd_same fun b n1 n2 => by rw [upd_ne n2, upd_ne n1, upd_ne n2]
    rw [upd_ne (Ne.symm hne), upd_same]
end
def raiseS (c : Str) (names : List Str) (sa : SemA) : SemS := fun ρ w => (sa ρ w).out fun ds w1 => if ds.length = names.length then .exc ⟨c, (names.zip ds).reverse⟩ w1 else .stuck
theorem RepF.zip {K : PySem.W.Frag} {F : Hp} {ι : List Addr} : ∀ (names : List Str) {vs : List V} {ds : List D}, RepA K F ι vs ds → RepF K F ι (names.zip vs) (names.zip ds)
  | [], _, _, _ => .nil
  | n :: r, vs, ds, h => by
    cases h with
    | nil => exact .nil
    | cons h1 h2 => exact .cons h1 (RepF.zip r h2)
theorem RepF.append {K : PySem.W.Frag} {F : Hp} {ι : List Addr} {a b : List (Str × V)} {c d : List (Str × D)} (h : RepF K F ι a c) (q : RepF K F ι b d) : RepF K F ι (a ++ b) (c ++ d) := by
  induction c generalizing a with
  | nil => cases h; exact q
  | cons x c ih =>
    cases h with
    | cons h1 h2 => exact .cons h1 (ih h2)
theorem RepF.reverse {K : PySem.W.Frag} {F : Hp} {ι : List Addr} {a : List (Str × V)} {c : List (Str × D)} (h : RepF K F ι a c) : RepF K F ι a.reverse c.reverse := by
  induction c generalizing a with
  | nil => cases h; exact .nil
  | cons x c ih =>
    cases h with
    | cons h1 h2 =>
      rw [List.reverse_cons, List.reverse_cons]
      exact (ih h2).append (.cons h1 .nil)
theorem RepF.lookup {K : PySem.W.Frag} {F : Hp} {ι : List Addr} {a : List (Str × V)} {c : List (Str × D)} (h : RepF K F ι a c) {f : Str} {d : D} (e : c.lookup f = some d) : ∃ v, a.lookup f = some v ∧ Rep K F ι v d := by
  induction c generalizing a with
  | nil => cases e
  | cons x c ih =>
    cases h with
    | @cons k v vs d' ds h1 h2 =>
      rw [List.lookup_cons] at e ⊢
      cases q : f == k with
      | true => rw [q] at e; cases e; exact ⟨v, by simp [q], h1⟩
      | false => rw [q] at e; simp only [q]; exact ih h2 e
section
variable {X : Cx} {E : XK}
theorem ds_raise {c : Str} {fI : Addr} {k : Nat} {fd : FuncData} {ps names : List Str} {x : Str} {e : Expr} {es : List Expr} {ta : TA} {sa : SemA} {p pos pos2 : Pos} (T : OexC X.K (He.ga X.K c)) (iC : PySem.W.findIn X.K (.ref (He.ga X.K c)) "__init__" = some (some (.ref fI))) (tI : PySem.W.typeIn X.K (.ref fI) = some (.type "function"))
    (F1 : FnOk X.prog X.w X.K X.mg X.base (L2.CX X.prog X.w) k fI fd ps (spInit (He.ga X.K c) names)) (hr : Room (k + 1) X.A) (hb : Binds X.K fd ps []) (hm : X.mg x = some (.ref (He.ga X.K c))) (tk : Takes X fun cls d _ H => E cls d H) (ha : DA X E (e :: es) ta sa) (hn : names.length ≤ 900)
    (hc : X.calm = true := by rfl) (hg : Gl X x := by rfl) (hdb : (x == ("__debug__" : Str)) = false := by decide) (he : starEach (e :: es) X.env = (false, eval e X.env) :: starEach es X.env := by rfl) (hpl : (backTo pos (starEach es X.env)).any (·.1) = false := by rfl) :
    DS X E (.Raise (some (.Call (.Name x p) (e :: es) [] pos)) none pos2) (fun _ σ H => tMkO (He.ga X.K c) (spInit (He.ga X.K c) names) [] ta σ H fun cls d H' => E cls d H') (raiseS c names sa) := ⟨ps_raise hc tk (pmk_oex T iC tI F1 hr hb .nil passL hg hm ha.pa hdb he hpl), by
  refine dsr_args (f := fun ds _ w1 => if ds.length = names.length then .exc ⟨c, (names.zip ds).reverse⟩ w1 else .stuck) (k := fun _ vs σ H1 => tMkO (He.ga X.K c) (spInit (He.ga X.K c) names) [] (fun _ H Q => Q vs H) σ H1 fun cls d H' => E cls d H') ha.dr (fun _ _ _ q => q) ?_
  intro F0 H0 F H ι0 ι w σ ρ D vs ds st wd l r o
  by_cases hl : ds.length = names.length
  · have o : XPost X.K E F0 H0 ι0 ⟨c, (names.zip ds).reverse⟩ w := by
      have o' := o
      simp only [hl, if_true] at o'
      exact o'
    refine ⟨by rw [r.length, hl]; omega, fun a ha' => ⟨a, vs, by rw [List.append_nil], by rw [r.length, hl], upd_same, fun d H2 hd e1 e2 e3 => ⟨rfl, d, _, e1, e2, ?_, ?_⟩⟩⟩
    · by_cases z : d = a
      · subst z; exact ha'
      · rw [upd_ne z] at hd; exact hd
    · have hda : d ≠ a := fun z => by
        subst z
        rw [upd_same] at hd; cases hd
      have hd0 : H d = none := by rw [upd_ne hda] at hd; exact hd
      have fD := wd.free hd0
      have hx : Ex F (upd F d (.xd (names.zip vs).reverse)) := Ex.new fD
      have hH : ∀ b o, H b = some o → (upd (L2.del H2 a) d (.xd (names.zip vs).reverse)) b = some o := fun b o hb => by
        have n1 : b ≠ a := ne_of_none hb ha'
        have n2 : b ≠ d := ne_of_none hb hd0
        rw [upd_ne n2]
        show (if b = a then none else H2 b) = some o
        rw [if_neg n1, e3 b n1 n2, upd_ne n1]
        exact hb
      have s1 : Stp F H ι (upd F d (.xd (names.zip vs).reverse)) (upd (L2.del H2 a) d (.xd (names.zip vs).reverse)) ι := ⟨hx, fun b o _ hb => hH b o hb, fun b o hb => ⟨o, hH b o hb⟩, fun b o hb => by
        by_cases z : b = d
        · subst z; exact .inr hd0
        · rw [upd_ne z] at hb; exact .inl hb, [], by simp, fun _ h => nomatch h⟩
      refine o _ _ ι d (names.zip vs).reverse (st.trans s1) ⟨fun b o hb => ?_, wd.len, wd.nd, fun n b c' h1 h2 => ?_⟩ upd_same ?_
      · by_cases z : b = d
        · subst z; rw [upd_same] at hb; cases hb; exact upd_same
        · rw [upd_ne z] at hb; exact hH b o (wd.ex b o hb)
      · obtain ⟨y1, y2⟩ := wd.cel n b c' h1 h2
        obtain ⟨oo, ho⟩ := y2.there
        exact ⟨by rw [upd_ne (ne_of_none ho hd0)]; exact y1, y2.mono hx (fun _ _ h => h) fun u hu => hH b u hu⟩
      · exact ((RepF.zip names r).reverse).mono hx fun _ _ h => h
  · simp only [hl, if_false] at o
    exact False.elim o⟩
/-! ### try: y = f(..) except C as n: suite -/
/-- a suite: x is the error that is held -/
def DSU (K : PySem.W.Frag) (E : XK) (i : Nat) (ts : Addr → Value → Option Addr → TS) (ss : Exn → SemS) : Prop := ∀ (x : Exn) (a d : Addr) (fs : List (Str × V)) (F0 H0 F H : Hp) (ι0 ι : List Addr) (w : W) (σ : L2.St) (ρ : List Slot) (D : Ends), Stp F0 H0 ι0 F H ι → Wd K F H ι w → Sl K H0 F H ι σ ρ → σ[i]? = some (some (.ref a)) →
  F d = some (.xd fs) → RepF K F ι fs x.fs → OutOk K E F0 H0 ι0 F ι D (ss x ρ w) → ts a (.ref (He.ga K x.c)) (some d) D σ H
/-- the held error's slot is empty before and behind -/
def Out.clr (i : Nat) : Out → Out
  | .nx ρ w => .nx (ρ.set i .non) w
  | .bk ρ w => .bk (ρ.set i .non) w
  | .ct ρ w => .ct (ρ.set i .non) w
  | o => o
def tryS (j i : Nat) (c : Str) (f : Sem) (sa : SemA) (ss : Exn → SemS) : SemS := fun ρ w => match (sa ρ w) with
  | .ok ds w1 => (match f ds w1 with
    | .ok d w2 => .nx (ρ.set j (.dat d)) w2
    | .exc x w2 => if x.c = c then (ss x (ρ.set i .non) w2).clr i else .stuck
    | .stuck => .stuck)
  | _ => .stuck
theorem Sl.setRef {K : PySem.W.Frag} {F H H0 : Hp} {ι : List Addr} {σ : L2.St} {ρ : List Slot} (l : Sl K H0 F H ι σ ρ) (i : Nat) (v : Option V) : Sl K H0 F H ι (σ.set i v) (ρ.set i .non) where
  len := by simp [l.len]
  at_ := fun j t e => by
    by_cases z : i = j
    · subst z
      by_cases hl : i < ρ.length
      · rw [List.getElem?_set_self hl] at e; cases e; trivial
      · rw [List.getElem?_eq_none (by simp; omega)] at e; cases e
    · rw [List.getElem?_set_ne z] at e ⊢
      exact l.at_ j t e
  sep := fun j k c c' p e1 e2 e3 e4 => by
    by_cases z : i = j
    · subst z
      by_cases hl : i < ρ.length
      · rw [List.getElem?_set_self hl] at e1; cases e1
      · rw [List.getElem?_eq_none (by simp; omega)] at e1; cases e1
    · by_cases y : i = k
      · subst y
        by_cases hl : i < ρ.length
        · rw [List.getElem?_set_self hl] at e2; cases e2
        · rw [List.getElem?_eq_none (by simp; omega)] at e2; cases e2
      · rw [List.getElem?_set_ne z] at e1 e3
        rw [List.getElem?_set_ne y] at e2 e4
        exact l.sep j k c c' p e1 e2 e3 e4
theorem dsr_try {K : PySem.W.Frag} {n : Nat} {g : Sem} {ta : TA} {sa : SemA} {i j : Nat} {c : Str} {ts : Addr → Value → Option Addr → TS} {ss : Exn → SemS} {E : XK} (ha : DRA K EF ta sa) (hl : ∀ ρ w ds w1, sa ρ w = .ok ds w1 → ds.length = n) (hx : PySem.W.exmOne K (.ref (He.ga K c)) (.ref (He.ga K c)) = some true)
    (hs : DSU K E i ts ss) (Wout : WX) (N : Nat) (hiN : i < N) :
    ∀ (F0 H0 F H : Hp) (ι0 ι : List Addr) (w : W) (σ : L2.St) (ρ : List Slot) (D : Ends), ρ.length = N → Stp F0 H0 ι0 F H ι → Wd K F H ι w → Sl K H0 F H ι σ ρ → OutOk K E F0 H0 ι0 F ι D (tryS j i c g sa ss ρ w) →
      tSeq (tAsg (tCallS (Spec K n g) (WE (wAs K (.ref (He.ga K c)) i ts Wout D)) ta) (gName j)) tNext D σ H := by
  intro F0 H0 F H ι0 ι w σ ρ D hN st wd l o
  unfold tryS at o
  show ta σ H fun vs H1 => Spec K n g vs H1 (fun x H1 => D.nx (σ.set j (some x)) H1) (WE (wAs K (.ref (He.ga K c)) i ts Wout D) σ)
  cases e : sa ρ w with
  | stuck => rw [e] at o; exact False.elim o
  | exc y w1 => rw [e] at o; exact False.elim o
  | ok ds w1 =>
    simp only [e] at o
    refine ha.ok wd l e fun vs F1 H1 ι1 s1 d1 r1 => ⟨F1, ι1, w1, ds, d1, r1, hl ρ w ds w1 e, ?_⟩
    cases e2 : g ds w1 with
    | stuck => simp only [e2] at o; exact o
    | ok d w2 =>
      simp only [e2] at o ⊢
      exact fun v F2 H2 ι2 s2 d2 r2 => o _ F2 H2 ι2 (((Rch.now st).step s1).step s2) d2 (((l.mono s1).mono s2).set r2)
    | exc x w2 =>
      simp only [e2] at o ⊢
      intro F2 H2 ι2 d fs s2 d2 hd rf
      by_cases hc : x.c = c
      · rw [if_pos hc] at o
        show ∃ b, _
        rw [hc]
        refine ⟨true, hx, fun _ a ha0 => ?_, fun z => by cases z⟩
        have l2 : Sl K H0 F2 H2 ι2 (σ.set i (some (.ref a))) (ρ.set i .non) := ((l.mono s1).mono s2).setRef i _
        have rc : Rch F0 H0 ι0 F ι F2 H2 ι2 := ((Rch.now st).step s1).step s2
        have key := hs x a d fs F0 H0 F2 H2 ι0 ι2 w2 (σ.set i (some (.ref a))) (ρ.set i .non) { nx := fun σ' H' => D.nx (σ'.set i none) H', rt := D.rt, bk := fun σ' H' => D.bk (σ'.set i none) H', ct := fun σ' H' => D.ct (σ'.set i none) H' } rc.st d2 l2
          (by rw [List.getElem?_set_self (by rw [l.len, hN]; exact hiN)]) hd rf ?_
        · rw [hc] at key; exact key
        · cases q : ss x (ρ.set i .non) w2 with
          | nx ρ3 w3 => rw [q] at o; exact fun σ3 F3 H3 ι3 s3 d3 l3 => o _ F3 H3 ι3 (rc.more s3) d3 (l3.setRef i none)
          | bk ρ3 w3 => rw [q] at o; exact fun σ3 F3 H3 ι3 s3 d3 l3 => o _ F3 H3 ι3 (rc.more s3) d3 (l3.setRef i none)
          | ct ρ3 w3 => rw [q] at o; exact fun σ3 F3 H3 ι3 s3 d3 l3 => o _ F3 H3 ι3 (rc.more s3) d3 (l3.setRef i none)
          | rt y w3 => rw [q] at o; exact fun v F3 H3 ι3 s3 d3 r3 => o v F3 H3 ι3 (rc.more s3) d3 r3
          | exc y w3 => rw [q] at o; exact o
          | stuck => rw [q] at o; exact o
      · rw [if_neg hc] at o; exact False.elim o
end
/-- isinstance of the held error, which has a dict of its own -/
structure KitE (K : PySem.W.Frag) (C : Addr) : Prop where
  cl : (PySem.W.clsIn K C).isSome = true
  ga : PySem.W.findIn K (.ref C) "__getattribute__" = some (some (.builtin "BaseException.__getattribute__"))
  gg : PySem.W.findIn K (.ref C) "__getattr__" = some none
  sb : PySem.W.subIn K (.ref C) (.type "BaseException") = some true
  ca : PySem.W.findIn K (.ref C) "__class__" = some (some (.builtin "object.__class__"))
  sp : PySem.W.specialIn K (.builtin "object.__class__") "__get__" = some (some (.builtin "getset_descriptor.__get__"))
  tk : PySem.W.takesIn K (.builtin "object.__class__") = some true
  mr : PySem.W.mroIn K C (.type "object") = some true
def rIsH (K : PySem.W.Frag) (C a : Addr) (d : Option Addr) : List V → Hp → VK → Prop := fun xs H Q => ∃ (D : Addr) (b : Bool) (dd : Addr) (fs : List (Str × V)), xs = [.ref a, .ref D] ∧ PySem.W.kitOne K (.ref C) (.ref D) = some b ∧ d = some dd ∧ H dd = some (.xd fs) ∧ Q (.bl b) H
theorem call_isH {X : Cx} {a C : Addr} {oe : Obj} {pn : List (Addr × Obj)} {d : Option Addr} (T : KitE X.K C) (hz : Zc (.ref C) d oe) (hf : ∃ vs, oe.data = .fields vs) : CallR (X.suite a ((a, oe) :: pn)) (.builtin "isinstance") (rIsH X.K C a d) := by
  intro pins s σ H xs us Q I r h
  obtain ⟨D, b, dd, fs, rfl, hk, rfl, hd, q⟩ := h
  obtain ⟨u1, u2, rfl, r1, r2⟩ := vals2 r
  cases r1
  cases r2
  obtain ⟨hget, _⟩ := I.pin (a, oe) (List.mem_append_left _ List.mem_cons_self)
  obtain ⟨vs, hv⟩ := hf
  have hx : ObjOk X.prog X.w H s.heap dd (.xd fs) := I.hok dd _ hd
  obtain ⟨mA, hns, hr⟩ := hx
  obtain ⟨od, ho, hl⟩ := lookIn_ns hns
  have J : PySem.W.InstAt s.heap a oe C (some od) := ⟨hget, hz.1, by unfold PySem.W.notCls; rw [hv] <;> rfl, by rw [hz.2]; exact ho⟩
  exact PySem.W.kia_one (PySem.W.kitx_exc T.cl T.ga T.gg T.sb T.ca T.sp T.tk T.mr) I.kIn J hk (fun z => nomatch z) fun tk => ⟨.bl b, H, I.kept (t' := tk) fun _ _ z => z, rfl, q⟩
end DL

/-! What the top has written; defs by their names; a law's end. -/
namespace DL
open PySem PySem.Spec PyProof.Rows L2

/-! ### own errors, by one Bool -/
def oexB (K : PySem.W.Frag) (C : Addr) : Bool := match K.lookup C with
  | some ⟨.type "type", _, .cls cd, sl⟩ => (match cd.mro, sl.toList with
    | .ref D :: bm, [_, _, _, _, some (.builtin n), _] => (D == C) && (n == "ValueError.__new__") && !cd.hasDel && cd.hasDict && PySem.HandSPX.refsVE bm
    | _, _ => false)
  | _ => false
theorem oexB_ok {K : PySem.W.Frag} {C : Addr} (q : oexB K C = true) : ∃ nm q N bs bm sn sub ab col dd k0 k1 k2 k3 k5, K.lookup C = some (excClassObj nm q C N bs bm true sn sub ab col dd k0 k1 k2 k3 k5 "ValueError.__new__") ∧ PySem.HandSPX.refsVE bm = true := by
  unfold oexB at q
  split at q
  · rename_i od cd slots hk
    split at q
    · rename_i D tl a0 a1 a2 a3 nn a5 e1 e2
      simp only [Bool.and_eq_true, beq_iff_eq, Bool.not_eq_true'] at q
      obtain ⟨⟨⟨⟨rfl, rfl⟩, hdel⟩, hdct⟩, hb⟩ := q
      obtain ⟨c1, c2, c3, c4, c5, c6, c7, c8, c9, c10, c11⟩ := cd
      dsimp only at e1 hdel hdct
      subst e1 hdel hdct
      obtain rfl : slots = #[a0, a1, a2, a3, some (.builtin "ValueError.__new__"), a5] := Array.toList_inj.mp e2
      exact ⟨_, _, _, _, _, _, _, _, _, _, _, _, _, _, _, hk, hb⟩
    · cases q
  · cases q
structure ExcOk (K : PySem.W.Frag) (c : Str) (fs : List Str) : Prop where
  T : OexC K (He.ga K c)
  iC : PySem.W.findIn K (.ref (He.ga K c)) "__init__" = some (some (.ref (He.ma K (He.ga K c) "__init__")))
  tI : PySem.W.typeIn K (.ref (He.ma K (He.ga K c) "__init__")) = some (.type "function")
  no : ∀ f ∈ fs, PySem.W.findIn K (.ref (He.ga K c)) f = some none
  me : PySem.W.exmOne K (.ref (He.ga K c)) (.ref (He.ga K c)) = some true
  kit : KitE K (He.ga K c)
  xf : XfC K (He.ga K c)
def excB (K : PySem.W.Frag) (c : Str) (fs : List Str) : Bool :=
  oexB K (He.ga K c) && decide (PySem.W.findIn K (.ref (He.ga K c)) "__setattr__" = some (some (.builtin "object.__setattr__"))) && decide (PySem.W.subIn K (.ref (He.ga K c)) (.type "BaseException") = some true) && decide (PySem.W.typeIn K (.ref (He.ga K c)) = some (.type "type")) && PySem.W.keepIn K (.ref (He.ga K c)) &&
  decide (PySem.W.findIn K (.ref (He.ga K c)) "__init__" = some (some (.ref (He.ma K (He.ga K c) "__init__")))) && decide (PySem.W.typeIn K (.ref (He.ma K (He.ga K c) "__init__")) = some (.type "function")) && fs.all (fun f => decide (PySem.W.findIn K (.ref (He.ga K c)) f = some none)) && decide (PySem.W.exmOne K (.ref (He.ga K c)) (.ref (He.ga K c)) = some true) &&
  (PySem.W.clsIn K (He.ga K c)).isSome && decide (PySem.W.findIn K (.ref (He.ga K c)) "__getattribute__" = some (some (.builtin "BaseException.__getattribute__"))) && decide (PySem.W.findIn K (.ref (He.ga K c)) "__getattr__" = some none) && decide (PySem.W.findIn K (.ref (He.ga K c)) "__class__" = some (some (.builtin "object.__class__"))) &&
  decide (PySem.W.specialIn K (.builtin "object.__class__") "__get__" = some (some (.builtin "getset_descriptor.__get__"))) && decide (PySem.W.takesIn K (.builtin "object.__class__") = some true) && decide (PySem.W.mroIn K (He.ga K c) (.type "object") = some true) && PySem.W.hasDictIn K (He.ga K c)
theorem excB_ok {K : PySem.W.Frag} {c : Str} {fs : List Str} (h : excB K c fs = true) : ExcOk K c fs := by
  unfold excB at h
  simp only [Bool.and_eq_true, decide_eq_true_eq, List.all_eq_true] at h
  obtain ⟨⟨⟨⟨⟨⟨⟨⟨⟨⟨⟨⟨⟨⟨⟨⟨h1, h2⟩, h3⟩, h4⟩, h5⟩, h6⟩, h7⟩, h8⟩, h9⟩, h10⟩, h11⟩, h12⟩, h13⟩, h14⟩, h15⟩, h16⟩, h17⟩ := h
  exact ⟨⟨oexB_ok h1, h2, h3, h4, h5⟩, h6, h7, h8, h9, ⟨h10, h11, h12, h3, h13, h14, h15, h16⟩, ⟨h11, h12, h3, h17⟩⟩
def kitB2 (K : PySem.W.Frag) (c s : Str) (b : Bool) : Bool := decide (PySem.W.kitOne K (.ref (He.ga K c)) (.ref (He.ga K s)) = some b)
theorem kitB2_ok {K : PySem.W.Frag} {c s : Str} {b : Bool} (h : kitB2 K c s b = true) : PySem.W.kitOne K (.ref (He.ga K c)) (.ref (He.ga K s)) = some b := of_decide_eq_true h

/-! ### a def of the text -/
abbrev FnP (K : PySem.W.Frag) (x : Str) (st : Stmt) (f : Addr) (fd : FuncData) : Prop := FunD K x x (defArgs st) (defBody st) (defScope st) [] [] f fd
/-- the def x, at its level, does what g tells of n values -/
structure DefOk (P : Program) (w : World) (K : PySem.W.Frag) (mg : Str → Option Value) (base : Heap) (x : Str) (k n : Nat) (g : Sem) : Prop where
  hm : mg x = some (.ref (He.ga K x))
  kp : PySem.W.keepIn K (.ref (He.ga K x)) = true
  ex : ∃ fd ps, Binds K fd ps [] ∧ FnOk P w K mg base (L2.CX P w) k (He.ga K x) fd ps (Spec K n g)
structure DefOkG (P : Program) (w : World) (K : PySem.W.Frag) (mg : Str → Option Value) (base : Heap) (x : Str) (k n : Nat) (g : Sem) : Prop where
  hm : mg x = some (.ref (He.ga K x))
  kp : PySem.W.keepIn K (.ref (He.ga K x)) = true
  ex : ∃ fd ps, Binds K fd ps [] ∧ GOk P w K mg base k (He.ga K x) fd ps (Spec K n g)
structure DefOkN (P : Program) (w : World) (K : PySem.W.Frag) (mg : Str → Option Value) (base : Heap) (x : Str) (k : Nat) (g : Sem) : Prop where
  hm : mg x = some (.ref (He.ga K x))
  kp : PySem.W.keepIn K (.ref (He.ga K x)) = true
  ex : FnR P w K mg base (L2.CX P w) k (He.ga K x) (SpecN K g)
section
variable {X : Cx} {E : XK} {e : Expr} {es : List Expr} {ta : TA} {sa : SemA} {pos p : Pos} {x : Str} {k j n : Nat} {g : Sem}
theorem pass_own {C : Cx} {W : XK} (tk : Takes C fun cls d _ H => W cls d H) : Passes (L2.CX C.prog C.w) C W := passes_call (W := fun cls d _ H => W cls d H) tk fun _ _ _ _ h => h
theorem dc (D : DefOk X.prog X.w X.K X.mg X.base x k n g) (hr : Room j X.A) (hkj : k ≤ j) (hx : Passes (L2.CX X.prog X.w) X E) (ha : DA X E (e :: es) ta sa) (hl : ∀ ρ w ds w1, sa ρ w = .ok ds w1 → ds.length = n) (hg : Gl X x := by rfl) (hdb : (x == ("__debug__" : Str)) = false := by decide)
    (he : starEach (e :: es) X.env = (false, eval e X.env) :: starEach es X.env := by rfl) (hpl : (backTo pos (starEach es X.env)).any (·.1) = false := by rfl) : DE X E (.Call (.Name x p) (e :: es) [] pos) (tCall (Spec X.K n g) [] E ta) (callE g sa) := by
  obtain ⟨fd, ps, hb, G⟩ := D.ex
  exact de_call (G.mono hkj) hr D.hm D.kp hb hx ha hl hg hdb he hpl
theorem dcG (D : DefOkG X.prog X.w X.K X.mg X.base x k n g) (hG : X.A.guards = some []) (hr : Room j X.A) (hkj : k ≤ j) (hx : Passes (L2.CX X.prog X.w) X E) (ha : DA X E (e :: es) ta sa) (hl : ∀ ρ w ds w1, sa ρ w = .ok ds w1 → ds.length = n) (hg : Gl X x := by rfl) (hdb : (x == ("__debug__" : Str)) = false := by decide)
    (he : starEach (e :: es) X.env = (false, eval e X.env) :: starEach es X.env := by rfl) (hpl : (backTo pos (starEach es X.env)).any (·.1) = false := by rfl) : DE X E (.Call (.Name x p) (e :: es) [] pos) (tCall (Spec X.K n g) [] E ta) (callE g sa) := by
  obtain ⟨fd, ps, hb, G⟩ := D.ex
  exact ⟨pe_gcall (k := k) G hG (hr.mono hkj) hg D.hm D.kp hb hx ha.pa hdb he hpl, dr_call ha.dr hl⟩
theorem dcN (D : DefOkN X.prog X.w X.K X.mg X.base x k g) (hr : Room j X.A) (hkj : k ≤ j) (hx : Passes (L2.CX X.prog X.w) X E) (ha : DA X E (e :: es) ta sa) (hl : ∀ ρ w ds w1, sa ρ w = .ok ds w1 → ds.length = n) (hn : n ≤ most := by decide) (hg : Gl X x := by rfl) (hdb : (x == ("__debug__" : Str)) = false := by decide)
    (he : starEach (e :: es) X.env = (false, eval e X.env) :: starEach es X.env := by rfl) (hpl : (backTo pos (starEach es X.env)).any (·.1) = false := by rfl) : DE X E (.Call (.Name x p) (e :: es) [] pos) (fun σ H Q => ta σ H fun vs H1 => SpecN X.K g vs H1 Q E) (callE g sa) :=
  de_callN (D.ex.mono hkj) hr D.hm D.kp hx ha hl hn hg hdb he hpl
end
section
variable {P : Program} {w : World} {K : PySem.W.Frag} {mg : Str → Option Value} {base : Heap}
/-- a def is what its body's term tells -/
theorem def_ok {x : Str} {st : Stmt} {fd : FuncData} {N ps : List Str} {k n : Nat} {s : SemS} (F : FnP K x st (He.ga K x) fd) (hm : mg x = some (.ref (He.ga K x))) (S : FnScope N ps (defScope st)) (hn : ps.length = n)
    (hb : ∀ (kV doc pm : Value) (an : Option Addr) (cdv ct : Value) (us : List Value), us.length = ps.length → bindArgs (PySem.W.fnOf x x (defArgs st) (defBody st) (defScope st) .none kV doc pm an cdv ct) ⟨us, []⟩ = pure (ps.zip us))
    (hbody : ∀ (cdv : Value) (A : Around) (outer : List Env) (s0 : Shared) (H : Hp) (E : XK), Room k (A.deeper (envOfC x (defScope st) s0.heap.objs.size (He.ga K x) cdv)) →
      ∃ t, DSs (cxOf (L2.CX P w) P w K mg base N x (defScope st) (He.ga K x) cdv A outer s0 H E) E (defBody st) t s) : DefOk P w K mg base x (k + 1) n (runD N.length s) := by
  refine ⟨hm, F.kp, fd, ps, F.bindsN hb, F.ok S (fun vs H Q E h => by rw [hn]; exact Spec.len h) fun cdv A outer s0 H vs Q E hr h => ?_⟩
  obtain ⟨t, ht⟩ := hbody cdv A outer s0 H E hr
  exact ⟨t, ht.ps, body_ok ht.dr h⟩
theorem defG_ok {x : Str} {st : Stmt} {fd : FuncData} {N ps : List Str} {k n : Nat} {s : SemS} (F : FnP K x st (He.ga K x) fd) (hm : mg x = some (.ref (He.ga K x))) (S : FnScope N ps (defScope st)) (hn : ps.length = n)
    (hb : ∀ (kV doc pm : Value) (an : Option Addr) (cdv ct : Value) (us : List Value), us.length = ps.length → bindArgs (PySem.W.fnOf x x (defArgs st) (defBody st) (defScope st) .none kV doc pm an cdv ct) ⟨us, []⟩ = pure (ps.zip us))
    (hbody : ∀ (cdv : Value) (A : Around) (outer : List Env) (s0 : Shared) (H : Hp) (E : XK), A.guards = some [] → Room k (A.deeper (envOfC x (defScope st) s0.heap.objs.size (He.ga K x) cdv)) →
      ∃ t, DSs (cxOf (L2.CX P w) P w K mg base N x (defScope st) (He.ga K x) cdv A outer s0 H E) E (defBody st) t s) : DefOkG P w K mg base x (k + 1) n (runD N.length s) := by
  refine ⟨hm, F.kp, fd, ps, F.bindsN hb, ?_⟩
  obtain ⟨oc, od, dV, kV, doc, pm, an, cdv, ct, osl, rfl, lk, hcd, _, _⟩ := F.ex
  refine gn_of lk hcd S (fun vs H Q E h => by rw [hn]; exact Spec.len h) fun A outer s0 H vs Q E hG hr h => ?_
  obtain ⟨t, ht⟩ := hbody cdv A outer s0 H E hG hr
  exact ⟨t, ht.ps, body_ok ht.dr h⟩
theorem defN_ok {x pv : Str} {st : Stmt} {fd : FuncData} {N : List Str} {k : Nat} {s : SemS} (F : FnP K x st (He.ga K x) fd) (hm : mg x = some (.ref (He.ga K x))) (S : FnScope N [pv] (defScope st))
    (hb : ∀ (kV doc pm : Value) (an : Option Addr) (cdv ct : Value) (rest : List Value), bindArgs (PySem.W.fnOf x x (defArgs st) (defBody st) (defScope st) .none kV doc pm an cdv ct) ⟨rest, []⟩ = (newTuple rest >>= fun t => pure [(pv, t)]))
    (hbody : ∀ (cdv : Value) (A : Around) (outer : List Env) (s0 : Shared) (H : Hp) (E : XK), Room k (A.deeper (envOfC x (defScope st) s0.heap.objs.size (He.ga K x) cdv)) →
      ∃ t, DSs (cxOf (L2.CX P w) P w K mg base N x (defScope st) (He.ga K x) cdv A outer s0 H E) E (defBody st) t s) : DefOkN P w K mg base x (k + 1) (fun ds w => runD N.length s [.tup ds] w) := by
  refine ⟨hm, F.kp, ?_⟩
  obtain ⟨oc, od, dV, kV, doc, pm, an, cdv, ct, osl, rfl, lk, hcd, hD, _⟩ := F.ex
  rcases hD with ⟨_, rfl⟩ | ⟨z, _⟩
  · exact fn_starD lk hcd S (hb kV doc pm an cdv ct) fun A outer s0 H E hr => hbody cdv A outer s0 H E hr
  · exact absurd rfl z
end
end DL

/-! Displays of dicts; a law's end with repr; try. -/
namespace DL
open PySem PySem.Spec PyProof.Rows L2

/-! ### {k: v, ..} -/
def toKey : D → Option Key
  | .int i => some (.inl i)
  | .str x => some (.inr x)
  | _ => none
theorem toKey_ok {K : PySem.W.Frag} {F : Hp} {ι : List Addr} {v : V} {d : D} {k : Key} (r : Rep K F ι v d) (e : toKey d = some k) : v = kV k := by
  cases r with
  | int i => cases e; rfl
  | str x => cases e; rfl
  | _ => cases e
def putD {κ : Type} [DecidableEq κ] (kvs : List (κ × D)) (k : κ) (v : D) : List (κ × D) :=
  if (kvs.any fun kv => decide (kv.1 = k)) = true then kvs.map (fun kv => if kv.1 = k then (kv.1, v) else kv) else kvs ++ [(k, v)]
def mergeD (kvs more : List (Key × D)) : List (Key × D) := more.foldl (fun acc kv => putD acc kv.1 kv.2) kvs
section
variable {K : PySem.W.Frag} {F : Hp} {ι : List Addr}
theorem RepK.any {xs : List (Key × V)} {ds : List (Key × D)} (r : RepK K F ι xs ds) (k : Key) : (xs.any fun kv => decide (kv.1 = k)) = ds.any fun kv => decide (kv.1 = k) := by
  induction ds generalizing xs with
  | nil => cases r; rfl
  | cons d ds ih => cases r with | cons h r => rw [List.any_cons, List.any_cons, ih r]
theorem RepK.mapPut {xs : List (Key × V)} {ds : List (Key × D)} (r : RepK K F ι xs ds) {k : Key} {v : V} {d : D} (q : Rep K F ι v d) : RepK K F ι (xs.map fun kv => if kv.1 = k then (kv.1, v) else kv) (ds.map fun kv => if kv.1 = k then (kv.1, d) else kv) := by
  induction ds generalizing xs with
  | nil => cases r; exact .nil
  | cons e ds ih =>
    cases r with
    | @cons k' v' vs d' ds' h r =>
      rw [List.map_cons, List.map_cons]
      by_cases z : k' = k
      · simp only [z, if_true]; exact .cons q (ih r)
      · simp only [z, if_false]; exact .cons h (ih r)
theorem RepK.snoc {xs : List (Key × V)} {ds : List (Key × D)} (r : RepK K F ι xs ds) {k : Key} {v : V} {d : D} (q : Rep K F ι v d) : RepK K F ι (xs ++ [(k, v)]) (ds ++ [(k, d)]) := by
  induction ds generalizing xs with
  | nil => cases r; exact .cons q .nil
  | cons e ds ih => cases r with | cons h r => exact .cons h (ih r)
theorem RepK.put {xs : List (Key × V)} {ds : List (Key × D)} (r : RepK K F ι xs ds) {k : Key} {v : V} {d : D} (q : Rep K F ι v d) : RepK K F ι (putK xs k v) (putD ds k d) := by
  unfold putK putD
  rw [r.any k]
  split
  · exact r.mapPut q
  · exact r.snoc q
theorem RepK.merge {more : List (Key × V)} {mds : List (Key × D)} (q : RepK K F ι more mds) : ∀ {xs : List (Key × V)} {ds : List (Key × D)}, RepK K F ι xs ds → RepK K F ι (mergeK xs more) (mergeD ds mds) := by
  induction mds generalizing more with
  | nil => cases q; intro xs ds r; exact r
  | cons e mds ih =>
    cases q with
    | cons h t =>
      intro xs ds r
      exact ih t (r.put h)
end
abbrev SemP := List Slot → W → R (List (Key × D))
def OkP (K : PySem.W.Frag) (F H : Hp) (ι : List Addr) (x : List (Key × D)) (w' : W) (Q : List (V × V) → Hp → Prop) : Prop := ∀ kvs F' H' ι', Stp F H ι F' H' ι' → Wd K F' H' ι' w' → RepK K F' ι' kvs x → Q (kvs.map fun kv => (kV kv.1, kv.2)) H'
def DRP (K : PySem.W.Frag) (E : XK) (trs : List (TE × TE)) (s : SemP) : Prop := ∀ (H0 F H : Hp) (ι : List Addr) (w : W) (σ : L2.St) (ρ : List Slot), Wd K F H ι w → Sl K H0 F H ι σ ρ →
  Meets (fun x w' => ∀ Q, OkP K F H ι x w' Q → tPairs trs σ H Q) (fun x w' => XPost K E F H ι x w' → ∀ Q, tPairs trs σ H Q) (s ρ w)
structure DP (X : Cx) (E : XK) (pos : Pos) (ks : List (Option Expr)) (vs : List Expr) (trs : List (TE × TE)) (s : SemP) : Prop where
  pp : PPs X pos ks vs trs
  dr : DRP X.K E trs s
def nilP : SemP := fun _ w => .ok [] w
def consP (k : Key) (s : SemE) (r : SemP) : SemP := fun ρ w => (s ρ w).bind fun x w1 => match x with
  | .dat d => (r ρ w1).bind fun ps w2 => .ok ((k, d) :: ps) w2
  | .vw _ => .stuck
section
variable {X : Cx} {E : XK} {pos : Pos} {ks : List (Option Expr)} {vs : List Expr} {trs : List (TE × TE)} {s : SemE} {r : SemP}
theorem dp_nil : DP X E pos [] [] [] nilP := ⟨pps_nil, fun _ F H ι w σ ρ d l Q q => q [] F H ι Stp.refl d .nil⟩
theorem dp_cons {k v : Expr} {tk tv : TE} {key : Key} (hk : PE X k tk) (ek : tk = tC (kV key)) (hv : DE X E v tv s) (hr : DP X E pos ks vs trs r) : DP X E pos (some k :: ks) (v :: vs) ((tk, tv) :: trs) (consP key s r) := ⟨pps_cons hk hv.pe hr.pp, by
  subst ek
  intro H0 F H ι w σ ρ d l
  unfold consP
  cases e : s ρ w with
  | stuck => trivial
  | exc x w1 => exact fun q Q => hv.dr.exc d l e q _
  | ok x w1 =>
    cases x with
    | vw c => trivial
    | dat y =>
      show Meets _ _ ((r ρ w1).bind _)
      cases e2 : r ρ w1 with
      | stuck => trivial
      | exc x w2 =>
        intro q Q
        refine hv.dr.ok d l e fun v F1 H1 ι1 s1 d1 r1 => ?_
        have z := hr.dr H0 F1 H1 ι1 w1 σ ρ d1 (l.mono s1)
        rw [e2] at z
        exact z (q.step s1) _
      | ok ps w2 =>
        intro Q q
        refine hv.dr.ok d l e fun v F1 H1 ι1 s1 d1 r1 => ?_
        have z := hr.dr H0 F1 H1 ι1 w1 σ ρ d1 (l.mono s1)
        rw [e2] at z
        refine z _ fun kvs F2 H2 ι2 s2 d2 r2 => ?_
        exact q ((key, v) :: kvs) F2 H2 ι2 (s1.trans s2) d2 (.cons (Rep.mono s2.ex s2.ix r1) r2)⟩
theorem dp_str {x : Str} {j p} {v : Expr} {tv : TE} (hv : DE X E v tv s) (hr : DP X E pos ks vs trs r) : DP X E pos (some (.Constant (.str x) j p) :: ks) (v :: vs) ((tC (.str x), tv) :: trs) (consP (.inr x) s r) := dp_cons (key := .inr x) pe_str rfl hv hr
theorem dp_int {i : Int} {j p} {v : Expr} {tv : TE} (hv : DE X E v tv s) (hr : DP X E pos ks vs trs r) : DP X E pos (some (.Constant (.int i) j p) :: ks) (v :: vs) ((tC (.int i), tv) :: trs) (consP (.inl i) s r) := dp_cons (key := .inl i) pe_int rfl hv hr
def dctE (s : SemP) : SemE := fun ρ w => (s ρ w).bind fun ps w1 => if ps.length ≤ 15 then .ok (.dat (.dct (mergeD [] ps))) w1 else .stuck
theorem Wd.notin {K : PySem.W.Frag} {F H : Hp} {ι : List Addr} {w : W} {p : Addr} (d : Wd K F H ι w) (h : H p = none) : p ∉ ι := fun m => by
  obtain ⟨_, o, z⟩ := d.ne m
  rw [h] at z; cases z
theorem de_disp (h : DP X E pos ks vs trs r) (hall : ks.all (·.isSome) = true := by rfl) (hl : ks.length = vs.length := by rfl) (h0 : ks ≠ [] := by exact fun z => nomatch z) (h15 : ks.length ≤ 15 := by decide) : DE X E (.Dict ks vs pos) (tDisp trs) (dctE r) := ⟨pe_disp h.pp hall hl h0 h15, by
  intro H0 F H ι w σ ρ d l
  unfold dctE
  have st0 : ∀ p, H p = none → Stp F H ι F (upd H p (.dK [])) ι := fun p hp => Stp.only hp
  have wd0 : ∀ p, H p = none → Wd X.K F (upd H p (.dK [])) ι w := fun p hp => d.poke (d.free hp) (d.notin hp)
  cases e : r ρ w with
  | stuck => trivial
  | exc x w1 =>
    intro q Q p hp
    have z := h.dr H0 F (upd H p (.dK [])) ι w σ ρ (wd0 p hp) (l.mono (st0 p hp))
    rw [e] at z
    exact z (q.step (st0 p hp)) _
  | ok ps w1 =>
    show Meets _ _ (if ps.length ≤ 15 then _ else _)
    split
    · rename_i h15
      intro Q q p hp
      have z := h.dr H0 F (upd H p (.dK [])) ι w σ ρ (wd0 p hp) (l.mono (st0 p hp))
      rw [e] at z
      refine z _ fun kvs F2 H2 ι2 s2 d2 r2 => ?_
      have np : p ∉ ι := d.notin hp
      have h2p : H2 p = some (.dK []) := s2.keep p _ np upd_same
      have n2 : p ∉ ι2 := s2.out (show (upd H p (.dK [])) p = some _ from upd_same) np
      have f2 : F2 p = none := by
        cases z : F2 p with
        | none => rfl
        | some o =>
          rcases s2.new p o z with y | y
          · rw [d.free hp] at y; cases y
          · rw [upd_same] at y; cases y
      have len : kvs.length = ps.length := r2.length
      refine ⟨h2p, kvs, rfl, by rw [len]; exact h15, ?_⟩
      have exF : Ex F2 (upd F2 p (.dK (mergeK [] kvs))) := Ex.new f2
      refine q (.ref p) (upd F2 p (.dK (mergeK [] kvs))) (upd H2 p (.dK (mergeK [] kvs))) ι2 ⟨((st0 p hp).trans s2).ex.trans exF, fun a o n ha => ?_, fun a o ha => ?_, fun a o ha => ?_, ((st0 p hp).trans s2).ext⟩ ⟨fun a o ha => ?_, d2.len, d2.nd, fun n a c h1 h2 => ?_⟩ (.dct upd_same ((r2.mono exF fun _ _ h => h).merge .nil))
      · rw [upd_ne (ne_of_none ha hp)]; exact ((st0 p hp).trans s2).keep a o n ha
      · rw [upd_ne (ne_of_none ha hp)]; exact ((st0 p hp).trans s2).kin a o ha
      · by_cases z : a = p
        · subst z; exact .inr hp
        · rw [upd_ne z] at ha; exact ((st0 p hp).trans s2).new a o ha
      · by_cases z : a = p
        · subst z; rw [upd_same] at ha ⊢; exact ha
        · rw [upd_ne z] at ha ⊢; exact d2.ex a o ha
      · obtain ⟨y1, y2⟩ := d2.cel n a c h1 h2
        have z : a ≠ p := fun z => n2 (z ▸ List.mem_of_getElem? h1)
        exact ⟨by rw [upd_ne z]; exact y1, y2.mono exF (fun _ _ h => h) fun u hu => by rw [upd_ne z]; exact hu⟩
    · trivial⟩
theorem de_dct0 : DE X E (.Dict [] [] pos) tDNewK (cst (.dct [])) := ⟨pe_dnewK, fun H0 F H ι w σ ρ d l Q q p hp => okv_new d q hp (.dct upd_same .nil)⟩
end
end DL

/-! A law's end, repr reached. -/
namespace DL
open PySem PySem.Spec PyProof.Rows L2
/-- what is tracked at a law's call: the script, if it is no object of the module -/
def lawH (K : PySem.W.Frag) (a : Addr) (vs : List Value) (ns : List Int) : Hp := fun b => if b = a ∧ K.lookup a = none then some (.frz { cls := .type "list", data := .seq vs.toArray } (.lst (ns.map V.int))) else none
theorem lawH_other {K : PySem.W.Frag} {a b : Addr} {vs : List Value} {ns : List Int} (h : b ≠ a) : lawH K a vs ns b = none := if_neg fun z => h z.1
theorem lawH_at {K : PySem.W.Frag} {a b : Addr} {vs : List Value} {ns : List Int} {u : HO} (h : lawH K a vs ns b = some u) : b = a ∧ K.lookup a = none ∧ u = .frz { cls := .type "list", data := .seq vs.toArray } (.lst (ns.map V.int)) := by
  unfold lawH at h
  split at h
  · rename_i z
    cases h
    exact ⟨z.1, z.2, rfl⟩
  · cases h
section
variable {P : Program} {w : World} {K : PySem.W.Frag} {mg mb : Str → Option Value} {k : Nat} {fa a : Addr} {fd : FuncData} {x : Str} {g : Sem} {t : Shared} {vs : List Value} {ns : List Int}
theorem lawH_only : Only (lawH K a vs ns) := fun b => by
  cases q : lawH K a vs ns b with
  | none => exact .inl rfl
  | some u => obtain ⟨_, _, rfl⟩ := lawH_at q; exact .inr ⟨_, _, rfl⟩
theorem lawG (inK : K.In t.heap) (nG : t.heap.Ns mainGlobals mg) (nB : t.heap.Ns builtinsNs mb) (boot : ∀ y : Str, y ≠ "__name__" → mb y = bootBuiltins y) (free : t.heap.NoLimit) (gens : t.gens = #[])
    (obj : t.heap.get? a = some { cls := .type "list", data := .seq vs.toArray }) (hints : IntsAre vs ns) (few : ns.length ≤ sizeLine) (rm : Room k callerA) (gd : callerA.guards = some [])
    (F : ∀ b : Heap, K.In b → b.Ns mainGlobals mg → GOk P w K mg b k fa fd [x] (Spec K 1 g)) (bd : ∀ (s : Shared) (u : Value), BindsTo s fd ⟨[u], []⟩ [(x, u)]) (law : ∃ w1, g [.scr ns] [] = .ok (.bl true) w1) :
    codeAny (model P w) callerA (.call (.ref fa) ⟨[.ref a], []⟩) (fun r s' => r = .ok (.ret (.bool true)) ∧ OldK t.heap s'.heap ∧ s'.os = t.os ∧ AllBare s'.gens) t := by
  have rv := vals_ints hints
  have nlen := hints.length
  have seqAt : SqL K (lawH K a vs ns) a (ns.map V.int) := by
    cases q : K.lookup a with
    | none => exact .inl (.inr ⟨_, if_pos ⟨rfl, q⟩⟩)
    | some o =>
      have same := inK a o q
      rw [obj] at same
      cases same
      exact .inr ⟨_, vs.toArray, _, q, rfl, rfl, rfl, by rw [List.size_toArray, nlen]; exact few, by simpa using rv⟩
  have hok : HOk P w (lawH K a vs ns) t.heap := fun b u z => by
    obtain ⟨rfl, _, rfl⟩ := lawH_at z
    exact ⟨obj, by rw [List.length_map]; exact few, vs, _, rv, obj⟩
  have clear : ∀ {b : Addr} {o : Obj}, t.heap.get? b = some o → lawH K a vs ns b = none → (hidT t.heap (lawH K a vs ns)).get? b = some o := fun e n => hidT_get e n
  have dicts : ∀ {b : Addr} {o : Obj} {es : Array DictEntry} {ep : Nat}, t.heap.get? b = some o → o.data = .dict es ep → lawH K a vs ns b = none := fun {b o es ep} e d => by
    by_cases z : b = a
    · subst z
      rw [obj] at e
      cases e
      cases (show Data.seq vs.toArray _ = Data.dict es ep from d)
    · exact lawH_other z
  have spaces : ∀ {b : Addr} {m : Str → Option Value}, t.heap.Ns b m → (hidT t.heap (lawH K a vs ns)).Ns b m := fun {b m} ⟨o, es, ep, e, d, r⟩ => ⟨o, es, ep, clear e (dicts e d), d, r⟩
  have known : K.In (hidT t.heap (lawH K a vs ns)) := fun b o e => clear (inK b o e) (by
    cases q : lawH K a vs ns b with
    | none => rfl
    | some u =>
      obtain ⟨rfl, z, _⟩ := lawH_at q
      rw [e] at z; cases z)
  have module : Mod K mg (hidT t.heap (lawH K a vs ns)) := ⟨known, spaces nG, ⟨mb, spaces nB, boot⟩, by obtain ⟨mc, h1, h2⟩ := free; exact ⟨mc, spaces h1, h2⟩⟩
  have none0 : ∀ {α : Type} {l : List α} {b : α}, b ∈ ([] : List α) → False := fun h => nomatch h
  have enter : Env0 P w K mg (hidT t.heap (lawH K a vs ns)) callerA [] t (lawH K a vs ns) := ⟨rfl, module, fun b o e => of_hidT e, Nat.le_of_eq (hidT_size _ _), trivial, fun b hb => absurd (show b ∈ ([] : List Addr) from hb) (by simp), hok, .of_eq gens⟩
  obtain ⟨w1, law⟩ := law
  have said : Spec K 1 g [.ref a] (lawH K a vs ns) (fun v _ => v = .bl true) fun _ _ _ => False := by
    refine ⟨lawH K a vs ns, [], [], [.scr ns], ⟨Ex.refl _, rfl, List.nodup_nil, fun n b c h => by cases h⟩, .cons (.scr seqAt) .nil, rfl, ?_⟩
    rw [law]
    intro v F' H' ι' _ _ r
    cases r
    rfl
  refine codeAny_mono ((F _ known (spaces nG)).run callerA [] t _ ⟨[.ref a], []⟩ [.ref a] [.ref a] _ _ gd rm enter (bd t (.ref a)) (.cons rfl .nil) said) fun r s' h => ?_
  match r with
  | .error e =>
    obtain ⟨_, _, _, _, _, _, _, _, _, _, _, _, z⟩ := h
    exact z.elim
  | .ok .next => exact h.elim
  | .ok .brk => exact h.elim
  | .ok .cont => exact h.elim
  | .ok (.ret u) =>
    obtain ⟨v, H', os, bare, un, hok', rel, q⟩ := h
    obtain rfl : v = .bl true := q
    obtain rfl : u = Value.bool true := rel
    refine ⟨rfl, OldK.of_keep fun b o e => ?_, os, bare⟩
    cases q : lawH K a vs ns b with
    | none => exact un.keep b o e q (by intro z; exact absurd (show b ∈ ([] : List Addr) from z) (by simp)) (by simp)
    | some u =>
      obtain ⟨_, _, rfl⟩ := lawH_at q
      have there := un.frzs b _ _ q
      obtain ⟨e1, _⟩ := hok b _ q
      obtain ⟨e2, _⟩ := hok' b _ there
      rw [e] at e1
      cases e1
      exact e2
/-- a law over the head: the def's term, what it tells of a script -/
theorem walkG {l : PySem.W.OpenLaw} {n : Nat} {q : Program} {loose : List Str} {XP : (Str → Option Value) → Heap → Prop} {YP : World → Heap → Prop} {d : DefRec} (hn : l.most = some n) (hn2 : n ≤ sizeLine) (hdf : d.params.defaults = []) (rm : Room k callerA) (gd : callerA.guards = some [])
    (G : ∀ (w : World) (mg : Str → Option Value) (fa : Addr) (h : Heap), YP w h → h.Ns mainGlobals mg → mg d.name = some (.ref fa) → ∃ (K : PySem.W.Frag) (fd : FuncData), K.In h ∧ (∀ (s : Shared) (u : Value), BindsTo s fd ⟨[u], []⟩ [(x, u)]) ∧
      ∀ b : Heap, K.In b → b.Ns mainGlobals mg → GOk l.prog w K mg b k fa fd [x] (Spec K 1 g)) (law : ∀ ns : List Int, ns.length ≤ n → ∃ w1, g [.scr ns] [] = .ok (.bl true) w1) : PySem.W.WalkO q loose XP YP l.row.toRowW d [] (fun f vs => PySem.call f vs) :=
  Att.attach_call hn hdf fun w _ s mg mb fa _ _ _ _ a vs ns gr y _ _ _ named listed hints len gens => by
    obtain ⟨K, fd, inK, bd, F⟩ := G w mg fa s.heap y gr.T.g named
    exact lawG inK gr.T.g gr.T.b gr.T.builtins gr.T.nolimit gens listed hints (Nat.le_trans len hn2) rm gd F bd (law ns len)
end
end DL

/-! try: y = f(..) except C as n: z = (n.f, .., isinstance(n, S)). -/
namespace DL
open PySem PySem.Spec PyProof.Rows L2

/-- readings of the held error: a the error, d its dict -/
abbrev TAX := Addr → Value → Option Addr → TA
abbrev TEX := Addr → Value → Option Addr → TE
def DRX (K : PySem.W.Frag) (i : Nat) (c : Str) (te : TEX) (g : Exn → Option D) : Prop := ∀ (x : Exn) (a d : Addr) (fs : List (Str × V)) (F H : Hp) (ι : List Addr) (w : W) (σ : L2.St), Wd K F H ι w → σ[i]? = some (some (.ref a)) → F d = some (.xd fs) → RepF K F ι fs x.fs →
  ∀ z, g x = some z → ∀ Q : VK, OkV K F H ι (.dat z) w Q → te a (.ref (He.ga K c)) (some d) σ H Q
def DRXA (K : PySem.W.Frag) (i : Nat) (c : Str) (ta : TAX) (g : Exn → Option (List D)) : Prop := ∀ (x : Exn) (a d : Addr) (fs : List (Str × V)) (F H : Hp) (ι : List Addr) (w : W) (σ : L2.St), Wd K F H ι w → σ[i]? = some (some (.ref a)) → F d = some (.xd fs) → RepF K F ι fs x.fs →
  ∀ z, g x = some z → ∀ Q : List V → Hp → Prop, OkA K F H ι z w Q → ta a (.ref (He.ga K c)) (some d) σ H Q
/-- an expression in the suite -/
structure DX (X : Cx) (i : Nat) (c : Str) (e : Expr) (te : TEX) (g : Exn → Option D) : Prop where
  pe : ∀ (a : Addr) (oe : Obj) (cls : Value) (d : Option Addr) (pn : List (Addr × Obj)), Zc cls d oe → (∃ vs, oe.data = .fields vs) → PE (X.suite a ((a, oe) :: pn)) e (te a cls d)
  dr : DRX X.K i c te g
structure DXA (X : Cx) (i : Nat) (c : Str) (es : List Expr) (ta : TAX) (g : Exn → Option (List D)) : Prop where
  pa : ∀ (a : Addr) (oe : Obj) (cls : Value) (d : Option Addr) (pn : List (Addr × Obj)), Zc cls d oe → (∃ vs, oe.data = .fields vs) → PA (X.suite a ((a, oe) :: pn)) es (ta a cls d)
  dr : DRXA X.K i c ta g
section
variable {X : Cx} {i : Nat} {c : Str} {pos p apos : Pos} {n : Str}
/-- error.f -/
theorem dx_field {f : Str} (T : XfC X.K (He.ga X.K c)) (no : PySem.W.findIn X.K (.ref (He.ga X.K c)) f = some none) (hN : X.N[i]? = some n := by rfl) (hv : Vis X.env.scope n := by first | exact Or.inl rfl | exact Or.inr (Or.inl rfl) | exact Or.inr (Or.inr rfl)) (hd : (n == ("__debug__" : Str)) = false := by decide)
    (hcd : (n == ("__classdict__" : Str)) = false := by decide) (hb : attributeBase (.Name n p) f X.env (eval (.Name n p) X.env) = eval (.Name n p) X.env := by rfl) : DX X i c (.Attribute (.Name n p) f pos) (fun a cls d => tXf a cls d (He.ga X.K c) f (tVar i)) (fun x => x.fs.lookup f) :=
  ⟨fun a oe cls d pn hz hf => pe_xf T no hz hf (pe_var hN hv hd hcd) hb, fun x a d fs F H ι w σ wd e hd r z hz Q q => by
    obtain ⟨v, l, rv⟩ := r.lookup hz
    exact ⟨.ref a, e, rfl, rfl, d, fs, v, rfl, wd.ex _ _ hd, l, okv_now q wd rv⟩⟩
def rIsX (K : PySem.W.Frag) (C a : Addr) (cls : Value) (d : Option Addr) : List V → Hp → VK → Prop := fun xs H Q => cls = .ref C ∧ rIsH K C a d xs H Q
theorem call_isX {a C : Addr} {oe : Obj} {cls : Value} {pn : List (Addr × Obj)} {d : Option Addr} (T : KitE X.K C) (hz : Zc cls d oe) (hf : ∃ vs, oe.data = .fields vs) : CallR (X.suite a ((a, oe) :: pn)) (.builtin "isinstance") (rIsX X.K C a cls d) := by
  intro pins s σ H xs us Q I r h
  obtain ⟨e, h⟩ := h
  subst e
  exact call_isH T hz hf pins s σ H xs us Q I r h
/-- isinstance(error, S) -/
theorem dx_isi {S : Str} {b : Bool} {p2 p3 : Pos} (T : KitE X.K (He.ga X.K c)) (hk : PySem.W.kitOne X.K (.ref (He.ga X.K c)) (.ref (He.ga X.K S)) = some b) (hi : X.mg "isinstance" = none) (hS : X.mg S = some (.ref (He.ga X.K S))) (hN : X.N[i]? = some n := by rfl) (hv : Vis X.env.scope n := by first | exact Or.inl rfl | exact Or.inr (Or.inl rfl) | exact Or.inr (Or.inr rfl)) (hd : (n == ("__debug__" : Str)) = false := by decide)
    (hcd : (n == ("__classdict__" : Str)) = false := by decide) (hg : Gl X "isinstance" := by rfl) (hgS : Gl X S := by rfl) (hdS : (S == ("__debug__" : Str)) = false := by decide)
    (he : starEach [.Name n p, .Name S p2] X.env = (false, eval (.Name n p) X.env) :: starEach [.Name S p2] X.env := by rfl) (he2 : starEach [.Name S p2] X.env = (false, eval (.Name S p2) X.env) :: starEach [] X.env := by rfl) (hpl : (backTo pos (starEach [.Name S p2] X.env)).any (·.1) = false := by rfl) :
    DX X i c (.Call (.Name "isinstance" p3) [.Name n p, .Name S p2] [] pos) (fun a cls d => tCB (rIsX X.K (He.ga X.K c) a cls d) (tCons (tVar i) (tCons (tC (.ref (He.ga X.K S))) tNil))) (fun _ => some (.bl b)) :=
  ⟨fun a oe cls d pn hz hf => pe_callB (call_isX T hz hf) hg hi (by decide +kernel) (pa_cons (pe_var hN hv hd hcd) (pa_cons (pe_glob hgS hS rfl hdS) pa_nil he2) he) (by decide) (by decide) he hpl, fun x a d fs F H ι w σ wd e hd r z hz Q q => by
    cases hz
    exact ⟨.ref a, e, rfl, He.ga X.K S, b, d, fs, rfl, hk, rfl, wd.ex _ _ hd, okv_now q wd (.bl b)⟩⟩
theorem dxa_nil : DXA X i c [] (fun _ _ _ => tNil) (fun _ => some []) := ⟨fun _ _ _ _ _ _ _ => pa_nil, fun x a d fs F H ι w σ wd e hd r z hz Q q => by cases hz; exact q [] F H ι Stp.refl wd .nil⟩
def consX (g : Exn → Option D) (h : Exn → Option (List D)) : Exn → Option (List D) := fun x => (g x).bind fun d => (h x).map (d :: ·)
theorem dxa_cons {e : Expr} {es : List Expr} {te : TEX} {ta : TAX} {g : Exn → Option D} {h : Exn → Option (List D)} (he : DX X i c e te g) (hr : DXA X i c es ta h) (hs : starEach (e :: es) X.env = (false, eval e X.env) :: starEach es X.env := by rfl) : DXA X i c (e :: es) (fun a cls d => tCons (te a cls d) (ta a cls d)) (consX g h) :=
  ⟨fun a oe cls d pn hz hf => pa_cons (he.pe a oe cls d pn hz hf) (hr.pa a oe cls d pn hz hf) hs, fun x a d fs F H ι w σ wd e hd r z hz Q q => by
    unfold consX at hz
    cases e1 : g x with
    | none => rw [e1] at hz; cases hz
    | some y =>
      cases e2 : h x with
      | none => rw [e1, e2] at hz; cases hz
      | some ys =>
        rw [e1, e2] at hz
        cases hz
        refine he.dr x a d fs F H ι w σ wd e hd r y e1 _ fun v F1 H1 ι1 s1 d1 r1 => ?_
        refine hr.dr x a d fs F1 H1 ι1 w σ d1 e (s1.ex _ _ hd) (r.mono s1.ex s1.ix) ys e2 _ fun vs F2 H2 ι2 s2 d2 r2 => ?_
        exact q (v :: vs) F2 H2 ι2 (s1.trans s2) d2 (.cons (Rep.mono s2.ex s2.ix r1) r2)⟩
/-- the suite: z = (..) -/
def suiteS (c : Str) (j : Nat) (g : Exn → Option (List D)) (x : Exn) : SemS := fun ρ w => if x.c = c then (match g x with
  | some ds => if ds.length ≤ most then .nx (ρ.set j (.dat (.tup ds))) w else .stuck
  | none => .stuck) else .stuck
theorem dsu_set {K : PySem.W.Frag} {E : XK} {ta : TAX} {g : Exn → Option (List D)} {j : Nat} (h : DRXA K i c ta g) : DSU K E i (fun a cls d => tSeq (tAsg (tTup (ta a cls d)) (gName j)) tNext) (suiteS c j g) := by
  intro x a d fs F0 H0 F H ι0 ι w σ ρ D st wd l e hd r o
  unfold suiteS at o
  split at o
  · rename_i hc
    cases q : g x with
    | none => rw [q] at o; exact False.elim o
    | some ds =>
      simp only [q] at o
      split at o
      · rename_i hm
        rw [hc]
        refine h x a d fs F H ι w σ wd e hd r ds q _ fun vs F1 H1 ι1 s1 d1 r1 => ⟨by rw [r1.length]; exact most_le hm, fun p hp => ?_⟩
        have s2 : Stp F1 H1 ι1 (upd F1 p (.tup vs)) (upd H1 p (.tup vs)) ι1 := Stp.fresh hp (d1.free hp)
        exact o (σ.set j (some (.ref p))) _ _ ι1 (((Rch.now st).step s1).step s2) (d1.fresh hp) (((l.mono s1).mono s2).set (.tup (SqT.of upd_same) (r1.up d1 hp)))
      · exact False.elim o
  · exact False.elim o
def tryS2 (j i : Nat) (c : Str) (f : Sem) (sa : SemA) (ss : Exn → SemS) : SemS := fun ρ w => if i < ρ.length then tryS j i c f sa ss ρ w else .stuck
theorem ds_tryAs {E : XK} {k kk m j l : Nat} {c x y z : Str} {g : Sem} {gx : Exn → Option (List D)} {e : Expr} {es ex : List Expr} {ta : TA} {sa : SemA} {tx : TAX} {py pz pt pc p1 p2 p3 p4 p5 : Pos} (D : DefOk X.prog X.w X.K X.mg X.base x k m g) (hr : Room kk X.A) (hkj : k ≤ kk) (hs : X.stack = X.env :: X.outer) (hf : X.env.frame = some X.env.locals) (hN : X.N.Nodup) (tk : Takes X fun cls d _ H => E cls d H)
    (hm : X.mg c = some (.ref (He.ga X.K c))) (me : PySem.W.exmOne X.K (.ref (He.ga X.K c)) (.ref (He.ga X.K c)) = some true) (ha : ∀ pn xe, DA (X.tr pn xe) EF (e :: es) ta sa) (hl : ∀ ρ w ds w1, sa ρ w = .ok ds w1 → ds.length = m) (hx : DXA X i c ex tx gx) {kt : Nat}
    (hi : X.N[i]? = some n := by rfl) (hj : X.N[j]? = some y := by rfl) (hl2 : X.N[l]? = some z := by rfl) (hn : X.env.scope.names.lookup n = some .local := by rfl) (hy : X.env.scope.names.lookup y = some .local := by rfl) (hz : X.env.scope.names.lookup z = some .local := by rfl)
    (hg : Gl X x := by rfl) (hgc : Gl X c := by rfl) (hdb : (x == ("__debug__" : Str)) = false := by decide) (hdc : (c == ("__debug__" : Str)) = false := by decide) (he : starEach (e :: es) X.env = (false, eval e X.env) :: starEach es X.env := by rfl) (hpl : (backTo p1 (starEach es X.env)).any (·.1) = false := by rfl)
    (hs1 : swapsWith (.Call (.Name x pc) (e :: es) [] p1) (some (.Name y py)) p2.line X.env = pure false := by rfl) (hs2 : swapsWith (.Tuple ex kt pt) (some (.Name z pz)) p3.line X.env = pure false := by rfl) (hkn : X.env.kindOf n = some .local := by rfl) :
    DS X E (.Try [.Assign [.Name y py] (.Call (.Name x pc) (e :: es) [] p1) p2] [.ExceptHandler (some (.Name c p4)) (some n) [.Assign [.Name z pz] (.Tuple ex kt pt) p3] p5] [] [] pos)
      (fun DD σ H => tSeq (tAsg (tCallS (Spec X.K m g) (WE (wAs X.K (.ref (He.ga X.K c)) i (fun a cls d => tSeq (tAsg (tTup (tx a cls d)) (gName l)) tNext) (fun cls d _ H => E cls d H) DD)) ta) (gName j)) tNext DD σ H)
      (tryS2 j i c g sa (suiteS c l gx)) := by
  obtain ⟨fd, ps, hb, G⟩ := D.ex
  refine ⟨ps_try_as (Wout := fun cls d _ H => E cls d H) (tb := fun W => tSeq (tAsg (tCallS (Spec X.K m g) (WE W) ta) (gName j)) tNext) (ts := fun a cls d => tSeq (tAsg (tTup (tx a cls d)) (gName l)) tNext) hs hf hN hi hkn ⟨hgc, hdc, .inl hm⟩ tk (fun W pn xe tkW _ => ?_) (fun a oe cls d pn h1 h2 => ?_), ?_⟩
  · exact pss_one (ps_set hN hj (.inl hy) (pe_callS (G.mono hkj) hr hg D.hm D.kp hb (fun σ => passAt tkW σ) (ha pn xe).pa hdb he hpl) hs1 (.inr hy))
  · exact pss_one (ps_set hN hl2 (.inl hz) (pe_tup (hx.pa a oe cls d pn h1 h2)) hs2 (.inr hz))
  · intro F0 H0 F H ι0 ι w σ ρ DD st wd sl o
    unfold tryS2 at o
    split at o
    · rename_i hlt
      exact dsr_try (ha [] (fun _ _ => False)).dr hl me (dsu_set hx.dr) _ ρ.length hlt F0 H0 F H ι0 ι w σ ρ DD rfl st wd sl o
    · exact False.elim o
end
end DL

/-! The defs, their functions told apart. -/
namespace DL
open PySem PySem.Spec PyProof.Rows L2
section
variable {P : Program} {w : World} {K : PySem.W.Frag} {mg : Str → Option Value} {base : Heap}
theorem def_okF {x : Str} {st : Stmt} {fd : FuncData} {ps : List Str} {k n : Nat} {f : Sem} (N : List Str) (s : SemS) (F : FnP K x st (He.ga K x) fd) (hm : mg x = some (.ref (He.ga K x))) (S : FnScope N ps (defScope st)) (hn : ps.length = n)
    (hb : ∀ (kV doc pm : Value) (an : Option Addr) (cdv ct : Value) (us : List Value), us.length = ps.length → bindArgs (PySem.W.fnOf x x (defArgs st) (defBody st) (defScope st) .none kV doc pm an cdv ct) ⟨us, []⟩ = pure (ps.zip us)) (hf : f = runD N.length s)
    (hbody : ∀ (cdv : Value) (A : Around) (outer : List Env) (s0 : Shared) (H : Hp) (E : XK), Room k (A.deeper (envOfC x (defScope st) s0.heap.objs.size (He.ga K x) cdv)) →
      ∃ t, DSs (cxOf (L2.CX P w) P w K mg base N x (defScope st) (He.ga K x) cdv A outer s0 H E) E (defBody st) t s) : DefOk P w K mg base x (k + 1) n f := by
  rw [hf]
  exact def_ok F hm S hn hb hbody
theorem defG_okF {x : Str} {st : Stmt} {fd : FuncData} {ps : List Str} {k n : Nat} {f : Sem} (N : List Str) (s : SemS) (F : FnP K x st (He.ga K x) fd) (hm : mg x = some (.ref (He.ga K x))) (S : FnScope N ps (defScope st)) (hn : ps.length = n)
    (hb : ∀ (kV doc pm : Value) (an : Option Addr) (cdv ct : Value) (us : List Value), us.length = ps.length → bindArgs (PySem.W.fnOf x x (defArgs st) (defBody st) (defScope st) .none kV doc pm an cdv ct) ⟨us, []⟩ = pure (ps.zip us)) (hf : f = runD N.length s)
    (hbody : ∀ (cdv : Value) (A : Around) (outer : List Env) (s0 : Shared) (H : Hp) (E : XK), A.guards = some [] → Room k (A.deeper (envOfC x (defScope st) s0.heap.objs.size (He.ga K x) cdv)) →
      ∃ t, DSs (cxOf (L2.CX P w) P w K mg base N x (defScope st) (He.ga K x) cdv A outer s0 H E) E (defBody st) t s) : DefOkG P w K mg base x (k + 1) n f := by
  rw [hf]
  exact defG_ok F hm S hn hb hbody
theorem defN_okF {x pv : Str} {st : Stmt} {fd : FuncData} {k : Nat} {f : Sem} (N : List Str) (s : SemS) (F : FnP K x st (He.ga K x) fd) (hm : mg x = some (.ref (He.ga K x))) (S : FnScope N [pv] (defScope st))
    (hb : ∀ (kV doc pm : Value) (an : Option Addr) (cdv ct : Value) (rest : List Value), bindArgs (PySem.W.fnOf x x (defArgs st) (defBody st) (defScope st) .none kV doc pm an cdv ct) ⟨rest, []⟩ = (newTuple rest >>= fun t => pure [(pv, t)])) (hf : f = fun ds w => runD N.length s [.tup ds] w)
    (hbody : ∀ (cdv : Value) (A : Around) (outer : List Env) (s0 : Shared) (H : Hp) (E : XK), Room k (A.deeper (envOfC x (defScope st) s0.heap.objs.size (He.ga K x) cdv)) →
      ∃ t, DSs (cxOf (L2.CX P w) P w K mg base N x (defScope st) (He.ga K x) cdv A outer s0 H E) E (defBody st) t s) : DefOkN P w K mg base x (k + 1) f := by
  rw [hf]
  exact defN_ok F hm S hb hbody
end
theorem de_globI {X : Cx} {E : XK} {x : Str} {i : Int} {pos : Pos} (h : ∃ t, X.mg x = some (.int i t)) (hg : Gl X x := by rfl) (hd : (x == ("__debug__" : Str)) = false := by decide) : DE X E (.Name x pos) (tC (.int i)) (cst (.int i)) := by
  obtain ⟨t, h⟩ := h
  exact de_glob (v := .int i) h ⟨t, rfl⟩ (fun _ _ => .int i) hg hd
theorem de_globS {X : Cx} {E : XK} {x z : Str} {pos : Pos} (h : ∃ t, X.mg x = some (.str z t)) (hg : Gl X x := by rfl) (hd : (x == ("__debug__" : Str)) = false := by decide) : DE X E (.Name x pos) (tC (.str z)) (cst (.str z)) := by
  obtain ⟨t, h⟩ := h
  exact de_glob (v := .str z) h ⟨t, rfl⟩ (fun _ _ => .str z) hg hd
end DL
namespace DL
open PySem PySem.Spec PyProof.Rows L2
section
variable {X : Cx} {E : XK} {elt tg iter : Expr} {ifs : List Expr} {scope : Scope} {own : List (Str × Nat)} {pos spos : Pos} {wi : TI} {g : TG} {tt : TT} {te : TE} {si : SemI} {sg : SemG} {st : SemT} {se : SemE}
theorem de_lc0 (s0 : Shared) (h0 : Hp) (hN : X.N.Nodup) (hi : DI X E tg iter wi si) (ok : BlkOk X.N X.env.scope scope own)
    (hg : ∀ (s : Shared) (H : Hp) (C : Addr) (cl : List (Str × Addr)) (fp : List Addr), DG (X.blk s H scope (compEnvC scope cl C X.env) fp) tg g sg)
    (ht0 : DTs (X.blk s0 h0 scope (compEnvC scope [] 0 X.env) []) EF ifs tt st) (he0 : DE (X.blk s0 h0 scope (compEnvC scope [] 0 X.env) []) EF elt te se)
    (ht : ∀ (s : Shared) (H : Hp) (C : Addr) (cl : List (Str × Addr)) (fp : List Addr), DTs (X.blk s H scope (compEnvC scope cl C X.env) fp) EF ifs tt st)
    (he : ∀ (s : Shared) (H : Hp) (C : Addr) (cl : List (Str × Addr)) (fp : List Addr), DE (X.blk s H scope (compEnvC scope cl C X.env) fp) EF elt te se)
    (hw : ∀ x σ H Q, g x (L2.wipe σ (own.map (·.2))) H Q → g x (L2.wipe σ (own.map (·.2))) H fun σ2 H2 => L2.wipe σ2 (own.map (·.2)) = L2.wipe σ (own.map (·.2)) ∧ Q σ2 H2) (hc : X.calm = true := by rfl) (hs : ∀ x, foldedSetIterable iter X.env x = pure x := by intro _; rfl) :
    DE X E (.ListComp elt [⟨tg, iter, ifs, 0⟩] scope pos) (tLc wi g tt te (own.map (·.2))) (lcE si sg st se (own.map (·.2))) := de_lc hN hi ok hg ht he hw hc hs s0 h0
theorem ds_setLc0 {i : Nat} {y : Str} {py : Pos} (s0 : Shared) (h0 : Hp) (hN : X.N.Nodup) (hi : DI X E tg iter wi si) (ok : BlkOk X.N X.env.scope scope own)
    (hg : ∀ (s : Shared) (H : Hp) (C : Addr) (cl : List (Str × Addr)) (fp : List Addr), DG (X.blk s H scope (compEnvC scope cl C X.env) fp) tg g sg)
    (ht0 : DTs (X.blk s0 h0 scope (compEnvC scope [] 0 X.env) []) EF ifs tt st) (he0 : DE (X.blk s0 h0 scope (compEnvC scope [] 0 X.env) []) EF elt te se)
    (ht : ∀ (s : Shared) (H : Hp) (C : Addr) (cl : List (Str × Addr)) (fp : List Addr), DTs (X.blk s H scope (compEnvC scope cl C X.env) fp) EF ifs tt st)
    (he : ∀ (s : Shared) (H : Hp) (C : Addr) (cl : List (Str × Addr)) (fp : List Addr), DE (X.blk s H scope (compEnvC scope cl C X.env) fp) EF elt te se)
    (hw : ∀ x σ H Q, g x (L2.wipe σ (own.map (·.2))) H Q → g x (L2.wipe σ (own.map (·.2))) H fun σ2 H2 => L2.wipe σ2 (own.map (·.2)) = L2.wipe σ (own.map (·.2)) ∧ Q σ2 H2)
    (hsw : swapsWith (.ListComp elt [⟨tg, iter, ifs, 0⟩] scope pos) (some (.Name y py)) spos.line X.env = pure true) (hc : X.calm = true := by rfl) (hy : X.N[i]? = some y := by rfl) (hyl : X.env.scope.names.lookup y = some .local := by rfl) (hs : ∀ x, foldedSetIterable iter X.env x = pure x := by intro _; rfl) :
    DS X E (.Assign [.Name y py] (.ListComp elt [⟨tg, iter, ifs, 0⟩] scope pos) spos) (tAsg (tLc wi g tt te (own.map (·.2))) (gName i)) (setS i (lcE si sg st se (own.map (·.2)))) := ds_setLc hN hi ok hg ht he hw hsw s0 h0 hc hy hyl hs
end
end DL
namespace DL
open PySem PySem.Spec PyProof.Rows L2
section
variable {P : Program} {w : World} {K : PySem.W.Frag} {mg : Str → Option Value} {base : Heap}
theorem defG_raw {x : Str} {st : Stmt} {fd : FuncData} {ps : List Str} {k n : Nat} {f : Sem} (N : List Str) (s : SemS) (F : FnP K x st (He.ga K x) fd) (S : FnScope N ps (defScope st)) (hn : ps.length = n) (hf : f = runD N.length s)
    (hbody : ∀ (cdv : Value) (A : Around) (outer : List Env) (s0 : Shared) (H : Hp) (E : XK), A.guards = some [] → Room k (A.deeper (envOfC x (defScope st) s0.heap.objs.size (He.ga K x) cdv)) →
      ∃ t, DSs (cxOf (L2.CX P w) P w K mg base N x (defScope st) (He.ga K x) cdv A outer s0 H E) E (defBody st) t s) : GOk P w K mg base (k + 1) (He.ga K x) fd ps (Spec K n f) := by
  subst hf
  obtain ⟨oc, od, dV, kV, doc, pm, an, cdv, ct, osl, rfl, lk, hcd, _, _⟩ := F.ex
  refine gn_of lk hcd S (fun vs H Q E h => by rw [hn]; exact Spec.len h) fun A outer s0 H vs Q E hG hr h => ?_
  obtain ⟨t, ht⟩ := hbody cdv A outer s0 H E hG hr
  exact ⟨t, ht.ps, body_ok ht.dr h⟩
end
end DL

/-! Own errors as values. -/
namespace DL
open PySem PySem.Spec PyProof.Rows L2
/-- a new error of C, __init__ told by sp -/
def tMkE (C : Addr) (sp : Sp) (ta : TA) : TE := fun σ H Q => ta σ H fun vs H1 => vs.length ≤ 900 ∧ ∀ a, H1 a = none → sp (.ref a :: vs) (upd H1 a (exo a C none)) (fun v H2 => v = .non ∧ Q (.ref a) H2) fun _ _ _ => False
section
variable {X : Cx} {x : Str} {C fI : Addr} {k : Nat} {fd : FuncData} {ps : List Str} {sp : Sp} {e : Expr} {es : List Expr} {ta : TA} {p pos : Pos}
theorem pe_oex (T : OexC X.K C) (iC : PySem.W.findIn X.K (.ref C) "__init__" = some (some (.ref fI))) (tI : PySem.W.typeIn X.K (.ref fI) = some (.type "function")) (G : FnOk X.prog X.w X.K X.mg X.base (L2.CX X.prog X.w) k fI fd ps sp) (rm : Room (k + 1) X.A) (hb : Binds X.K fd ps [])
    (hg : Gl X x) (hm : X.mg x = some (.ref C)) (ha : PA X (e :: es) ta) (hdb : (x == ("__debug__" : Str)) = false := by decide) (he : starEach (e :: es) X.env = (false, eval e X.env) :: starEach es X.env := by rfl) (hpl : (backTo pos (starEach es X.env)).any (·.1) = false := by rfl) :
    PE X (.Call (.Name x p) (e :: es) [] pos) (tMkE C sp ta) := ⟨fun pins st σ H Q J told => by
  obtain ⟨_, _, _, _, _, _, _, _, _, _, _, _, _, _, _, atC, bases⟩ := T.cls
  refine wpAny_Call_Name_kw (ld_glob J hg hm ?_ hdb)
  refine PySem.W.callWith_K (h₀ := X.base) J.ok.mod.kin T.kC (thn (ha.run pos pins st σ H _ J told) fun us mid ⟨vs, Hm, Jm, rel, few, told2⟩ => ⟨Jm.kIn, ?_⟩) he hpl
  show wpAny _ _ (call (.ref C) us) _ _ _
  obtain ⟨hp, gs, dr, tk, os⟩ := mid
  have fresh : Hm (hp.objs.size + 1) = none := Jm.hok.fresh (Nat.le_succ _)
  have promise := told2 _ fresh
  have grown : ∀ b o, hp.get? b = some o → ((hp.push (PySem.W.kdv_tup us)).push (PySem.HandSPX.excO C hp.objs.size)).get? b = some o := fun b o z => Heap.get?_push_of_some _ (Heap.get?_push_of_some _ z)
  have made : ((hp.push (PySem.W.kdv_tup us)).push (PySem.HandSPX.excO C hp.objs.size)).get? (hp.objs.size + 1) = some (PySem.HandSPX.excO C hp.objs.size) := by heap_get
  have J2 : Inv X pins σ (upd Hm (hp.objs.size + 1) (exo (hp.objs.size + 1) C none)) ⟨(hp.push (PySem.W.kdv_tup us)).push (PySem.HandSPX.excO C hp.objs.size), gs, dr, tk, os⟩ :=
    Jm.laid (t' := tk) (a := hp.objs.size + 1) (o := exo (hp.objs.size + 1) C none) (h' := (hp.push (PySem.W.kdv_tup us)).push (PySem.HandSPX.excO C hp.objs.size)) grown (Nat.le_succ _) (exo_ok made)
  have rel2 : Vals (V.ref (hp.objs.size + 1) :: vs) (Value.ref (hp.objs.size + 1) :: us) := .cons rfl rel
  have count : ((Value.ref (hp.objs.size + 1) :: us) ++ ([] : List Value)).length = ps.length := by
    rw [List.append_nil, ← rel2.length]
    exact G.len _ _ _ _ promise
  have line : us.length ≤ sizeLine := by
    rw [← Paired.length rel, sizeLine_eq]
    omega
  have binds := hb _ (Value.ref (hp.objs.size + 1) :: us) J2.kIn count
  rw [List.append_nil] at binds
  refine wpAny_call (PySem.HandSPX.call_own F.excBase_ValueError (fun Y => PySem.HandSPX.refsVE_contains Y _ bases) (Jm.kIn _ _ atC) (PySem.W.looks_findIn Jm.kIn iC) (fun self => PySem.W.bind_fn Jm.kIn self tI) line
    (codeAny_mono (G.run _ X.stack _ _ ⟨Value.ref (hp.objs.size + 1) :: us, []⟩ (Value.ref (hp.objs.size + 1) :: us) _ _ (fun _ _ _ => False) (rm.make C us []) (J2.env0.make C us []) binds rel2 promise) fun r s' back => ?_))
  match r with
  | .error er =>
    obtain ⟨_, _, _, _, _, _, _, _, _, _, _, _, z⟩ := back
    exact z.elim
  | .ok .next => exact back.elim
  | .ok .brk => exact back.elim
  | .ok .cont => exact back.elim
  | .ok (.ret u) =>
    obtain ⟨v, H', J3, ru, rfl, q⟩ := J2.after back
    exact ⟨ru, .ref _, H', J3, rfl, q⟩⟩
end
def exnF (c : Str) (names : List Str) (ds : List D) : Option D := if ds.length = names.length then some (.exn c (names.zip ds).reverse) else none
/-- two new things, both frozen -/
theorem two_new {K : PySem.W.Frag} {F H H' : Hp} {ι : List Addr} {w : W} {a d : Addr} {o u : HO} (wd : Wd K F H ι w) (ha : H a = none) (hd : H d = none) (ne : d ≠ a) (ea : H' a = some o) (ed : H' d = some u) (same : ∀ b, b ≠ a → b ≠ d → H' b = H b) :
    Stp F H ι (upd (upd F d u) a o) H' ι ∧ Wd K (upd (upd F d u) a o) H' ι w := by
  have e : H' = upd (upd H d u) a o := by
    funext b
    by_cases z : b = a
    · subst z; rw [ea, upd_same]
    · by_cases y : b = d
      · subst y; rw [ed, upd_ne z, upd_same]
      · rw [same b z y, upd_ne z, upd_ne y]
  subst e
  have h2 : (upd H d u) a = none := by rw [upd_ne (Ne.symm ne)]; exact ha
  have f1 := wd.free hd
  have w1 := wd.fresh (o := u) hd
  have f2 := w1.free h2
  exact ⟨(Stp.fresh hd f1).trans (Stp.fresh h2 f2), w1.fresh h2⟩
theorem de_oex {X : Cx} {E : XK} {x c : Str} {fI : Addr} {k : Nat} {fd : FuncData} {ps names : List Str} {e : Expr} {es : List Expr} {ta : TA} {sa : SemA} {p pos : Pos} (T : OexC X.K (He.ga X.K c)) (iC : PySem.W.findIn X.K (.ref (He.ga X.K c)) "__init__" = some (some (.ref fI))) (tI : PySem.W.typeIn X.K (.ref fI) = some (.type "function"))
    (G : FnOk X.prog X.w X.K X.mg X.base (L2.CX X.prog X.w) k fI fd ps (spInit (He.ga X.K c) names)) (rm : Room (k + 1) X.A) (hb : Binds X.K fd ps []) (hm : X.mg x = some (.ref (He.ga X.K c))) (ha : DA X E (e :: es) ta sa) (hn : names.length ≤ 900) (hg : Gl X x := by rfl) (hdb : (x == ("__debug__" : Str)) = false := by decide)
    (he : starEach (e :: es) X.env = (false, eval e X.env) :: starEach es X.env := by rfl) (hpl : (backTo pos (starEach es X.env)).any (·.1) = false := by rfl) : DE X E (.Call (.Name x p) (e :: es) [] pos) (tMkE (He.ga X.K c) (spInit (He.ga X.K c) names) ta) (mkA sa (exnF c names)) :=
  ⟨pe_oex T iC tI G rm hb hg hm ha.pa hdb he hpl, by
    refine dr_mk (g := fun vs H1 Q => vs.length ≤ 900 ∧ ∀ a, H1 a = none → spInit (He.ga X.K c) names (.ref a :: vs) (upd H1 a (exo a (He.ga X.K c) none)) (fun v H2 => v = .non ∧ Q (.ref a) H2) fun _ _ _ => False) ha.dr (fun _ _ _ q => q) fun F H ι w xs ds z wd r ez Q q => ?_
    unfold exnF at ez
    split at ez
    · rename_i hl
      cases ez
      refine ⟨by rw [r.length, hl]; exact hn, fun a na => ⟨a, xs, rfl, by rw [r.length, hl], upd_same, fun d H' hd ea ed same => ⟨rfl, ?_⟩⟩⟩
      have ne : d ≠ a := fun z => by
        rw [z, upd_same] at hd
        cases hd
      rw [upd_ne ne] at hd
      obtain ⟨s, w2⟩ := two_new wd na hd ne ea ed fun b h1 h2 => by rw [same b h1 h2, upd_ne h1]
      refine q (.ref a) _ _ ι s w2 (.exn upd_same ?_ (((RepF.zip names r).reverse).mono s.ex fun _ _ h => h))
      rw [upd_ne ne, upd_same]
    · cases ez⟩
/-! ### isinstance of an error held as a value -/
/-- y is an own class or a built-in one -/
def ClsV (K : PySem.W.Frag) (C : Addr) (y : V) (b : Bool) : Prop := (∃ D, y = .ref D ∧ PySem.W.kitOne K (.ref C) (.ref D) = some b) ∨ ∃ T, y = .ty T ∧ PySem.W.kitOne K (.ref C) (.type T) = some b
def rIsE (K : PySem.W.Frag) : List V → Hp → VK → Prop := fun xs H Q => ∃ (C a dx : Addr) (fs : List (Str × V)) (y : V) (b : Bool), xs = [.ref a, y] ∧ KitE K C ∧ ClsV K C y b ∧ H a = some (exo a C (some dx)) ∧ H dx = some (exd dx fs) ∧ Q (.bl b) H
theorem call_isV {X : Cx} : CallR X (.builtin "isinstance") (rIsE X.K) := by
  intro pins s σ H xs us Q I r h
  obtain ⟨C, a, dx, fs, y, b, rfl, T, hk, ha, hd, q⟩ := h
  obtain ⟨u1, u2, rfl, r1, r2⟩ := vals2 r
  cases r1
  obtain ⟨t1, hget⟩ := exo_at I.hok ha
  obtain ⟨mA, hns, _⟩ := exd_at I.hok hd
  obtain ⟨od, ho, hl⟩ := lookIn_ns hns
  have J : PySem.W.InstAt s.heap a _ C (some od) := ⟨hget, rfl, by unfold PySem.W.notCls; rfl, ho⟩
  rcases hk with ⟨D, rfl, hk⟩ | ⟨N, rfl, hk⟩
  · cases r2
    exact PySem.W.kia_one (PySem.W.kitx_exc T.cl T.ga T.gg T.sb T.ca T.sp T.tk T.mr) I.kIn J hk (fun z => nomatch z) fun tk => ⟨.bl b, H, I.kept (t' := tk) fun _ _ z => z, rfl, q⟩
  · cases r2
    exact PySem.W.kia_one (PySem.W.kitx_exc T.cl T.ga T.gg T.sb T.ca T.sp T.tk T.mr) I.kIn J hk (fun z => nomatch z) fun tk => ⟨.bl b, H, I.kept (t' := tk) fun _ _ z => z, rfl, q⟩
end DL

/-! Errors as values: their fields, their kinds. -/
namespace DL
open PySem PySem.Spec PyProof.Rows L2
/-- e.f, e an error of one of these classes -/
def tXv (K : PySem.W.Frag) (f : Str) (te : TE) : TE := fun σ H Q => te σ H fun x H1 => ∃ (a dx C : Addr) (fs : List (Str × V)) (v : V), x = .ref a ∧ XfC K C ∧ PySem.W.findIn K (.ref C) f = some none ∧ H1 a = some (exo a C (some dx)) ∧ H1 dx = some (exd dx fs) ∧ fs.lookup f = some v ∧ Q v H1
theorem pe_xv {X : Cx} {e : Expr} {te : TE} {pos : Pos} {f : Str} (he : PE X e te) (base : attributeBase e f X.env (eval e X.env) = eval e X.env := by rfl) : PE X (.Attribute e f pos) (tXv X.K f te) := ⟨fun pins st σ H Q I told => by
  refine attr_of base (thn (he.run pins st σ H _ I told) fun u mid found => ?_)
  obtain ⟨x, H1, J, rel, a, dx, C, fs, v, rfl, T, no, at_a, at_d, look, q⟩ := found
  obtain rfl : u = Value.ref a := rel
  obtain ⟨t1, there⟩ := exo_at J.hok at_a
  obtain ⟨mA, space, rels⟩ := exd_at J.hok at_d
  obtain ⟨od, has, reads⟩ := lookIn_ns space
  obtain ⟨u, got, ru⟩ := RelO.some_of (v := v) (o := mA f) (by rw [← look]; exact rels f)
  have inst : PySem.W.InstAt mid.heap a _ C (some od) := ⟨there, rfl, by unfold PySem.W.notCls; rfl, has⟩
  exact HandSPX.exc_get J.kIn inst T.ga T.gg T.exC (PySem.W.findObj_own T.hdC no rfl (by rw [reads, got])) (handed_of ru) ⟨v, H1, J.tok _, ru, q⟩⟩
/-- the field f of an error whose class is in the table -/
def fldD (cs : List Str) (f : Str) : D → Option D
  | .exn c fs => if cs.contains c then fs.lookup f else none
  | _ => none
theorem de_xv {X : Cx} {E : XK} {e : Expr} {te : TE} {s : SemE} {pos : Pos} {f : Str} (cs : List Str) (h : ∀ c ∈ cs, XfC X.K (He.ga X.K c) ∧ PySem.W.findIn X.K (.ref (He.ga X.K c)) f = some none) (he : DE X E e te s) (base : attributeBase e f X.env (eval e X.env) = eval e X.env := by rfl) :
    DE X E (.Attribute e f pos) (tXv X.K f te) (un (fldD cs f) s) := ⟨pe_xv he.pe base, by
  refine dr_un (k := fun x _ H1 Q => ∃ (a dx C : Addr) (fs : List (Str × V)) (v : V), x = .ref a ∧ XfC X.K C ∧ PySem.W.findIn X.K (.ref C) f = some none ∧ H1 a = some (exo a C (some dx)) ∧ H1 dx = some (exd dx fs) ∧ fs.lookup f = some v ∧ Q v H1) he.dr (fun _ _ _ q => q) ?_
  intro F H ι w _ v x z wd rx ez Q q
  unfold fldD at ez
  split at ez
  · split at ez
    · rename_i c es hc
      have rx : Rep X.K F ι v (.exn c es) := rx
      cases rx with
      | exn h1 h2 r =>
        obtain ⟨u, lk, ru⟩ := r.lookup ez
        obtain ⟨t1, t2⟩ := h c (List.contains_iff_mem.mp hc)
        exact ⟨_, _, _, _, u, rfl, t1, t2, wd.ex _ _ h1, wd.ex _ _ h2, lk, okv_now q wd ru⟩
    · cases ez
  · cases ez⟩
/-- isinstance of an error whose class is in the table -/
def isED (tab : List (Str × Bool)) : D → Option D
  | .exn c _ => (tab.lookup c).map .bl
  | _ => none
theorem mem_of_look {tab : List (Str × Bool)} {c : Str} {b : Bool} (h : tab.lookup c = some b) : (c, b) ∈ tab := by
  induction tab with
  | nil => cases h
  | cons x r ih =>
    obtain ⟨d, z⟩ := x
    rw [List.lookup_cons] at h
    cases q : c == d with
    | true => rw [q] at h; cases h; rw [beq_iff_eq.mp q]; exact List.mem_cons_self
    | false => rw [q] at h; exact List.mem_cons_of_mem _ (ih h)
theorem de_isE {X : Cx} {E : XK} {a e2 : Expr} {ta : TE} {sa : SemE} {y : V} {p pos : Pos} (tab : List (Str × Bool)) (h : ∀ q ∈ tab, KitE X.K (He.ga X.K q.1) ∧ ClsV X.K (He.ga X.K q.1) y q.2) (hi : X.mg "isinstance" = none) (ha : DE X E a ta sa) (h2 : PE X e2 (tC y)) (hg : Gl X "isinstance" := by rfl)
    (he : starEach [a, e2] X.env = (false, eval a X.env) :: starEach [e2] X.env := by rfl) (he2 : starEach [e2] X.env = (false, eval e2 X.env) :: starEach [] X.env := by rfl) (hpl : (backTo pos (starEach [e2] X.env)).any (·.1) = false := by rfl) :
    DE X E (.Call (.Name "isinstance" p) [a, e2] [] pos) (tCB (rIsE X.K) (tCons ta (tCons (tC y) tNil))) (un (isED tab) sa) := ⟨pe_callB call_isV hg hi (by decide +kernel) (pa_cons ha.pe (pa_cons h2 pa_nil he2) he) (by decide) (by decide) he hpl, by
  refine dr_un (k := fun x _ H1 Q => rIsE X.K [x, y] H1 Q) ha.dr (fun _ _ _ q => q) ?_
  intro F H ι w _ v x z wd rx ez Q q
  unfold isED at ez
  split at ez
  · rename_i c es
    have rx : Rep X.K F ι v (.exn c es) := rx
    cases rx with
    | exn h1 h2 r =>
      cases lk : tab.lookup c with
      | none => rw [lk] at ez; cases ez
      | some b =>
        rw [lk] at ez
        cases ez
        obtain ⟨t1, t2⟩ := h (c, b) (mem_of_look lk)
        exact ⟨_, _, _, _, y, b, rfl, t1, t2, wd.ex _ _ h1, wd.ex _ _ h2, okv_now q wd (.bl b)⟩
  · cases ez⟩
end DL

/-! Errors without fields, as values. -/
namespace DL
open PySem PySem.Spec PyProof.Rows L2
def tMk0 (C : Addr) : TE := fun _ H Q => ∀ a, H a = none → Q (.ref a) (upd H a (ExO (.ref C) a))
/-- C(), an own error class with no __init__ of its own -/
theorem pe_ex0 {X : Cx} {C : Addr} {bmB : List Value} {B newId initId : String} {x : Str} {p pos : Pos} (F : ExcBaseFacts B newId initId bmB) (inC : PySem.W.excIn X.K C bmB newId = true) (named : X.mg x = some (.ref C)) (kept : PySem.W.keepIn X.K (.ref C) = true) (hg : Gl X x)
    (hdb : (x == ("__debug__" : Str)) = false := by decide) : PE X (.Call (.Name x p) [] [] pos) (tMk0 C) := ⟨fun pins st σ H Q J told => by
  refine wpAny_Call_Name_kw (ld_glob J hg named ?_ hdb)
  refine PySem.W.callWith_K0 J.kIn kept ?_
  show wpAny _ _ (call (.ref C) []) _ _ _
  obtain ⟨_, _, _, _, _, _, _, _, _, _, _, _, _, _, _, _, _, cls, space, noInit, tail⟩ := exc_obj J.kIn inC
  refine wpAny_call_exc_subT F tail cls space noInit (fun h' a made => ?_) (Nat.zero_le _)
  have fresh : H a = none := J.hok.gone made.new
  obtain ⟨t, there, _, _⟩ := made.there
  exact ⟨.ref a, _, J.laidN made.keeps made.new fresh (exO_ok there ⟨rfl, rfl⟩ rfl rfl rfl (show 4 < 6 by decide)), rfl, told a fresh⟩⟩
theorem de_ex0 {X : Cx} {E : XK} {c : Str} {bmB : List Value} {B newId initId : String} {x : Str} {p pos : Pos} (F : ExcBaseFacts B newId initId bmB) (inC : PySem.W.excIn X.K (He.ga X.K c) bmB newId = true) (named : X.mg x = some (.ref (He.ga X.K c))) (kept : PySem.W.keepIn X.K (.ref (He.ga X.K c)) = true) (hg : Gl X x := by rfl)
    (hdb : (x == ("__debug__" : Str)) = false := by decide) : DE X E (.Call (.Name x p) [] [] pos) (tMk0 (He.ga X.K c)) (cst (.exn0 c)) := ⟨pe_ex0 F inC named kept hg hdb, fun H0 F' H ι w σ ρ d l Q q a na => okv_new d q na (.exn0 upd_same)⟩
/-! ### isinstance: with a dict or without -/
def rIsW (K : PySem.W.Frag) : List V → Hp → VK → Prop := fun xs H Q => DL.rIsE K xs H Q ∨ ∃ (C a : Addr) (y : V) (b : Bool), xs = [.ref a, y] ∧ ExcC K C ∧ ClsV K C y b ∧ H a = some (ExO (.ref C) a) ∧ Q (.bl b) H
theorem call_isW {X : Cx} : CallR X (.builtin "isinstance") (rIsW X.K) := by
  intro pins s σ H xs us Q I r h
  rcases h with h | ⟨C, a, y, b, rfl, T, hk, ha, q⟩
  · exact call_isV pins s σ H xs us Q I r h
  obtain ⟨u1, u2, rfl, r1, r2⟩ := vals2 r
  cases r1
  have it : ObjOk X.prog X.w H s.heap a (ExO (.ref C) a) := I.hok a _ ha
  obtain ⟨⟨oe, vs, there, z, hd, _⟩, _, _⟩ := it
  have J : PySem.W.InstAt s.heap a oe C none := by
    obtain ⟨oc, od, oda, osl⟩ := oe
    obtain ⟨z1, z2⟩ := z
    dsimp only at z1 z2 hd
    subst z1 z2 hd
    exact ⟨there, rfl, rfl, trivial⟩
  rcases hk with ⟨D, rfl, hk⟩ | ⟨N, rfl, hk⟩
  · cases r2
    exact PySem.W.kia_one (PySem.W.handS_kitx_exc T.hg T.hk T.hs T.hd T.ha T.hn T.ht T.hm) I.kIn J hk (fun z => nomatch z) fun tk => ⟨.bl b, H, I.kept (t' := tk) fun _ _ z => z, rfl, q⟩
  · cases r2
    exact PySem.W.kia_one (PySem.W.handS_kitx_exc T.hg T.hk T.hs T.hd T.ha T.hn T.ht T.hm) I.kIn J hk (fun z => nomatch z) fun tk => ⟨.bl b, H, I.kept (t' := tk) fun _ _ z => z, rfl, q⟩
def isWD (tab : List (Str × Bool)) : D → Option D
  | .exn c _ => (tab.lookup c).map .bl
  | .exn0 c => (tab.lookup c).map .bl
  | _ => none
theorem de_isW {X : Cx} {E : XK} {a e2 : Expr} {ta : TE} {sa : SemE} {y : V} {p pos : Pos} (tab : List (Str × Bool)) (h : ∀ q ∈ tab, KitE X.K (He.ga X.K q.1) ∧ ExcC X.K (He.ga X.K q.1) ∧ ClsV X.K (He.ga X.K q.1) y q.2) (hi : X.mg "isinstance" = none) (ha : DE X E a ta sa) (h2 : PE X e2 (tC y)) (hg : Gl X "isinstance" := by rfl)
    (he : starEach [a, e2] X.env = (false, eval a X.env) :: starEach [e2] X.env := by rfl) (he2 : starEach [e2] X.env = (false, eval e2 X.env) :: starEach [] X.env := by rfl) (hpl : (backTo pos (starEach [e2] X.env)).any (·.1) = false := by rfl) :
    DE X E (.Call (.Name "isinstance" p) [a, e2] [] pos) (tCB (rIsW X.K) (tCons ta (tCons (tC y) tNil))) (un (isWD tab) sa) := ⟨pe_callB call_isW hg hi (by decide +kernel) (pa_cons ha.pe (pa_cons h2 pa_nil he2) he) (by decide) (by decide) he hpl, by
  refine dr_un (k := fun x _ H1 Q => rIsW X.K [x, y] H1 Q) ha.dr (fun _ _ _ q => q) ?_
  intro F H ι w _ v x z wd rx ez Q q
  unfold isWD at ez
  split at ez
  · rename_i c es
    have rx : Rep X.K F ι v (.exn c es) := rx
    cases rx with
    | exn h1 h2 r =>
      cases lk : tab.lookup c with
      | none => rw [lk] at ez; cases ez
      | some b =>
        rw [lk] at ez
        cases ez
        obtain ⟨t1, _, t2⟩ := h (c, b) (mem_of_look lk)
        exact .inl ⟨_, _, _, _, y, b, rfl, t1, t2, wd.ex _ _ h1, wd.ex _ _ h2, okv_now q wd (.bl b)⟩
  · rename_i c
    have rx : Rep X.K F ι v (.exn0 c) := rx
    cases rx with
    | exn0 h1 =>
      cases lk : tab.lookup c with
      | none => rw [lk] at ez; cases ez
      | some b =>
        rw [lk] at ez
        cases ez
        obtain ⟨_, t1, t2⟩ := h (c, b) (mem_of_look lk)
        exact .inr ⟨_, _, y, b, rfl, t1, t2, wd.ex _ _ h1, okv_now q wd (.bl b)⟩
  · cases ez⟩
end DL

/-! Own errors made by keyword. -/
namespace PySem
namespace HandSPX
open PySem PySem.Spec PyProof.Rows
section
variable {M : Model} {prog : Program} {w : World} {A : Around} {E : Value → Shared → Prop} {R : Result → Shared → Prop} {hp : Heap} {gs : Array GenState} {dr : Drawn} {tk : Nat} {os : OsState}
variable {nm q : Str} {C N : Addr} {bs bm bmB : List Value} {hd : Bool} {sn : List Str} {sub : List Value} {ab : Bool} {col : Option Bool} {dd : Option Addr} {k0 k1 k2 k3 k5 : Option Value} {B newId initId : String} {ar : List Value} {kws : List (Str × Value)}
/-- BaseException.__new__ takes keywords too, and leaves them alone -/
theorem newKw (K : ExcBaseFacts B newId initId bmB) (same : ∀ Y : String, bm.contains (.type Y) = bmB.contains (.type Y)) (atC : hp.get? C = some (excClassObj nm q C N bs bm hd sn sub ab col dd k0 k1 k2 k3 k5 newId))
    (done : R (.ok (.ret (.ref (hp.objs.size + 1)))) ⟨(hp.push (W.kdv_tup ar)).push (excO C hp.objs.size), gs, dr, tk, os⟩) (line : ar.length ≤ sizeLine) : codeAny (model prog w) A (.builtin newId ⟨.ref C :: ar, kws⟩) R ⟨hp, gs, dr, tk, os⟩ := by
  have e1 := K.ends
  have e2 : (Value.ref C :: bm).contains (.type B) = true := by rw [List.contains_cons, same, K.hasB, Bool.or_true]
  have e3 : (Value.ref C :: bm).contains (.type "AttributeError") = false := by rw [List.contains_cons, same, K.noAttr]; rfl
  have e4 : (Value.ref C :: bm).contains (.type "NameError") = false := by rw [List.contains_cons, same, K.noName]; rfl
  refine codeAny_builtinAt K.entry ?_
  unfold Builtin.«BaseException.__new__»
  refine wpAt_bind ?_
  show wpAt _ _ _ (stack >>= _) _ _ _
  refine wpAt_bind (wpAt_stack fun p below => wpAt_of_wpAny ?_)
  wp_walk
  refine wpAt_of_wpAny ?_
  rw [K.owner]
  repeat (first | with_reducible refine wpAny_madeHere_exc K.canon atC ?_ | with_reducible refine wpAny_loadPart_at atC ?_ | (with_reducible refine wpAny_isSubtype_exc atC ?_; first | rw [e2] | rw [e3] | rw [e4]) | wp_step)
  show R _ _
  rw [Heap.size_push]
  exact done
theorem checkKw (K : ExcBaseFacts B newId initId bmB) (same : ∀ Y : String, bm.contains (.type Y) = bmB.contains (.type Y)) (atC : hp.get? C = some (excClassObj nm q C N bs bm hd sn sub ab col dd k0 k1 k2 k3 k5 newId)) {Q : Unit → Shared → Prop} (done : Q () ⟨hp, gs, dr, tk, os⟩) :
    wpAny M A (checkBuiltinCall newId ⟨.ref C :: ar, kws⟩) Q E ⟨hp, gs, dr, tk, os⟩ := by
  have e2 : (Value.ref C :: bm).contains (.type B) = true := by rw [List.contains_cons, same, K.hasB, Bool.or_true]
  have e5 := K.noStar
  simp only [checkBuiltinCall, K.newKind, K.newSplit, K.newRow]
  repeat (first | refine wpAny_loadPart_at atC ?_ | (refine wpAny_isSubtype_exc atC ?_; rw [e2]) | refine wpAny_staticBase_exc atC ?_ | refine wpAny_madeBy_exc atC ?_ | simp only [bne_self_eq_false, Bool.false_eq_true, if_false] | wp_step)
  exact done
theorem typeKw (K : ExcBaseFacts B newId initId bmB) (same : ∀ Y : String, bm.contains (.type Y) = bmB.contains (.type Y)) {fI : Addr} {Q : Fin → Shared → Prop} (atC : hp.get? C = some (excClassObj nm q C N bs bm hd sn sub ab col dd k0 k1 k2 k3 k5 newId))
    (looks : W.Looks (model prog w) hp (typeLookup (.ref C) "__init__") (some (.ref fI))) (binds : ∀ self, W.Looks (model prog w) hp (bindSpecial (.ref fI) self) (.ref fI, [self])) (line : ar.length ≤ sizeLine)
    (go : codeAny (model prog w) A (.call (.ref fI) ⟨.ref (hp.objs.size + 1) :: ar, kws⟩) (fun r s' => match r with | .ok (.ret v) => v = .none ∧ Q (.done (.ret (.ref (hp.objs.size + 1)))) s' | .ok _ => False | .error e => E e s') ⟨(hp.push (W.kdv_tup ar)).push (excO C hp.objs.size), gs, dr, tk, os⟩) :
    wpAny (model prog w) A (Builtin.«type.__call__» ⟨.ref C :: ar, kws⟩) Q E ⟨hp, gs, dr, tk, os⟩ := by
  repeat (first | with_reducible refine wpAny_loadPart_at atC ?_ | with_reducible refine wpAny_madeBy_exc atC ?_ | wp_step)
  refine codeAny_call_builtin_code (Code.quiet_builtin _ K.quiet) (checkKw K same atC ?_)
  refine newKw K same atC ?_ line
  show wpAny _ _ _ _ _ _
  have grown : ∀ b o, hp.get? b = some o → ((hp.push (W.kdv_tup ar)).push (excO C hp.objs.size)).get? b = some o := fun b o z => Heap.get?_push_of_some _ (Heap.get?_push_of_some _ z)
  have atC2 := grown _ _ atC
  have made : ((hp.push (W.kdv_tup ar)).push (excO C hp.objs.size)).get? (hp.objs.size + 1) = some (excO C hp.objs.size) := by heap_get
  have self : (Value.ref C :: bm).contains (.ref C) = true := by simp
  have l2 := looks.keeps grown
  have b2 := (binds (.ref (hp.objs.size + 1))).keeps grown
  unfold isInstance
  repeat (first | with_reducible refine wpAny_loadPart_at made ?_ | (with_reducible refine wpAny_isSubtype_exc atC2 ?_; rw [self]) | wp_step)
  show wpAny _ _ (typeLookup (.ref C) _) _ _ _
  refine l2.at ?_
  refine wpAny_holding (wpAny_bind (b2.at ?_))
  refine wpAny_bind (wpAny_call (codeAny_mono go fun r s' z => ?_))
  rcases r with e | (v | _ | _ | _) <;> first | exact z | exact z.elim | skip
  obtain ⟨rfl, z⟩ := z
  first
    | exact wpAny_pure (wpAny_pure z)
    | (wp_walk; exact z)
theorem callKw (K : ExcBaseFacts B newId initId bmB) (same : ∀ Y : String, bm.contains (.type Y) = bmB.contains (.type Y)) {fI : Addr} (atC : hp.get? C = some (excClassObj nm q C N bs bm hd sn sub ab col dd k0 k1 k2 k3 k5 newId))
    (looks : W.Looks (model prog w) hp (typeLookup (.ref C) "__init__") (some (.ref fI))) (binds : ∀ self, W.Looks (model prog w) hp (bindSpecial (.ref fI) self) (.ref fI, [self])) (line : ar.length ≤ sizeLine)
    (go : codeAny (model prog w) (A.under (.builtin "type.__call__" ⟨.ref C :: ar, kws⟩)) (.call (.ref fI) ⟨.ref (hp.objs.size + 1) :: ar, kws⟩) (W.InitBack (hp.objs.size + 1) R) ⟨(hp.push (W.kdv_tup ar)).push (excO C hp.objs.size), gs, dr, tk, os⟩) :
    codeAny (model prog w) A (.call (.ref C) ⟨ar, kws⟩) R ⟨hp, gs, dr, tk, os⟩ := by
  have g1 := tc_lookup
  have g2 := tc_bind (.ref C)
  have isT : (⟨hp, gs, dr, tk, os⟩ : Shared).TypeIs (.ref C) "type" := ⟨_, atC, rfl⟩
  refine codeAny_of_tree ?_
  show wpAny _ _ (callAny (.ref C) _) _ _ _
  repeat (any_goals (first | assumption | with_reducible refine wpAny_loadPart_at atC ?_ | wp_step))
  refine ⟨rfl, ?_⟩
  refine codeAny_call_builtin_at (Code.quiet_builtin _ (by decide +kernel)) entry_typeCall (wpAny_check_type_call_sub atC (typeKw K same atC looks binds line ?_))
  refine codeAny_mono go fun r s' z => ?_
  rcases r with e | (v | _ | _ | _) <;> exact z
end
end HandSPX
end PySem

/-! C(k = v, ..), an own error by keywords alone. -/
namespace DL
open PySem PySem.Spec PyProof.Rows L2
def tMkK (C : Addr) (m : Nat) (sp : Sp) (gV : List V → List V → List V) (tk : TA) : TE := fun σ H Q => tk σ H fun zs H1 => zs.length = m ∧ ∀ a, H1 a = none → sp (gV [.ref a] zs) (upd H1 a (exo a C none)) (fun v H2 => v = .non ∧ Q (.ref a) H2) fun _ _ _ => False
theorem pe_oexK {X : Cx} {x : Str} {C fI : Addr} {k : Nat} {fd : FuncData} {ps ks : List Str} {sp : Sp} {kws : List Keyword} {tk : TA} {p pos : Pos} {g : List Value → List Value → List Value} {gV : List V → List V → List V} (T : OexC X.K C) (iC : PySem.W.findIn X.K (.ref C) "__init__" = some (some (.ref fI))) (tI : PySem.W.typeIn X.K (.ref fI) = some (.type "function"))
    (G : FnOk X.prog X.w X.K X.mg X.base (L2.CX X.prog X.w) k fI fd ps sp) (rm : Room (k + 1) X.A) (hb : KBn X.K fd ps 1 ks g gV) (hg : Gl X x) (hm : X.mg x = some (.ref C)) (hk : PK X kws tk) (hall : (backToKw pos (keywordEach kws X.env)).all (·.1.isSome) = true := by rfl) (hks : (backToKw pos (keywordEach kws X.env)).filterMap (·.1) = ks := by rfl)
    (hdb : (x == ("__debug__" : Str)) = false := by decide) (hpl : ((backTo pos (starEach [] X.env)).any (·.1) || (backToKw pos (keywordEach kws X.env)).any (·.1.isNone)) = false := by rfl) : PE X (.Call (.Name x p) [] kws pos) (tMkK C ks.length sp gV tk) := ⟨fun pins st σ H Q J told => by
  obtain ⟨_, _, _, _, _, _, _, _, _, _, _, _, _, _, _, atC, bases⟩ := T.cls
  refine wpAny_Call_Name_kw (ld_glob J hg hm ?_ hdb)
  refine PySem.W.callWith_KW0 (h₀ := X.base) J.ok.mod.kin T.kC hall (thn (hk.run pos pins st σ H _ J told) fun ws mid ⟨zs, Hm, Jm, rel, len, told2⟩ => ⟨Jm.kIn, ?_⟩) hpl
  rw [hks]
  show wpAny _ _ (call (.ref C) [] (ks.zip ws)) _ _ _
  obtain ⟨hp, gs, dr, tok, os⟩ := mid
  have fresh : Hm (hp.objs.size + 1) = none := Jm.hok.fresh (Nat.le_succ _)
  have promise := told2 _ fresh
  have grown : ∀ b o, hp.get? b = some o → ((hp.push (PySem.W.kdv_tup [])).push (PySem.HandSPX.excO C hp.objs.size)).get? b = some o := fun b o z => Heap.get?_push_of_some _ (Heap.get?_push_of_some _ z)
  have made : ((hp.push (PySem.W.kdv_tup [])).push (PySem.HandSPX.excO C hp.objs.size)).get? (hp.objs.size + 1) = some (PySem.HandSPX.excO C hp.objs.size) := by heap_get
  have J2 : Inv X pins σ (upd Hm (hp.objs.size + 1) (exo (hp.objs.size + 1) C none)) ⟨(hp.push (PySem.W.kdv_tup [])).push (PySem.HandSPX.excO C hp.objs.size), gs, dr, tok, os⟩ :=
    Jm.laid (t' := tok) (a := hp.objs.size + 1) (o := exo (hp.objs.size + 1) C none) (h' := (hp.push (PySem.W.kdv_tup [])).push (PySem.HandSPX.excO C hp.objs.size)) grown (Nat.le_succ _) (exo_ok made)
  have one : Vals [V.ref (hp.objs.size + 1)] [Value.ref (hp.objs.size + 1)] := .cons rfl .nil
  have rel2 := hb.rel one rel
  have l2 : ws.length = ks.length := rel.length.symm.trans len
  refine wpAny_call (PySem.HandSPX.callKw F.excBase_ValueError (fun Y => PySem.HandSPX.refsVE_contains Y _ bases) (Jm.kIn _ _ atC) (PySem.W.looks_findIn Jm.kIn iC) (fun self => PySem.W.bind_fn Jm.kIn self tI) (Nat.zero_le _)
    (codeAny_mono (G.run _ X.stack _ _ ⟨[Value.ref (hp.objs.size + 1)], ks.zip ws⟩ _ _ _ (fun _ _ _ => False) (rm.make C [] (ks.zip ws)) (J2.env0.make C [] (ks.zip ws)) (hb.to _ [Value.ref (hp.objs.size + 1)] ws J2.kIn rfl l2) rel2 promise) fun r s' back => ?_))
  match r with
  | .error er =>
    obtain ⟨_, _, _, _, _, _, _, _, _, _, _, _, z⟩ := back
    exact z.elim
  | .ok .next => exact back.elim
  | .ok .brk => exact back.elim
  | .ok .cont => exact back.elim
  | .ok (.ret u) =>
    obtain ⟨v, H', J3, ru, rfl, q⟩ := J2.after back
    exact ⟨ru, .ref _, H', J3, rfl, q⟩⟩
end DL

/-! C(k = v, ..): the data side. -/
namespace DL
open PySem PySem.Spec PyProof.Rows L2
structure DK (X : Cx) (E : XK) (kws : List Keyword) (tk : TA) (sa : SemA) : Prop where
  pk : PK X kws tk
  dr : DRA X.K E tk sa
section
variable {X : Cx} {E : XK} {e : Expr} {kws : List Keyword} {te : TE} {tk : TA} {s : SemE} {sa : SemA} {nm : Option Str} {kpos : Pos}
theorem dk_nil : DK X E [] tNil nilA := ⟨pk_nil, (da_nil (X := X) (E := E)).dr⟩
theorem dk_cons (ha : DE X E e te s) (hr : DK X E kws tk sa) : DK X E (⟨nm, e, kpos⟩ :: kws) (tCons te tk) (consA s sa) := ⟨pk_cons ha.pe hr.pk, dra_cons ha.dr hr.dr⟩
/-- how the keywords' values stand as arguments -/
structure Turn2 (K : PySem.W.Frag) (n : Nat) (pv : List V → List V) (pd : List D → List D) : Prop where
  rep : ∀ {F : Hp} {ι : List Addr} {zs : List V} {ds : List D}, RepA K F ι zs ds → RepA K F ι (pv zs) (pd ds)
  len : ∀ {ds : List D}, ds.length = n → (pd ds).length = n
theorem turn_id {K : PySem.W.Frag} {n : Nat} : Turn2 K n id id := ⟨fun r => r, fun h => h⟩
def swapL {α : Type} : List α → List α
  | [a, b] => [b, a]
  | l => l
theorem turn_swap {K : PySem.W.Frag} {n : Nat} : Turn2 K n swapL swapL := ⟨fun {F ι zs ds} r => by
  match zs, ds, r with
  | [], _, r => cases r; exact .nil
  | [_], _, .cons h .nil => exact .cons h .nil
  | [_, _], _, .cons h (.cons q .nil) => exact .cons q (.cons h .nil)
  | _ :: _ :: _ :: _, _, .cons h (.cons q (.cons y t)) => exact .cons h (.cons q (.cons y t)), fun {ds} h => by
  match ds, h with
  | [], h => exact h
  | [_], h => exact h
  | [_, _], h => exact h
  | _ :: _ :: _ :: _, h => exact h⟩
theorem de_oexK {x c : Str} {fI : Addr} {k : Nat} {fd : FuncData} {ps ks names : List Str} {p pos : Pos} {g : List Value → List Value → List Value} {pv : List V → List V} {pd : List D → List D} (tn : Turn2 X.K names.length pv pd) (T : OexC X.K (He.ga X.K c)) (iC : PySem.W.findIn X.K (.ref (He.ga X.K c)) "__init__" = some (some (.ref fI))) (tI : PySem.W.typeIn X.K (.ref fI) = some (.type "function"))
    (G : FnOk X.prog X.w X.K X.mg X.base (L2.CX X.prog X.w) k fI fd ps (spInit (He.ga X.K c) names)) (rm : Room (k + 1) X.A) (hb : KBn X.K fd ps 1 ks g fun us zs => us ++ pv zs) (hm : X.mg x = some (.ref (He.ga X.K c))) (hk : DK X E kws tk sa) (same : names.length = ks.length) (hg : Gl X x := by rfl)
    (hall : (backToKw pos (keywordEach kws X.env)).all (·.1.isSome) = true := by rfl) (hks : (backToKw pos (keywordEach kws X.env)).filterMap (·.1) = ks := by rfl) (hdb : (x == ("__debug__" : Str)) = false := by decide) (hpl : ((backTo pos (starEach [] X.env)).any (·.1) || (backToKw pos (keywordEach kws X.env)).any (·.1.isNone)) = false := by rfl) :
    DE X E (.Call (.Name x p) [] kws pos) (tMkK (He.ga X.K c) ks.length (spInit (He.ga X.K c) names) (fun us zs => us ++ pv zs) tk) (mkA sa fun ds => if ds.length = names.length then exnF c names (pd ds) else none) := ⟨pe_oexK T iC tI G rm hb hg hm hk.pk hall hks hdb hpl, by
  refine dr_mk (g := fun zs H1 Q => zs.length = ks.length ∧ ∀ a, H1 a = none → spInit (He.ga X.K c) names ([V.ref a] ++ pv zs) (upd H1 a (exo a (He.ga X.K c) none)) (fun v H2 => v = .non ∧ Q (.ref a) H2) fun _ _ _ => False) hk.dr (fun _ _ _ q => q) fun F H ι w xs ds z wd r ez Q q => ?_
  split at ez
  · rename_i hl0
    have hl := tn.len hl0
    unfold exnF at ez
    rw [if_pos hl] at ez
    cases ez
    have r2 := tn.rep r
    refine ⟨by rw [r.length, hl0, same], fun a na => ⟨a, pv xs, rfl, by rw [r2.length, hl], upd_same, fun d H' hd ea ed others => ⟨rfl, ?_⟩⟩⟩
    have ne : d ≠ a := fun z => by
      rw [z, upd_same] at hd
      cases hd
    rw [upd_ne ne] at hd
    obtain ⟨st, w2⟩ := two_new wd na hd ne ea ed fun b h1 h2 => by rw [others b h1 h2, upd_ne h1]
    refine q (.ref a) _ _ ι st w2 (.exn upd_same ?_ (((RepF.zip names r2).reverse).mono st.ex fun _ _ h => h))
    rw [upd_ne ne, upd_same]
  · cases ez⟩
end
end DL

/-! for i, x in enumerate(xs). -/
namespace DL
open PySem PySem.Spec PyProof.Rows L2
def enumD (ds : List D) : List D := ds.mapIdx fun i d => .tup [.int (i : Nat), d]
theorem it_enum {K : PySem.W.Frag} {F H : Hp} {ι : List Addr} {a : Addr} {xs : List V} {ds : List D} (h : SqL K F a xs) (r : RepA K F ι xs ds) : ItOk K (Ite K a) F H ι (enumD ds) := by
  intro F2 H2 ι2 w2 e1 e2 wd i
  have h2 : SqL K H2 a xs := ex_l (e1.trans wd.ex) h
  have len : (enumD ds).length = ds.length := by simp [enumD]
  rw [len]
  refine ⟨fun hi => ?_, fun hi => ⟨xs, h2, by rw [r.length]; exact hi⟩, fun x H3 hi hy => ?_⟩
  · obtain ⟨x, hx, _⟩ := r.get' (List.getElem?_eq_getElem hi)
    exact ⟨xs, x, h2, hx⟩
  · obtain ⟨T, y, rfl, hT, rfl, hy⟩ := hy
    obtain ⟨d, hd, rd⟩ := r.get (hy xs h2)
    have rd2 := rd.mono e1 e2
    refine ⟨.tup [.int (i : Nat), d], upd F2 T (.tup [.int (i : Nat), y]), ?_, Stp.fresh hT (wd.free hT), wd.fresh hT, .tup (SqT.of upd_same) (.cons (.int _) (.cons (rd2.mono (Ex.new (wd.free hT)) fun _ _ h => h) .nil))⟩
    unfold enumD
    rw [List.getElem?_mapIdx, hd]
    rfl
def enumI (s : SemE) : SemI := fun ρ w => (s ρ w).bind fun x w1 => match x with
  | .dat (.lst ds) => .ok (enumD ds) w1
  | _ => .stuck
theorem di_enum {X : Cx} {E : XK} {e : Expr} {te : TE} {s : SemE} {p pos tpos : Pos} {elts : List Expr} {kk : Nat} (hm : X.mg "enumerate" = none) (h : DE X E e te s) (hg : Gl X "enumerate" := by rfl) (hs : starEach [e] X.env = [(false, eval e X.env)] := by rfl) (hs2 : starEach [e] X.env = (false, eval e X.env) :: starEach [] X.env := by rfl) :
    DI X E (.Tuple elts kk tpos) (.Call (.Name "enumerate" p) [e] [] pos) (iEnum X.K (tCons te tNil)) (enumI s) := ⟨pi_enum hg hm (pa_cons h.pe pa_nil hs2) hs, by
  intro H0 F H ι w σ ρ d l
  unfold enumI
  cases q : s ρ w with
  | stuck => trivial
  | exc x w1 => exact fun o R => h.dr.exc d l q o _
  | ok x w1 =>
    cases x with
    | vw c => trivial
    | dat y =>
      cases y with
      | lst ds =>
        intro R hR
        refine h.dr.ok d l q fun v F1 H1 ι1 s1 d1 r1 => ?_
        have r1 : Rep X.K F1 ι1 v (.lst ds) := r1
        cases r1 with
        | lst ha ra =>
          exact ⟨_, _, rfl, SqL.of (d1.ex _ _ ha), hR _ F1 H1 ι1 s1 d1 (it_enum (SqL.of ha) ra)⟩
      | _ => trivial⟩
end DL

/-! Tables of kinds, by one Bool. -/
namespace DL
open PySem PySem.Spec PyProof.Rows L2
def kindB (K : PySem.W.Frag) (c : Str) : Bool :=
  (PySem.W.clsIn K (He.ga K c)).isSome && decide (PySem.W.findIn K (.ref (He.ga K c)) "__getattribute__" = some (some (.builtin "BaseException.__getattribute__"))) && decide (PySem.W.findIn K (.ref (He.ga K c)) "__getattr__" = some none) && decide (PySem.W.subIn K (.ref (He.ga K c)) (.type "BaseException") = some true) && decide (PySem.W.findIn K (.ref (He.ga K c)) "__class__" = some (some (.builtin "object.__class__"))) &&
  decide (PySem.W.specialIn K (.builtin "object.__class__") "__get__" = some (some (.builtin "getset_descriptor.__get__"))) && decide (PySem.W.takesIn K (.builtin "object.__class__") = some true) && decide (PySem.W.mroIn K (He.ga K c) (.type "object") = some true) && PySem.W.hasDictIn K (He.ga K c)
theorem kindB_ok {K : PySem.W.Frag} {c : Str} (h : kindB K c = true) : KitE K (He.ga K c) ∧ ExcC K (He.ga K c) := by
  unfold kindB at h
  simp only [Bool.and_eq_true, decide_eq_true_eq] at h
  obtain ⟨⟨⟨⟨⟨⟨⟨⟨h1, h2⟩, h3⟩, h4⟩, h5⟩, h6⟩, h7⟩, h8⟩, h9⟩ := h
  exact ⟨⟨h1, h2, h3, h4, h5, h6, h7, h8⟩, ⟨h2, h3, h4, h9, h5, h6, h7, h8⟩⟩
def ownTab (K : PySem.W.Frag) (S : Str) (tab : List (Str × Bool)) : Bool := tab.all fun q => kindB K q.1 && decide (PySem.W.kitOne K (.ref (He.ga K q.1)) (.ref (He.ga K S)) = some q.2)
def bltTab (K : PySem.W.Frag) (T : String) (tab : List (Str × Bool)) : Bool := tab.all fun q => kindB K q.1 && decide (PySem.W.kitOne K (.ref (He.ga K q.1)) (.type T) = some q.2)
theorem ownTab_ok {K : PySem.W.Frag} {S : Str} {tab : List (Str × Bool)} (h : ownTab K S tab = true) : ∀ q ∈ tab, KitE K (He.ga K q.1) ∧ ExcC K (He.ga K q.1) ∧ ClsV K (He.ga K q.1) (.ref (He.ga K S)) q.2 := fun q hq => by
  obtain ⟨h1, h2⟩ := Bool.and_eq_true_iff.mp (List.all_eq_true.mp h q hq)
  exact ⟨(kindB_ok h1).1, (kindB_ok h1).2, .inl ⟨_, rfl, of_decide_eq_true h2⟩⟩
theorem bltTab_ok {K : PySem.W.Frag} {T : String} {tab : List (Str × Bool)} (h : bltTab K T tab = true) : ∀ q ∈ tab, KitE K (He.ga K q.1) ∧ ExcC K (He.ga K q.1) ∧ ClsV K (He.ga K q.1) (.ty T) q.2 := fun q hq => by
  obtain ⟨h1, h2⟩ := Bool.and_eq_true_iff.mp (List.all_eq_true.mp h q hq)
  exact ⟨(kindB_ok h1).1, (kindB_ok h1).2, .inr ⟨_, rfl, of_decide_eq_true h2⟩⟩
end DL

/-! A head that also tells of sys.modules. -/
namespace DL
open PySem PySem.Spec PyProof.Rows L2
/-- what stands at sysModules is a dict -/
def SysD (h : Heap) : Prop := ∃ o es n, h.get? sysModules = some o ∧ o.data = .dict es n
def sysB (g : Addr → Option Obj) : Bool := match g sysModules with
  | some o => (match o.data with
    | .dict _ _ => true
    | _ => false)
  | none => false
theorem sysB_ok {h : Heap} (q : sysB h.get? = true) : SysD h := by
  unfold sysB at q
  split at q
  · rename_i o e
    split at q
    · rename_i es n d
      exact ⟨o, es, n, e, d⟩
    · cases q
  · cases q
def hookS (H : PySem.W.Hook) : PySem.W.Hook where
  α := H.α × Bool
  obs := fun s => (H.obs s, sysB s.heap.get?)
  val := fun w => (H.val w, true)
  says := fun w h => H.says w h ∧ SysD h
  of := fun w s e => ⟨H.of w s (congrArg Prod.fst e), sysB_ok (congrArg Prod.snd e)⟩
  keeps := fun w h h' c k => ⟨H.keeps w h h' c.1 k, by
    obtain ⟨o, es, n, e, d⟩ := c.2
    exact ⟨o, es, n, k _ _ e, d⟩⟩
end DL

/-! repr of data with dicts. -/
namespace DL
open PySem PySem.Spec PyProof.Rows L2
def keyP : Key → PyData
  | .inl i => .int i
  | .inr x => .str x
mutual
inductive DpY (K : PySem.W.Frag) (H : Hp) : V → PyData → Prop
  | non : DpY K H .non .none
  | bl (b : Bool) : DpY K H (.bl b) (.bool b)
  | int (i : Int) : DpY K H (.int i) (.int i)
  | str (x : Str) : DpY K H (.str x) (.str x)
  | lst {a : Addr} {xs : List V} {ds : List PyData} : SqL K H a xs → DpYA K H xs ds → DpY K H (.ref a) (.list ds)
  | tup {a : Addr} {xs : List V} {ds : List PyData} : SqT K H a xs → DpYA K H xs ds → DpY K H (.ref a) (.tuple ds)
  | dct {a : Addr} {kvs : List (Key × V)} {ps : List (PyData × PyData)} : H a = some (.dK kvs) → DpYK K H kvs ps → DpY K H (.ref a) (.dict ps)
inductive DpYA (K : PySem.W.Frag) (H : Hp) : List V → List PyData → Prop
  | nil : DpYA K H [] []
  | cons {v : V} {vs : List V} {d : PyData} {ds : List PyData} : DpY K H v d → DpYA K H vs ds → DpYA K H (v :: vs) (d :: ds)
inductive DpYK (K : PySem.W.Frag) (H : Hp) : List (Key × V) → List (PyData × PyData) → Prop
  | nil : DpYK K H [] []
  | cons {k : Key} {v : V} {vs : List (Key × V)} {d : PyData} {ds : List (PyData × PyData)} : DpY K H v d → DpYK K H vs ds → DpYK K H ((k, v) :: vs) ((keyP k, d) :: ds)
end
theorem reads_key {h : Heap} {k : Key} {v : Value} (e : keyIs k v = true) : Reads h v (keyP k) [] := by
  rcases keyIs_shape e with ⟨i, t, rfl, rfl⟩ | ⟨x, t, rfl, rfl⟩
  · exact Reads.int i t
  · exact Reads.str x t
section
variable {X : Cx} {pins : List (Addr × Obj)} {σ : L2.St} {H : Hp} {s : Shared}
mutual
theorem DpY.reads (I : Inv X pins σ H s) (S : SysD s.heap) : ∀ (d : PyData) (v : V) (u : Value), DpY X.K H v d → RelV v u → ∃ as, Reads s.heap u d as ∧ sysModules ∉ as
  | .none, _, _, h, r => by cases h; cases r; exact ⟨[], Reads.none, by simp⟩
  | .bool b, _, _, h, r => by cases h; cases r; exact ⟨[], Reads.bool b, by simp⟩
  | .int i, _, _, h, r => by cases h; obtain ⟨t, rfl⟩ := r; exact ⟨[], Reads.int i t, by simp⟩
  | .str x, _, _, h, r => by cases h; obtain ⟨t, rfl⟩ := r; exact ⟨[], Reads.str x t, by simp⟩
  | .list ds, _, _, h, r => by
    cases h with
    | lst hs ha =>
      cases r
      obtain ⟨its, rv, ⟨o, n, ho, hc, _, hd⟩, _⟩ := I.list hs
      obtain ⟨as, hr, hn⟩ := DpYA.reads I S ds _ its ha rv
      refine ⟨_, Reads.list ho hc hd hr, fun m => ?_⟩
      rcases List.mem_cons.mp m with e | m
      · obtain ⟨o2, es, n2, g, dd⟩ := S
        rw [e, ho] at g
        cases g
        rw [hd] at dd
        cases dd
      · exact hn m
  | .tuple ds, _, _, h, r => by
    cases h with
    | tup hs ha =>
      cases r
      obtain ⟨its, rv, ⟨o, ho, hc, n, hd⟩, _⟩ := I.tuple hs
      obtain ⟨as, hr, hn⟩ := DpYA.reads I S ds _ its ha rv
      exact ⟨_, Reads.tuple ho hc hd hr, hn⟩
  | .dict ps, _, _, h, r => by
    cases h with
    | dct hk hp =>
      cases r
      obtain ⟨_, ne, vs, kv, o, es, ep, ho, ex, hd, _, pr, _⟩ := dk_of I.hok hk
      obtain ⟨bs, ⟨as, q1, n1⟩, q2, n2⟩ := DpYK.reads I S ps _ vs es.toList hp kv pr
      refine ⟨_, Reads.dict ho ex.1 hd q1 q2, fun m => ?_⟩
      rcases List.mem_append.mp m with m | m
      · rcases List.mem_cons.mp m with e | m
        · rw [← e] at ne
          simp at ne
        · exact n1 m
      · exact n2 m
theorem DpYA.reads (I : Inv X pins σ H s) (S : SysD s.heap) : ∀ (ds : List PyData) (vs : List V) (us : List Value), DpYA X.K H vs ds → Vals vs us → ∃ as, ReadsAll s.heap us ds as ∧ sysModules ∉ as
  | [], _, _, h, r => by cases h; cases r; exact ⟨[], ReadsAll.nil, by simp⟩
  | d :: ds, _, _, h, r => by
    cases h with
    | cons h1 h2 =>
      cases r with
      | cons r1 r2 =>
        obtain ⟨as, q1, n1⟩ := DpY.reads I S d _ _ h1 r1
        obtain ⟨bs, q2, n2⟩ := DpYA.reads I S ds _ _ h2 r2
        exact ⟨_, ReadsAll.cons q1 q2, fun m => (List.mem_append.mp m).elim n1 n2⟩
theorem DpYK.reads (I : Inv X pins σ H s) (S : SysD s.heap) : ∀ (ps : List (PyData × PyData)) (kvs : List (Key × V)) (vs : List (Key × Value)) (es : List DictEntry), DpYK X.K H kvs ps → KV kvs vs → Pairs (mixKind X.prog X.w) es vs →
    ∃ bs, (∃ as, ReadsAll s.heap (es.map (·.key)) (ps.map (·.1)) as ∧ sysModules ∉ as) ∧ ReadsAll s.heap (es.map (·.val)) (ps.map (·.2)) bs ∧ sysModules ∉ bs
  | [], _, _, _, h, r, p => by cases h; cases r; cases p; exact ⟨[], ⟨[], ReadsAll.nil, by simp⟩, ReadsAll.nil, by simp⟩
  | d :: ds, _, _, _, h, r, p => by
    cases h with
    | cons h1 h2 =>
      cases r with
      | cons r1 r2 =>
        cases p with
        | cons p1 p2 p3 =>
          obtain ⟨e1, e2⟩ := r1
          obtain ⟨as, q1, n1⟩ := DpY.reads I S _ _ _ h1 e2
          obtain ⟨bs, ⟨cs, q2, n2⟩, q3, n3⟩ := DpYK.reads I S ds _ _ _ h2 r2 p3
          refine ⟨as ++ bs, ⟨[] ++ cs, ReadsAll.cons (reads_key ?_) q2, by simpa using n2⟩, ReadsAll.cons ?_ q3, fun m => (List.mem_append.mp m).elim n1 n3⟩
          · have e1 := e1
            simp only at e1
            rw [e1]
            exact p1
          · simp only
            rw [p2]
            exact q1
end
end
end DL

/-! repr, dicts reached. -/
namespace DL
open PySem PySem.Spec PyProof.Rows L2
theorem SysD.up {h h' : Heap} (S : SysD h) (k : ∀ b o, h.get? b = some o → h'.get? b = some o) : SysD h' := by
  obtain ⟨o, es, n, e, d⟩ := S
  exact ⟨o, es, n, k _ _ e, d⟩
def rReprY (K : PySem.W.Frag) : List V → Hp → VK → Prop := fun xs H Q => ∃ a d, xs = [.ref a] ∧ DpY K H (.ref a) d ∧ d.showable = true ∧ d.depth ≤ 60 ∧ d.shown.length ≤ sizeLine ∧ Q (.str d.shown) H
theorem call_reprY {X : Cx} (hG : X.A.guards = some []) (hu : X.A.units + 64 < cLine) (hS : SysD X.base) : CallR X (.builtin "repr") (rReprY X.K) := by
  intro pins s σ H xs us Q I r h
  obtain ⟨a, d, rfl, hd, h1, h3, h4, q⟩ := h
  obtain ⟨u, rfl, ru⟩ := vals1 r
  obtain ⟨as, hr, hn⟩ := DpY.reads I (hS.up I.bk) d _ u hd ru
  cases ru
  exact repr_of_reads' hr h1 (fun _ => hn) hG (by omega) (fun _ _ e => e) (fun h' z tk kp => ⟨.str _, H, I.kept kp, ⟨_, rfl⟩, q⟩) h4
mutual
def toPyY : D → Option PyData
  | .non => some .none
  | .bl b => some (.bool b)
  | .int i => some (.int i)
  | .str x => some (.str x)
  | .lst xs => (toPyYA xs).map .list
  | .tup xs => (toPyYA xs).map .tuple
  | .dct es => (toPyYK es).map .dict
  | .obj _ _ => none
  | .ptr _ => none
  | .scr _ => none
  | .exn _ _ => none
  | .exn0 _ => none
def toPyYA : List D → Option (List PyData)
  | [] => some []
  | x :: r => match toPyY x, toPyYA r with
    | some a, some b => some (a :: b)
    | _, _ => none
def toPyYK : List (Key × D) → Option (List (PyData × PyData))
  | [] => some []
  | (k, x) :: r => match toPyY x, toPyYK r with
    | some a, some b => some ((keyP k, a) :: b)
    | _, _ => none
end
section
variable {K : PySem.W.Frag} {F H : Hp} {ι : List Addr}
mutual
theorem Rep.dpY (x : Ex F H) : ∀ {d : D} {v : V} {p : PyData}, Rep K F ι v d → toPyY d = some p → DpY K H v p
  | .non, _, _, r, e => by cases r; unfold toPyY at e; cases e; exact .non
  | .bl _, _, _, r, e => by cases r; unfold toPyY at e; cases e; exact .bl _
  | .int _, _, _, r, e => by cases r; unfold toPyY at e; cases e; exact .int _
  | .str _, _, _, r, e => by cases r; unfold toPyY at e; cases e; exact .str _
  | .lst ds, _, _, r, e => by
    cases r with
    | lst h r =>
      unfold toPyY at e
      cases q : toPyYA ds with
      | none => rw [q] at e; cases e
      | some ps => rw [q] at e; cases e; exact .lst (SqL.of (x _ _ h)) (RepA.dpY x r q)
  | .tup ds, _, _, r, e => by
    cases r with
    | tup h r =>
      unfold toPyY at e
      cases q : toPyYA ds with
      | none => rw [q] at e; cases e
      | some ps => rw [q] at e; cases e; exact .tup (ex_t x h) (RepA.dpY x r q)
  | .dct es, _, _, r, e => by
    cases r with
    | dct h r =>
      unfold toPyY at e
      cases q : toPyYK es with
      | none => rw [q] at e; cases e
      | some ps => rw [q] at e; cases e; exact .dct (x _ _ h) (RepK.dpY x r q)
  | .obj _ _, _, _, _, e => by unfold toPyY at e; cases e
  | .ptr _, _, _, _, e => by unfold toPyY at e; cases e
  | .scr _, _, _, _, e => by unfold toPyY at e; cases e
  | .exn _ _, _, _, _, e => by unfold toPyY at e; cases e
  | .exn0 _, _, _, _, e => by unfold toPyY at e; cases e
theorem RepA.dpY (x : Ex F H) : ∀ {ds : List D} {vs : List V} {ps : List PyData}, RepA K F ι vs ds → toPyYA ds = some ps → DpYA K H vs ps
  | [], _, _, r, e => by cases r; unfold toPyYA at e; cases e; exact .nil
  | d :: ds, _, _, r, e => by
    cases r with
    | cons h r =>
      unfold toPyYA at e
      cases q1 : toPyY d with
      | none => rw [q1] at e; cases e
      | some a =>
        cases q2 : toPyYA ds with
        | none => rw [q1, q2] at e; cases e
        | some b => rw [q1, q2] at e; cases e; exact .cons (Rep.dpY x h q1) (RepA.dpY x r q2)
theorem RepK.dpY (x : Ex F H) : ∀ {ds : List (Key × D)} {vs : List (Key × V)} {ps : List (PyData × PyData)}, RepK K F ι vs ds → toPyYK ds = some ps → DpYK K H vs ps
  | [], _, _, r, e => by cases r; unfold toPyYK at e; cases e; exact .nil
  | (k, d) :: ds, _, _, r, e => by
    cases r with
    | cons h r =>
      unfold toPyYK at e
      cases q1 : toPyY d with
      | none => rw [q1] at e; cases e
      | some a =>
        cases q2 : toPyYK ds with
        | none => rw [q1, q2] at e; cases e
        | some b => rw [q1, q2] at e; cases e; exact .cons (Rep.dpY x h q1) (RepK.dpY x r q2)
end
end
end DL

/-! repr of plain data of every kind; a law's end where sys.modules is told. -/
namespace DL
open PySem PySem.Spec PyProof.Rows L2
def rReprZ (K : PySem.W.Frag) : List V → Hp → VK → Prop := fun xs H Q => ∃ v d, xs = [v] ∧ DpY K H v d ∧ d.showable = true ∧ d.depth ≤ 60 ∧ d.shown.length ≤ sizeLine ∧ Q (.str d.shown) H
theorem call_reprZ {X : Cx} (hG : X.A.guards = some []) (hu : X.A.units + 64 < cLine) (hS : SysD X.base) : CallR X (.builtin "repr") (rReprZ X.K) := by
  intro pins s σ H xs us Q I r h
  obtain ⟨v, d, rfl, hd, h1, h3, h4, q⟩ := h
  have r0 := r
  obtain ⟨u, rfl, ru⟩ := vals1 r
  cases hd with
  | non => cases ru; exact PySem.P.repr_of_none ⟨.str _, H, I.tok _, ⟨_, rfl⟩, q⟩
  | bl b => cases ru; exact PySem.P.repr_of_bool ⟨.str _, H, I.tok _, ⟨_, rfl⟩, q⟩
  | int i => obtain ⟨t, rfl⟩ := ru; exact PySem.P.repr_of_int (of_decide_eq_true h1) ⟨.str _, H, I.tok _, ⟨_, rfl⟩, q⟩
  | str x => obtain ⟨t, rfl⟩ := ru; exact PySem.P.repr_of_str ⟨.str _, H, I.tok _, ⟨_, rfl⟩, q⟩ h4
  | lst hs ha => exact call_reprY hG hu hS pins s σ H _ _ Q I r0 ⟨_, _, rfl, .lst hs ha, h1, h3, h4, q⟩
  | tup hs ha => exact call_reprY hG hu hS pins s σ H _ _ Q I r0 ⟨_, _, rfl, .tup hs ha, h1, h3, h4, q⟩
  | dct hs ha => exact call_reprY hG hu hS pins s σ H _ _ Q I r0 ⟨_, _, rfl, .dct hs ha, h1, h3, h4, q⟩
def reprZ (d : D) : Option D := match toPyY d with
  | some p => if p.showable && decide (p.depth ≤ 60) && decide (p.shown.length ≤ most) then some (.str p.shown) else none
  | none => none
theorem RepS.dpY {K : PySem.W.Frag} {F H : Hp} {ι : List Addr} {d : D} {v : V} {p : PyData} (x : Ex F H) (r : RepS K F H ι v d) (e : toPyY d = some p) : DpY K H v p := by
  cases d with
  | lst ds =>
    obtain ⟨a, xs, rfl, h, r⟩ := r
    unfold toPyY at e
    cases q : toPyYA ds with
    | none => rw [q] at e; cases e
    | some ps => rw [q] at e; cases e; exact .lst (SqL.of h) (RepA.dpY x r q)
  | dct ds =>
    obtain ⟨a, xs, rfl, h, r⟩ := r
    unfold toPyY at e
    cases q : toPyYK ds with
    | none => rw [q] at e; cases e
    | some ps => rw [q] at e; cases e; exact .dct h (RepK.dpY x r q)
  | obj _ _ => unfold toPyY at e; cases e
  | _ => exact Rep.dpY x r e
theorem rel_reprZ {K : PySem.W.Frag} : RelC1 K (rReprZ K) reprZ := by
  intro F H ι w v x z wd rx e Q q
  unfold reprZ at e
  cases h : toPyY x with
  | none => rw [h] at e; cases e
  | some p =>
    rw [h] at e
    by_cases hc : (p.showable && decide (p.depth ≤ 60) && decide (p.shown.length ≤ most)) = true
    · simp only [hc, if_true] at e
      cases e
      simp only [Bool.and_eq_true, decide_eq_true_eq] at hc
      obtain ⟨⟨c1, c3⟩, c4⟩ := hc
      exact ⟨v, p, rfl, RepS.dpY wd.ex rx h, c1, c3, most_le c4, okv_now q wd (Rep.str _)⟩
    · simp only [hc, if_false] at e
      cases e
/-! ### a law's end -/
section
variable {P : Program} {w : World} {K : PySem.W.Frag} {mg mb : Str → Option Value} {k : Nat} {fa a : Addr} {fd : FuncData} {x : Str} {g : Sem} {t : Shared} {vs : List Value} {ns : List Int}
theorem lawS (sd : SysD t.heap) (inK : K.In t.heap) (nG : t.heap.Ns mainGlobals mg) (nB : t.heap.Ns builtinsNs mb) (boot : ∀ y : Str, y ≠ "__name__" → mb y = bootBuiltins y) (free : t.heap.NoLimit) (gens : t.gens = #[])
    (obj : t.heap.get? a = some { cls := .type "list", data := .seq vs.toArray }) (hints : IntsAre vs ns) (few : ns.length ≤ sizeLine) (rm : Room k callerA) (gd : callerA.guards = some [])
    (F : ∀ b : Heap, K.In b → b.Ns mainGlobals mg → SysD b → GOk P w K mg b k fa fd [x] (Spec K 1 g)) (bd : ∀ (s : Shared) (u : Value), BindsTo s fd ⟨[u], []⟩ [(x, u)]) (law : ∃ w1, g [.scr ns] [] = .ok (.bl true) w1) :
    codeAny (model P w) callerA (.call (.ref fa) ⟨[.ref a], []⟩) (fun r s' => r = .ok (.ret (.bool true)) ∧ OldK t.heap s'.heap ∧ s'.os = t.os ∧ AllBare s'.gens) t := by
  have rv := vals_ints hints
  have nlen := hints.length
  have seqAt : SqL K (lawH K a vs ns) a (ns.map V.int) := by
    cases q : K.lookup a with
    | none => exact .inl (.inr ⟨_, if_pos ⟨rfl, q⟩⟩)
    | some o =>
      have same := inK a o q
      rw [obj] at same
      cases same
      exact .inr ⟨_, vs.toArray, _, q, rfl, rfl, rfl, by rw [List.size_toArray, nlen]; exact few, by simpa using rv⟩
  have hok : HOk P w (lawH K a vs ns) t.heap := fun b u z => by
    obtain ⟨rfl, _, rfl⟩ := lawH_at z
    exact ⟨obj, by rw [List.length_map]; exact few, vs, _, rv, obj⟩
  have clear : ∀ {b : Addr} {o : Obj}, t.heap.get? b = some o → lawH K a vs ns b = none → (hidT t.heap (lawH K a vs ns)).get? b = some o := fun e n => hidT_get e n
  have dicts : ∀ {b : Addr} {o : Obj} {es : Array DictEntry} {ep : Nat}, t.heap.get? b = some o → o.data = .dict es ep → lawH K a vs ns b = none := fun {b o es ep} e d => by
    by_cases z : b = a
    · subst z
      rw [obj] at e
      cases e
      cases (show Data.seq vs.toArray _ = Data.dict es ep from d)
    · exact lawH_other z
  have spaces : ∀ {b : Addr} {m : Str → Option Value}, t.heap.Ns b m → (hidT t.heap (lawH K a vs ns)).Ns b m := fun {b m} ⟨o, es, ep, e, d, r⟩ => ⟨o, es, ep, clear e (dicts e d), d, r⟩
  have known : K.In (hidT t.heap (lawH K a vs ns)) := fun b o e => clear (inK b o e) (by
    cases q : lawH K a vs ns b with
    | none => rfl
    | some u =>
      obtain ⟨rfl, z, _⟩ := lawH_at q
      rw [e] at z; cases z)
  have sys2 : SysD (hidT t.heap (lawH K a vs ns)) := by
    obtain ⟨o, es, n, e, d⟩ := sd
    exact ⟨o, es, n, clear e (dicts e d), d⟩
  have module : Mod K mg (hidT t.heap (lawH K a vs ns)) := ⟨known, spaces nG, ⟨mb, spaces nB, boot⟩, by obtain ⟨mc, h1, h2⟩ := free; exact ⟨mc, spaces h1, h2⟩⟩
  have none0 : ∀ {α : Type} {l : List α} {b : α}, b ∈ ([] : List α) → False := fun h => nomatch h
  have enter : Env0 P w K mg (hidT t.heap (lawH K a vs ns)) callerA [] t (lawH K a vs ns) := ⟨rfl, module, fun b o e => of_hidT e, Nat.le_of_eq (hidT_size _ _), trivial, fun b hb => absurd (show b ∈ ([] : List Addr) from hb) (by simp), hok, .of_eq gens⟩
  obtain ⟨w1, law⟩ := law
  have said : Spec K 1 g [.ref a] (lawH K a vs ns) (fun v _ => v = .bl true) fun _ _ _ => False := by
    refine ⟨lawH K a vs ns, [], [], [.scr ns], ⟨Ex.refl _, rfl, List.nodup_nil, fun n b c h => by cases h⟩, .cons (.scr seqAt) .nil, rfl, ?_⟩
    rw [law]
    intro v F' H' ι' _ _ r
    cases r
    rfl
  refine codeAny_mono ((F _ known (spaces nG) sys2).run callerA [] t _ ⟨[.ref a], []⟩ [.ref a] [.ref a] _ _ gd rm enter (bd t (.ref a)) (.cons rfl .nil) said) fun r s' h => ?_
  match r with
  | .error e =>
    obtain ⟨_, _, _, _, _, _, _, _, _, _, _, _, z⟩ := h
    exact z.elim
  | .ok .next => exact h.elim
  | .ok .brk => exact h.elim
  | .ok .cont => exact h.elim
  | .ok (.ret u) =>
    obtain ⟨v, H', os, bare, un, hok', rel, q⟩ := h
    obtain rfl : v = .bl true := q
    obtain rfl : u = Value.bool true := rel
    refine ⟨rfl, OldK.of_keep fun b o e => ?_, os, bare⟩
    cases q : lawH K a vs ns b with
    | none => exact un.keep b o e q (by intro z; exact absurd (show b ∈ ([] : List Addr) from z) (by simp)) (by simp)
    | some u =>
      obtain ⟨_, _, rfl⟩ := lawH_at q
      have there := un.frzs b _ _ q
      obtain ⟨e1, _⟩ := hok b _ q
      obtain ⟨e2, _⟩ := hok' b _ there
      rw [e] at e1
      cases e1
      exact e2
/-- a law over the head, sys.modules told -/
theorem walkS {l : PySem.W.OpenLaw} {n : Nat} {q : Program} {loose : List Str} {XP : (Str → Option Value) → Heap → Prop} {YP : World → Heap → Prop} {d : DefRec} (hn : l.most = some n) (hn2 : n ≤ sizeLine) (hdf : d.params.defaults = []) (rm : Room k callerA) (gd : callerA.guards = some [])
    (G : ∀ (w : World) (mg : Str → Option Value) (fa : Addr) (h : Heap), YP w h → h.Ns mainGlobals mg → mg d.name = some (.ref fa) → ∃ (K : PySem.W.Frag) (fd : FuncData), SysD h ∧ K.In h ∧ (∀ (s : Shared) (u : Value), BindsTo s fd ⟨[u], []⟩ [(x, u)]) ∧
      ∀ b : Heap, K.In b → b.Ns mainGlobals mg → SysD b → GOk l.prog w K mg b k fa fd [x] (Spec K 1 g)) (law : ∀ ns : List Int, ns.length ≤ n → ∃ w1, g [.scr ns] [] = .ok (.bl true) w1) : PySem.W.WalkO q loose XP YP l.row.toRowW d [] (fun f vs => PySem.call f vs) :=
  Att.attach_call hn hdf fun w _ s mg mb fa _ _ _ _ a vs ns gr y _ _ _ named listed hints len gens => by
    obtain ⟨K, fd, sd, inK, bd, F⟩ := G w mg fa s.heap y gr.T.g named
    exact lawS sd inK gr.T.g gr.T.b gr.T.builtins gr.T.nolimit gens listed hints (Nat.le_trans len hn2) rm gd F bd (law ns len)
end
/-! ### keywords alone, no defaults -/
theorem FunD_kbinds00 {K : PySem.W.Frag} {x qual : Str} {params : Arguments} {body : List Stmt} {scope : Scope} {f : Addr} {fd : FuncData} {ps : List Str} (F : FunD K x qual params body scope [] [] f fd) (n : Nat) (ks : List Str) (g : {α : Type} → List α → List α → List α)
    (hrel : ∀ {vs zs : List V} {us ws : List Value}, Vals vs us → Vals zs ws → Vals (g vs zs) (g us ws))
    (h : ∀ (kV doc pm : Value) (an : Option Addr) (cdv ct : Value) (us ws : List Value), us.length = n → ws.length = ks.length → bindArgs (PySem.W.fnOf x qual params body scope .none kV doc pm an cdv ct) ⟨us, ks.zip ws⟩ = pure (ps.zip (g us ws))) : KBn K fd ps n ks (fun us ws => g us ws) (fun vs zs => g vs zs) := by
  obtain ⟨oc, od, dV, kV, doc, pm, an, cdv, ct, osl, rfl, lk, hcd, hD, hK⟩ := F.ex
  rcases hD with ⟨_, rfl⟩ | ⟨e, _⟩
  · exact ⟨fun s us ws X l1 l2 => .of_eq (h kV doc pm an cdv ct us ws l1 l2), hrel⟩
  · exact absurd rfl e
theorem vals_swap {zs : List V} {ws : List Value} (r : Vals zs ws) : Vals (swapL zs) (swapL ws) := by
  cases r with
  | nil => exact .nil
  | cons h r =>
    cases r with
    | nil => exact .cons h .nil
    | cons h2 r =>
      cases r with
      | nil => exact .cons h2 (.cons h .nil)
      | cons h3 r => exact .cons h (.cons h2 (.cons h3 r))
end DL

/-! Tables of error classes, by Bools. -/
namespace DL
open PySem PySem.Spec PyProof.Rows L2
def kindsB (K : PySem.W.Frag) (cs : List Str) : Bool := cs.all (kindB K)
def ownT (K : PySem.W.Frag) (S : Str) (tab : List (Str × Bool)) : Bool := tab.all fun q => decide (PySem.W.kitOne K (.ref (He.ga K q.1)) (.ref (He.ga K S)) = some q.2)
def bltT (K : PySem.W.Frag) (T : String) (tab : List (Str × Bool)) : Bool := tab.all fun q => decide (PySem.W.kitOne K (.ref (He.ga K q.1)) (.type T) = some q.2)
def fldB (K : PySem.W.Frag) (f : Str) (cs : List Str) : Bool := cs.all fun c => xfB K (He.ga K c) && decide (PySem.W.findIn K (.ref (He.ga K c)) f = some none)
theorem ownT_ok {K : PySem.W.Frag} {S : Str} {tab : List (Str × Bool)} {cs : List Str} (k : kindsB K cs = true) (h : ownT K S tab = true) (e : tab.map (·.1) = cs) : ∀ q ∈ tab, KitE K (He.ga K q.1) ∧ ExcC K (He.ga K q.1) ∧ ClsV K (He.ga K q.1) (.ref (He.ga K S)) q.2 := fun q hq => by
  have h1 := List.all_eq_true.mp k q.1 (by rw [← e]; exact List.mem_map_of_mem hq)
  exact ⟨(kindB_ok h1).1, (kindB_ok h1).2, .inl ⟨_, rfl, of_decide_eq_true (List.all_eq_true.mp h q hq)⟩⟩
theorem bltT_ok {K : PySem.W.Frag} {T : String} {tab : List (Str × Bool)} {cs : List Str} (k : kindsB K cs = true) (h : bltT K T tab = true) (e : tab.map (·.1) = cs) : ∀ q ∈ tab, KitE K (He.ga K q.1) ∧ ExcC K (He.ga K q.1) ∧ ClsV K (He.ga K q.1) (.ty T) q.2 := fun q hq => by
  have h1 := List.all_eq_true.mp k q.1 (by rw [← e]; exact List.mem_map_of_mem hq)
  exact ⟨(kindB_ok h1).1, (kindB_ok h1).2, .inr ⟨_, rfl, of_decide_eq_true (List.all_eq_true.mp h q hq)⟩⟩
theorem fldB_ok {K : PySem.W.Frag} {f : Str} {cs : List Str} (h : fldB K f cs = true) : ∀ c ∈ cs, XfC K (He.ga K c) ∧ PySem.W.findIn K (.ref (He.ga K c)) f = some none := fun c hc => by
  obtain ⟨h1, h2⟩ := Bool.and_eq_true_iff.mp (List.all_eq_true.mp h c hc)
  exact ⟨xfB_ok h1, of_decide_eq_true h2⟩
def Exc0 (K : PySem.W.Frag) (c : Str) : Prop := PySem.W.excIn K (He.ga K c) [.type "ValueError", .type "Exception", .type "BaseException", .type "object"] "ValueError.__new__" = true ∧ PySem.W.keepIn K (.ref (He.ga K c)) = true
def exc0B (K : PySem.W.Frag) (c : Str) : Bool := PySem.W.excIn K (He.ga K c) [.type "ValueError", .type "Exception", .type "BaseException", .type "object"] "ValueError.__new__" && PySem.W.keepIn K (.ref (He.ga K c))
theorem exc0B_ok {K : PySem.W.Frag} {c : Str} (h : exc0B K c = true) : Exc0 K c := Bool.and_eq_true_iff.mp h
theorem de_isWo {X : Cx} {E : XK} {a : Expr} {ta : TE} {sa : SemE} {S : Str} {p pos p2 : Pos} (tab : List (Str × Bool)) (h : ∀ q ∈ tab, KitE X.K (He.ga X.K q.1) ∧ ExcC X.K (He.ga X.K q.1) ∧ ClsV X.K (He.ga X.K q.1) (.ref (He.ga X.K S)) q.2) (hi : X.mg "isinstance" = none) (ha : DE X E a ta sa) (hm : X.mg S = some (.ref (He.ga X.K S))) (hgS : Gl X S := by rfl) (hd : (S == ("__debug__" : Str)) = false := by decide) (hg : Gl X "isinstance" := by rfl)
    (he : starEach [a, .Name S p2] X.env = (false, eval a X.env) :: starEach [.Name S p2] X.env := by rfl) (he2 : starEach [.Name S p2] X.env = (false, eval (.Name S p2) X.env) :: starEach [] X.env := by rfl) (hpl : (backTo pos (starEach [.Name S p2] X.env)).any (·.1) = false := by rfl) :
    DE X E (.Call (.Name "isinstance" p) [a, .Name S p2] [] pos) (tCB (rIsW X.K) (tCons ta (tCons (tC (.ref (He.ga X.K S))) tNil))) (un (isWD tab) sa) :=
  de_isW tab h hi ha (pe_glob hgS hm (show L2.RelV (.ref (He.ga X.K S)) (.ref (He.ga X.K S)) from rfl) hd) hg he he2 hpl
theorem de_isWb {X : Cx} {E : XK} {a : Expr} {ta : TE} {sa : SemE} {y : Str} {T : String} {p pos p2 : Pos} (tab : List (Str × Bool)) (h : ∀ q ∈ tab, KitE X.K (He.ga X.K q.1) ∧ ExcC X.K (He.ga X.K q.1) ∧ ClsV X.K (He.ga X.K q.1) (.ty T) q.2) (hi : X.mg "isinstance" = none) (ha : DE X E a ta sa) (hy : X.mg y = none) (hT : bootBuiltins y = some (.type T) := by decide +kernel) (hgS : Gl X y := by rfl) (hn : y ≠ "__name__" := by decide) (hd : (y == ("__debug__" : Str)) = false := by decide) (hg : Gl X "isinstance" := by rfl)
    (he : starEach [a, .Name y p2] X.env = (false, eval a X.env) :: starEach [.Name y p2] X.env := by rfl) (he2 : starEach [.Name y p2] X.env = (false, eval (.Name y p2) X.env) :: starEach [] X.env := by rfl) (hpl : (backTo pos (starEach [.Name y p2] X.env)).any (·.1) = false := by rfl) :
    DE X E (.Call (.Name "isinstance" p) [a, .Name y p2] [] pos) (tCB (rIsW X.K) (tCons ta (tCons (tC (.ty T)) tNil))) (un (isWD tab) sa) :=
  de_isW tab h hi ha (pe_bltn hgS hy hT rfl hn hd) hg he he2 hpl
theorem sys_eq {s : PySem.W.SharedT} : sysB (HandSHeadRun.getT s) = sysB s.abs.heap.get? := congrArg sysB (funext (HandSHeadRun.getT_eq s))
end DL

/-! Plain law: the jar of draws. -/
namespace JM
open PySem DL
def tailS (a b m0 m1 m2 : Int) : SemS := (seqS (setS 4 (bin modD (un intF (bin powD (bin addD (bin addD (bin modD (un intF (var 3)) (cst (.int m0))) (bin mulD (cst (.int m2)) (var 2))) (cst (.int b))) (cst (.int 5)))) (cst (.int m1))))
  (seqS (setS 4 (bin modD (un intF (bin powD (bin addD (bin addD (bin mulD (var 4) (bin addD (bin mulD (cst (.int 2)) (var 2)) (cst (.int 1409)))) (bin mulD (bin mulD (cst (.int a)) (var 2)) (var 2))) (cst (.int b))) (cst (.int 3)))) (cst (.int 2147483563))))
  (seqS (retS (bin modD (un intF (bin fdivD (var 4) (cst (.int 64)))) (var 1)))
  nextS)))
/-- a draw's text, its numbers told apart -/
def drawS (a b m0 m1 m2 : Int) : SemS := (seqS (ifS (asB (bin gtD (bin ixD (var 0) (cst (.int 2))) (cst (.int 0)))) (seqS (setS 5 (bin ixD (var 0) (cst (.int 2))))
  (seqS (setIxS 0 (bin fdivD (un intF (var 5)) (var 1)) (cst (.int 2)))
  (seqS (retS (bin modD (un intF (var 5)) (var 1)))
  nextS))) nextS)
  (seqS (setS 2 (bin ixD (var 0) (cst (.int 1))))
  (seqS (setIxS 0 (bin addD (var 2) (cst (.int 1))) (cst (.int 1)))
  (seqS (setS 3 (bin addD (bin mulD (cst (.int a)) (var 2)) (cst (.int b))))
  (seqS (ifS (asB (bin neD (bin ixD (var 0) (cst (.int 0))) (mkA nilA lstF))) (seqS (setS 3 (bin ixD (bin ixD (var 0) (cst (.int 0))) (bin modD (un intF (var 2)) (un lenD (bin ixD (var 0) (cst (.int 0)))))))
  nextS) nextS)
  (seqS (ifS (andT (asB (bin ltD (var 2) (un lenD (bin ixD (var 0) (cst (.int 0)))))) (asB (bin geD (un absF (var 3)) (bin powD (cst (.int 10)) (cst (.int 18)))))) (seqS (setS 5 (bin subD (un absF (var 3)) (bin powD (cst (.int 10)) (cst (.int 18)))))
  (seqS (setIxS 0 (bin fdivD (un intF (var 5)) (var 1)) (cst (.int 2)))
  (seqS (retS (bin modD (un intF (var 5)) (var 1)))
  nextS))) nextS)
  (tailS a b m0 m1 m2)))))))
def jarC (ns : List Int) (t r : Int) : Cell := .lst [.lst (ns.map .int), .int t, .int r]
/-- the jar stands alone, b draws at most were made -/
def Jar (b : Nat) (w : W) : Prop := ∃ (ns : List Int) (t r : Int), w = [jarC ns t r] ∧ ns.length ≤ 63 ∧ 0 ≤ t ∧ t ≤ b ∧ 0 ≤ r
theorem Jar.mono {b c : Nat} {w : W} (J : Jar b w) (h : b ≤ c) : Jar c w := by
  obtain ⟨ns, t, r, e, h1, h2, h3, h4⟩ := J
  exact ⟨ns, t, r, e, h1, h2, by omega, h4⟩
theorem log_small {i : Int} {k : Nat} (h0 : 0 ≤ i) (h : i < 2 ^ k) : i.natAbs.log2 ≤ k := by
  have : i.natAbs < 2 ^ k := by
    have e : ((i.natAbs : Nat) : Int) = i := Int.natAbs_of_nonneg h0
    have h2 : ((i.natAbs : Nat) : Int) < ((2 ^ k : Nat) : Int) := by rw [e]; push_cast; exact h
    exact_mod_cast h2
  by_cases z : i.natAbs = 0
  · rw [z]; simp
  · exact Nat.le_of_lt ((Nat.log2_lt z).mpr this)
theorem draw_rest {a b m0 m1 m2 : Int} {ns : List Int} {t r m : Int} (hr : 0 < r) (h1 : 0 < m) (hm : m.natAbs.log2 < 9000) : runD 6 (drawS a b m0 m1 m2) [.ptr 0, .int m] [jarC ns t r] = .ok (.int (r % m)) [jarC ns t (r / m)] := by
  simp [runD, drawS, seqS, ifS, asB, bin, var, cst, startD, op2, Val.d, Cell.look, jarC, ixD, L2.atI, L2.ixN, R.bind, R.out, gtD, ordD, hr, setS, setIxS, lstAt, un, op1, intF, fdivD, intD, h1, hm, setIx2, chg, setF, retS, modD]

/-! ### rows of operators -/
theorem modD_ok {i j : Int} (h : 0 < j) : modD (.int i) (.int j) = some (.int (i % j)) := by simp [modD, intD, h]
theorem fdivD_ok {i j : Int} (h : 0 < j) (h2 : j.natAbs.log2 < 9000) : fdivD (.int i) (.int j) = some (.int (i / j)) := by simp [fdivD, intD, h, h2]
theorem powD_ok {i j : Int} (h0 : 0 ≤ j) (h : j ≤ 1000000) (h2 : i.natAbs < 2 ^ 64) : powD (.int i) (.int j) = some (.int (i ^ j.toNat)) := if_pos (decide_eq_true ⟨h0, h, h2⟩)
theorem mulD_ok {i j : Int} (h : i.natAbs.log2 + j.natAbs.log2 < 1000000) : mulD (.int i) (.int j) = some (.int (i * j)) := by simp [mulD, h]
theorem ixD_lst {xs : List D} {i : Int} (h0 : 0 ≤ i) (h1 : i < xs.length) : ixD (.lst xs) (.int i) = some (xs[i.toNat]'(by omega)) := by
  show L2.atI xs i = _
  unfold L2.atI L2.ixN
  rw [if_pos h0, if_pos h1, Option.bind_some, List.getElem?_eq_getElem]
theorem toPyA_ints : ∀ ns : List Int, toPyA (ns.map .int) = some (ns.map .int)
  | [] => rfl
  | n :: r => by simp [toPyA, toPy, toPyA_ints r]
theorem lay_ints : ∀ ns : List Int, PyData.canLayAll0 (ns.map .int) = true
  | [] => rfl
  | n :: r => by simp [PyData.canLayAll0, PyData.canLay0, lay_ints r]
theorem depth_ints : ∀ ns : List Int, PyData.depthAll (ns.map .int) = 0
  | [] => rfl
  | n :: r => by simp [PyData.depthAll, PyData.depth, depth_ints r]
theorem neD_ints (ns : List Int) : neD (.lst (ns.map .int)) (.lst []) = some (.bl (!ns.isEmpty)) := by
  have h : eqB (.lst (ns.map .int)) (.lst []) = some ns.isEmpty := by
    unfold eqB
    simp only [toPy, toPyA_ints, toPyA, Option.map_some]
    have h1 : SeqAt.shaped (.list (ns.map .int)) = true := by simp [SeqAt.shaped, PyData.canLay0, lay_ints, PyData.depth, depth_ints]
    have h2 : SeqAt.shaped (.list []) = true := by decide
    rw [h1, h2]
    cases ns <;> rfl
  simp [neD, h]
theorem natAbs_lt {i : Int} {k : Nat} (h0 : 0 ≤ i) (h : i < (k : Int)) : i.natAbs < k := by omega
theorem log_le {i : Int} {k : Nat} (h0 : 0 ≤ i) (h : i < 2 ^ k) : i.natAbs.log2 ≤ k := log_small h0 h
structure Nums (a b m0 m1 m2 : Int) : Prop where
  a0 : 0 ≤ a
  a1 : a < 1048576
  b0 : 0 ≤ b
  b1 : b < 1048576
  c0 : 0 ≤ m2
  c1 : m2 < 1048576
  m00 : 0 < m0
  m01 : m0 < 4294967296
  m10 : 0 < m1
  m11 : m1 < 4294967296
theorem mul_lt {x y : Int} {p q : Int} (hx : 0 ≤ x) (hp : x ≤ p) (hy : 0 ≤ y) (hq : y ≤ q) : 0 ≤ x * y ∧ x * y ≤ p * q :=
  ⟨Int.mul_nonneg hx hy, Int.mul_le_mul hp hq hy (Int.le_trans hx hp)⟩
section
variable {a b m0 m1 m2 : Int}
def mixD (a b m0 m1 m2 t c : Int) : Int := (((c % m0 + m2 * t + b) ^ 5 % m1) * (2 * t + 1409) + a * t * t + b) ^ 3 % 2147483563
theorem tail_ok (N : Nums a b m0 m1 m2) {t c m : Int} {x0 x4 x5 : Slot} {w : W} (t0 : 0 ≤ t) (t1 : t < 1048576) (h1 : 0 < m) : tailS a b m0 m1 m2 [x0, .dat (.int m), .dat (.int t), .dat (.int c), x4, x5] w = .rt (.int (mixD a b m0 m1 m2 t c / 64 % m)) w := by
  obtain ⟨a0, a1, b0, b1, c0, c1, m00, m01, m10, m11⟩ := N
  have d0 := Int.emod_nonneg c (by omega : m0 ≠ 0)
  have d1 := Int.emod_lt_of_pos c m00
  obtain ⟨e0, e1⟩ := mul_lt c0 (by omega : m2 ≤ 1048576) t0 (by omega : t ≤ 1048576)
  have f0 := Int.emod_nonneg ((c % m0 + m2 * t + b) ^ 5) (by omega : m1 ≠ 0)
  have f1 := Int.emod_lt_of_pos ((c % m0 + m2 * t + b) ^ 5) m10
  obtain ⟨g0, g1⟩ := mul_lt f0 (by omega : (c % m0 + m2 * t + b) ^ 5 % m1 ≤ 4294967296) (by omega : 0 ≤ 2 * t + 1409) (by omega : 2 * t + 1409 ≤ 4194304)
  obtain ⟨i0, i1⟩ := mul_lt a0 (by omega : a ≤ 1048576) t0 (by omega : t ≤ 1048576)
  obtain ⟨j0, j1⟩ := mul_lt i0 i1 t0 (by omega : t ≤ 1048576)
  have p1 : powD (.int (c % m0 + m2 * t + b)) (.int 5) = some (.int ((c % m0 + m2 * t + b) ^ 5)) := powD_ok (by decide) (by decide) (by omega)
  have p2 : powD (.int ((c % m0 + m2 * t + b) ^ 5 % m1 * (2 * t + 1409) + a * t * t + b)) (.int 3) = some (.int (((c % m0 + m2 * t + b) ^ 5 % m1 * (2 * t + 1409) + a * t * t + b) ^ 3)) := powD_ok (by decide) (by decide) (by omega)
  have q1 : mulD (.int m2) (.int t) = some (.int (m2 * t)) := mulD_ok (by have := log_le (k := 20) c0 (by omega); have := log_le (k := 20) t0 (by omega); omega)
  have q2 : mulD (.int 2) (.int t) = some (.int (2 * t)) := mulD_ok (by have := log_le (k := 20) (i := 2) (by omega) (by omega); have := log_le (k := 20) t0 (by omega); omega)
  have q3 : mulD (.int a) (.int t) = some (.int (a * t)) := mulD_ok (by have := log_le (k := 20) a0 (by omega); have := log_le (k := 20) t0 (by omega); omega)
  have q4 : mulD (.int (a * t)) (.int t) = some (.int (a * t * t)) := mulD_ok (by have := log_le (k := 60) i0 (by omega); have := log_le (k := 20) t0 (by omega); omega)
  have q5 : mulD (.int ((c % m0 + m2 * t + b) ^ 5 % m1)) (.int (2 * t + 1409)) = some (.int ((c % m0 + m2 * t + b) ^ 5 % m1 * (2 * t + 1409))) := mulD_ok (by have := log_le (k := 40) f0 (by omega); have := log_le (k := 40) (i := 2 * t + 1409) (by omega) (by omega); omega)
  have r1 : fdivD (.int (mixD a b m0 m1 m2 t c)) (.int 64) = some (.int (mixD a b m0 m1 m2 t c / 64)) := fdivD_ok (by decide) (by decide)
  have r2 : modD (.int (((c % m0 + m2 * t + b) ^ 5 % m1 * (2 * t + 1409) + a * t * t + b) ^ 3)) (.int 2147483563) = some (.int (mixD a b m0 m1 m2 t c)) := modD_ok (by decide)
  simp only [tailS, seqS, setS, bin, un, op1, op2, var, cst, R.bind, R.out, Val.d, intF, addD, retS, List.getElem?_cons_succ, List.getElem?_cons_zero, List.set_cons_succ, List.set_cons_zero, modD_ok m00, modD_ok m10, modD_ok h1, q1, q2, q3, q4, q5, p1, p2, r1, r2]
theorem tail_range (N : Nums a b m0 m1 m2) {t c m : Int} (h1 : 0 < m) : 0 ≤ mixD a b m0 m1 m2 t c / 64 % m ∧ mixD a b m0 m1 m2 t c / 64 % m < m := ⟨Int.emod_nonneg _ (by omega), Int.emod_lt_of_pos _ h1⟩
def headS (a b : Int) (rest : SemS) : SemS := (seqS (ifS (asB (bin gtD (bin ixD (var 0) (cst (.int 2))) (cst (.int 0)))) (seqS (setS 5 (bin ixD (var 0) (cst (.int 2))))
  (seqS (setIxS 0 (bin fdivD (un intF (var 5)) (var 1)) (cst (.int 2)))
  (seqS (retS (bin modD (un intF (var 5)) (var 1)))
  nextS))) nextS)
  (seqS (setS 2 (bin ixD (var 0) (cst (.int 1))))
  (seqS (setIxS 0 (bin addD (var 2) (cst (.int 1))) (cst (.int 1)))
  (seqS (setS 3 (bin addD (bin mulD (cst (.int a)) (var 2)) (cst (.int b)))) rest))))
def cellS (rest : SemS) : SemS := (seqS (ifS (asB (bin neD (bin ixD (var 0) (cst (.int 0))) (mkA nilA lstF))) (seqS (setS 3 (bin ixD (bin ixD (var 0) (cst (.int 0))) (bin modD (un intF (var 2)) (un lenD (bin ixD (var 0) (cst (.int 0)))))))
  nextS) nextS) rest)
def bigS (rest : SemS) : SemS := (seqS (ifS (andT (asB (bin ltD (var 2) (un lenD (bin ixD (var 0) (cst (.int 0)))))) (asB (bin geD (un absF (var 3)) (bin powD (cst (.int 10)) (cst (.int 18)))))) (seqS (setS 5 (bin subD (un absF (var 3)) (bin powD (cst (.int 10)) (cst (.int 18)))))
  (seqS (setIxS 0 (bin fdivD (un intF (var 5)) (var 1)) (cst (.int 2)))
  (seqS (retS (bin modD (un intF (var 5)) (var 1)))
  nextS))) nextS) rest)
theorem drawS_eq : drawS a b m0 m1 m2 = headS a b (cellS (bigS (tailS a b m0 m1 m2))) := rfl
theorem head_turn (N : Nums a b m0 m1 m2) {s : SemS} {ns : List Int} {t r m : Int} (hr : ¬ 0 < r) (t0 : 0 ≤ t) (t1 : t < 1048576) : headS a b s [.dat (.ptr 0), .dat (.int m), .non, .non, .non, .non] [jarC ns t r] = s [.dat (.ptr 0), .dat (.int m), .dat (.int t), .dat (.int (a * t + b)), .non, .non] [jarC ns (t + 1) r] := by
  have q3 : mulD (.int a) (.int t) = some (.int (a * t)) := mulD_ok (by have := log_le (k := 20) N.a0 (by have := N.a1; omega); have := log_le (k := 20) t0 (by omega); omega)
  simp [headS, seqS, ifS, asB, bin, var, cst, op2, Val.d, Cell.look, jarC, ixD, L2.atI, L2.ixN, R.bind, R.out, gtD, ordD, hr, setS, setIxS, lstAt, un, op1, intF, setIx2, chg, setF, nextS, addD, q3]
theorem cell_ok {s : SemS} {ns : List Int} {t t' r m c : Int} (t0 : 0 ≤ t) : ∃ c', cellS s [.dat (.ptr 0), .dat (.int m), .dat (.int t), .dat (.int c), .non, .non] [jarC ns t' r] = s [.dat (.ptr 0), .dat (.int m), .dat (.int t), .dat (.int c'), .non, .non] [jarC ns t' r] := by
  cases ns with
  | nil =>
    refine ⟨c, ?_⟩
    have q : neD (.lst (List.map .int [])) (.lst []) = some (.bl false) := neD_ints []
    have j0 : ixD (.lst [.lst (List.map .int []), .int t', .int r]) (.int 0) = some (.lst (List.map .int [])) := rfl
    simp only [cellS, seqS, ifS, asB, bin, var, cst, op2, Val.d, Cell.look, jarC, R.bind, R.out, mkA, nilA, lstF, nextS, List.getElem?_cons_succ, List.getElem?_cons_zero, Option.bind_some, j0, q, List.length_nil, Nat.zero_le, if_true, Bool.false_eq_true, if_false]
  | cons n ns =>
    have q := neD_ints (n :: ns)
    have hp : (0 : Int) < ((n :: ns).length : Int) := by simp only [List.length_cons]; omega
    have h0 := Int.emod_nonneg t (by omega : ((n :: ns).length : Int) ≠ 0)
    have h1 := Int.emod_lt_of_pos t hp
    have h2 : (t % ((n :: ns).length : Int)).toNat < (n :: ns).length := by omega
    refine ⟨(n :: ns)[(t % ((n :: ns).length : Int)).toNat], ?_⟩
    have e : ixD (.lst ((n :: ns).map .int)) (.int (t % ((n :: ns).length : Int))) = some (.int (n :: ns)[(t % ((n :: ns).length : Int)).toNat]) := by
      rw [ixD_lst h0 (by rw [List.length_map]; exact h1), List.getElem_map]
    have l : lenD (.lst ((n :: ns).map .int)) = some (.int ((n :: ns).length : Int)) := by simp only [lenD, List.length_map]
    have md : modD (.int t) (.int ((n :: ns).length : Int)) = some (.int (t % ((n :: ns).length : Int))) := modD_ok hp
    have j0 : ixD (.lst [.lst ((n :: ns).map .int), .int t', .int r]) (.int 0) = some (.lst ((n :: ns).map .int)) := rfl
    simp only [cellS, seqS, ifS, asB, bin, var, cst, op2, Val.d, Cell.look, jarC, R.bind, R.out, mkA, nilA, lstF, nextS, un, op1, intF, setS, List.getElem?_cons_succ, List.getElem?_cons_zero, Option.bind_some, j0, q, l, md, e, List.length_nil, Nat.zero_le, if_true, List.isEmpty_cons, Bool.not_false, List.set_cons_succ, List.set_cons_zero]
theorem big_ok {s : SemS} {ns : List Int} {t t' r m c : Int} (h1 : 0 < m) (hm : m.natAbs.log2 < 9000) :
    (∃ r', 0 ≤ r' ∧ bigS s [.dat (.ptr 0), .dat (.int m), .dat (.int t), .dat (.int c), .non, .non] [jarC ns t' r] = .rt (.int (r' % m)) [jarC ns t' (r' / m)]) ∨
    bigS s [.dat (.ptr 0), .dat (.int m), .dat (.int t), .dat (.int c), .non, .non] [jarC ns t' r] = s [.dat (.ptr 0), .dat (.int m), .dat (.int t), .dat (.int c), .non, .non] [jarC ns t' r] := by
  have j0 : ixD (.lst [.lst (ns.map .int), .int t', .int r]) (.int 0) = some (.lst (ns.map .int)) := rfl
  have l : lenD (.lst (ns.map .int)) = some (.int (ns.length : Int)) := by simp [lenD]
  have p : powD (.int 10) (.int 18) = some (.int 1000000000000000000) := rfl
  by_cases h : t < (ns.length : Int)
  · by_cases h2 : (1000000000000000000 : Int) ≤ (if c < 0 then -c else c)
    · left
      refine ⟨(if c < 0 then -c else c) - 1000000000000000000, by omega, ?_⟩
      have i2 : L2.ixN 3 2 = some 2 := rfl
      simp only [bigS, seqS, ifS, asB, andT, bin, var, cst, op2, Val.d, Cell.look, jarC, R.bind, R.out, nextS, un, op1, intF, setS, setIxS, lstAt, setIx2, chg, setF, retS, absF, ltD, geD, ordD, subD, intD0, List.getElem?_cons_succ, List.getElem?_cons_zero, Option.bind_some, Option.map_some, List.length_cons, List.length_nil, i2, j0, l, p, h, h2, decide_true, if_true, List.set_cons_succ, List.set_cons_zero, modD_ok h1, fdivD_ok h1 hm]
    · right
      simp only [bigS, seqS, ifS, asB, andT, bin, var, cst, op2, Val.d, Cell.look, jarC, R.bind, R.out, nextS, un, op1, intF, absF, ltD, geD, ordD, List.getElem?_cons_succ, List.getElem?_cons_zero, Option.bind_some, j0, l, p, h, h2, decide_true, decide_false, if_true, Bool.false_eq_true, if_false]
  · right
    simp only [bigS, seqS, ifS, asB, andT, bin, var, cst, op2, Val.d, Cell.look, jarC, R.bind, R.out, nextS, un, op1, intF, ltD, ordD, List.getElem?_cons_succ, List.getElem?_cons_zero, Option.bind_some, j0, l, h, decide_false, Bool.false_eq_true, if_false]
/-- a draw below m -/
theorem draw_ok (N : Nums a b m0 m1 m2) {k : Nat} {w : W} {m : Int} (J : Jar k w) (hk : k < 1048576) (h1 : 0 < m) (hm : m.natAbs.log2 < 9000) :
    ∃ i w', runD 6 (drawS a b m0 m1 m2) [.ptr 0, .int m] w = .ok (.int i) w' ∧ 0 ≤ i ∧ i < m ∧ Jar (k + 1) w' := by
  obtain ⟨ns, t, r, rfl, hn, t0, tk, r0⟩ := J
  by_cases hr : 0 < r
  · exact ⟨_, _, draw_rest hr h1 hm, Int.emod_nonneg _ (by omega), Int.emod_lt_of_pos _ h1, ns, t, _, rfl, hn, t0, by omega, Int.ediv_nonneg r0 (by omega)⟩
  · have st : startD 6 [.ptr 0, .int m] = [.dat (.ptr 0), .dat (.int m), .non, .non, .non, .non] := rfl
    unfold runD
    rw [st, drawS_eq, head_turn N hr t0 (by omega)]
    obtain ⟨c, e⟩ := cell_ok (s := bigS (tailS a b m0 m1 m2)) (ns := ns) (t := t) (t' := t + 1) (r := r) (m := m) (c := a * t + b) t0
    rw [e]
    rcases big_ok (s := tailS a b m0 m1 m2) (ns := ns) (t := t) (t' := t + 1) (r := r) (m := m) (c := c) h1 hm with ⟨r', r0', e2⟩ | e2
    · rw [e2]
      exact ⟨_, _, rfl, Int.emod_nonneg _ (by omega), Int.emod_lt_of_pos _ h1, ns, t + 1, _, rfl, hn, by omega, by omega, Int.ediv_nonneg r0' (by omega)⟩
    · rw [e2, tail_ok N t0 (by omega) h1]
      exact ⟨_, _, rfl, (tail_range N h1).1, (tail_range N h1).2, ns, t + 1, _, rfl, hn, by omega, by omega, r0⟩
end
end JM

/-! Plain law: loops, comprehensions, texts. -/
namespace JM
open PySem DL
theorem set_set (ρ : List Slot) (i : Nat) (x y : Slot) : (ρ.set i x).set i y = ρ.set i y := by simp
theorem lcL_pure {i : Nat} {se : SemE} {ρ : List Slot} {w : W} {f : D → D} : ∀ (items acc : List D), (∀ d ∈ items, se (ρ.set i (.dat d)) w = .ok (.dat (f d)) w) → acc.length + items.length ≤ most →
    lcL (nameG i) yesT se ρ items w acc = .ok (acc ++ items.map f) w
  | [], acc, _, _ => by simp [lcL]
  | d :: r, acc, h, hl => by
    have h1 := h d List.mem_cons_self
    have hl' : acc.length < most := by simp only [List.length_cons] at hl; omega
    have ih := lcL_pure (f := f) r (acc ++ [f d]) (fun e he => h e (List.mem_cons_of_mem _ he)) (by simp only [List.length_append, List.length_cons, List.length_nil] at hl ⊢; omega)
    simp only [lcL, nameG, yesT, h1, hl', if_true, ih, List.append_assoc, List.cons_append, List.nil_append, List.map_cons]
/-- a comprehension whose element draws c times at most -/
theorem lcL_jar {i c B : Nat} {se : SemE} {ρ : List Slot} {P : D → Prop} : ∀ (items acc : List D) (n : Nat) (w : W), Jar n w → (∀ d ∈ items, ∀ n w, Jar n w → n + c ≤ B → ∃ y w', se (ρ.set i (.dat d)) w = .ok (.dat y) w' ∧ P y ∧ Jar (n + c) w') → n + c * items.length ≤ B → acc.length + items.length ≤ most →
    ∃ ys w', lcL (nameG i) yesT se ρ items w acc = .ok (acc ++ ys) w' ∧ ys.length = items.length ∧ (∀ y ∈ ys, P y) ∧ Jar (n + c * items.length) w'
  | [], acc, n, w, J, _, _, _ => ⟨[], w, by simp [lcL], rfl, (fun _ h => by cases h), by simpa using J⟩
  | d :: r, acc, n, w, J, h, hB, hl => by
    have hm : c * (d :: r).length = c * r.length + c := by rw [List.length_cons, Nat.mul_succ]
    obtain ⟨y, w1, e1, p1, J1⟩ := h d List.mem_cons_self n w J (by rw [hm] at hB; omega)
    have hl' : acc.length < most := by simp only [List.length_cons] at hl; omega
    obtain ⟨ys, w2, e2, l2, p2, J2⟩ := lcL_jar (c := c) (B := B) (P := P) r (acc ++ [y]) (n + c) w1 J1 (fun e he => h e (List.mem_cons_of_mem _ he)) (by rw [hm] at hB; omega) (by simp only [List.length_append, List.length_cons, List.length_nil] at hl ⊢; omega)
    refine ⟨y :: ys, w2, ?_, by simp [l2], fun z hz => ?_, by rw [hm]; exact J2.mono (by omega)⟩
    · simp only [lcL, nameG, yesT, e1, hl', if_true, e2, List.append_assoc, List.cons_append, List.nil_append]
    · rcases List.mem_cons.mp hz with rfl | hz
      · exact p1
      · exact p2 z hz
/-- a loop that tests each item, and goes on or returns r -/
theorem forL_test {i : Nat} {b : SemS} {p : D → Bool} {r : D} {w : W} : ∀ (items : List D) (ρ : List Slot), (∀ d ∈ items, ∀ x, b ((ρ.set i x).set i (.dat d)) w = if p d then .nx (ρ.set i (.dat d)) w else .rt r w) →
    ∃ ρ', forL (nameG i) b items ρ w = if items.all p then .nx ρ' w else .rt r w
  | [], ρ, _ => ⟨ρ, by simp [forL]⟩
  | d :: t, ρ, h => by
    have h1 := h d List.mem_cons_self .non
    rw [set_set] at h1
    cases q : p d with
    | false => exact ⟨ρ, by simp [forL, nameG, h1, q]⟩
    | true =>
      obtain ⟨ρ', ih⟩ := forL_test (i := i) (b := b) (p := p) (r := r) (w := w) t (ρ.set i (.dat d)) (fun e he x => by
        have z := h e (List.mem_cons_of_mem _ he) x
        rw [set_set] at z
        simp only [set_set]
        exact z)
      exact ⟨ρ', by simp only [forL, nameG, h1, q, ih, if_true, List.all_cons, Bool.true_and]⟩
/-! ### texts -/
abbrev tl (x : Str) : List Nat := x.cps.toList
theorem tlL (x : Str) : TL.tl x = tl x := rfl
def one (c : Nat) : Str := ⟨#[c]⟩
def low (c : Nat) : Bool := decide (97 ≤ c ∧ c ≤ 122)
def dig (c : Nat) : Bool := decide (48 ≤ c ∧ c ≤ 57)
theorem small_list : tl "abcdefghijklmnopqrstuvwxyz" = List.range' 97 26 := by decide +kernel
theorem digits_list : tl "0123456789" = List.range' 48 10 := by decide +kernel
theorem mem_small (c : Nat) : decide (c ∈ tl "abcdefghijklmnopqrstuvwxyz") = low c := by
  unfold low
  rw [small_list]
  apply decide_eq_decide.mpr
  rw [List.mem_range'_1]
  omega
theorem mem_digits (c : Nat) : decide (c ∈ tl "0123456789") = dig c := by
  unfold dig
  rw [digits_list]
  apply decide_eq_decide.mpr
  rw [List.mem_range'_1]
  omega
theorem notin_small (c : Nat) : inD true (.str (one c)) (.str "abcdefghijklmnopqrstuvwxyz") = some (.bl (!low c)) := by
  rw [← mem_small]
  show some (D.bl (true ^^ _)) = _
  simp
theorem notin_digits (c : Nat) : inD true (.str (one c)) (.str "0123456789") = some (.bl (!dig c)) := by
  rw [← mem_digits]
  show some (D.bl (true ^^ _)) = _
  simp
theorem len_tl (x : Str) : x.length = (tl x).length := TL.len_tl x
theorem len_int (x : Str) (h : x.length ≤ most) : lenD (.str x) = some (.int ((tl x).length : Nat)) := by
  show (if x.length ≤ most then some (D.int (x.length : Nat)) else none) = _
  rw [if_pos h, len_tl]
/-- x[i] -/
theorem ix_str {x : Str} {i : Int} (h : x.length ≤ most) (h0 : 0 ≤ i) (h1 : i < (tl x).length) : ixD (.str x) (.int i) = some (.str (one ((tl x)[i.toNat]'(by omega)))) := by
  show (if x.length ≤ most then (L2.atI (tl x) i).map fun c => D.str ⟨#[c]⟩ else none) = _
  rw [if_pos h]
  unfold L2.atI L2.ixN
  rw [if_pos h0, if_pos h1, Option.bind_some, List.getElem?_eq_getElem]
  rfl
def stemB (l : List Nat) : Bool := decide (1 ≤ l.length ∧ l.length ≤ 12) && low (l.headD 0) && l.all fun c => low c || dig c
theorem headD_eq : ∀ {l : List Nat} (h : 0 < l.length), l.headD 0 = l[0]
  | [], h => absurd h (Nat.lt_irrefl 0)
  | _ :: _, _ => rfl
/-! ### pieces between dots -/
abbrev pcs (acc l : List Nat) : List (List Nat) := TL.spl [46] 0 acc l
theorem pcs_nil (acc : List Nat) : pcs acc [] = [acc] := TL.spl_nil _ _ _
theorem pcs_dot (acc r : List Nat) : pcs acc (46 :: r) = acc :: pcs [] r := TL.spl_hit (TL.pre_self [46] r)
theorem pcs_go {c : Nat} (h : c ≠ 46) (acc r : List Nat) : pcs acc (c :: r) = pcs (acc ++ [c]) r := TL.spl_miss (TL.pre_of_head [] r h)
theorem pcs_first : ∀ (l acc : List Nat), ∃ q rest, pcs acc l = (acc ++ q) :: rest
  | [], acc => ⟨[], [], by rw [pcs_nil, List.append_nil]⟩
  | c :: r, acc => by
    by_cases h : c = 46
    · subst h
      exact ⟨[], pcs [] r, by rw [pcs_dot, List.append_nil]⟩
    · obtain ⟨q, rest, e⟩ := pcs_first r (acc ++ [c])
      exact ⟨c :: q, rest, by rw [pcs_go h, e]; simp⟩
theorem pcs_len : ∀ (l acc : List Nat), ∀ p ∈ pcs acc l, p.length ≤ acc.length + l.length
  | [], acc, p, h => by
    rw [pcs_nil] at h
    rw [List.mem_singleton.mp h]
    omega
  | c :: r, acc, p, h => by
    by_cases z : c = 46
    · subst z
      rw [pcs_dot] at h
      rcases List.mem_cons.mp h with rfl | h
      · simp
      · have := pcs_len r [] p h
        simp only [List.length_nil, List.length_cons] at this ⊢
        omega
    · rw [pcs_go z] at h
      have := pcs_len r (acc ++ [c]) p h
      simp only [List.length_append, List.length_cons, List.length_nil] at this ⊢
      omega
theorem pcs_one : ∀ (l acc p : List Nat), pcs acc l = [p] → p = acc ++ l
  | [], acc, p, h => by
    rw [pcs_nil] at h
    cases h
    simp
  | c :: r, acc, p, h => by
    by_cases z : c = 46
    · subst z
      rw [pcs_dot] at h
      obtain ⟨q, rest, e⟩ := pcs_first r []
      rw [e] at h
      cases h
    · rw [pcs_go z] at h
      rw [pcs_one r (acc ++ [c]) p h]
      simp
theorem pcs_free {l acc : List Nat} (h : 46 ∉ l) : pcs acc l = [acc ++ l] := TL.spl_last1 h
def Good (p : List Nat) : Prop := p ≠ [] ∧ low (p.headD 0) = true ∧ ∀ c ∈ p, (low c || dig c) = true
def Pre (p : List Nat) : Prop := p = [] ∨ Good p
theorem stemB_iff (l : List Nat) : stemB l = true ↔ Good l ∧ l.length ≤ 12 := by
  unfold stemB Good
  cases l with
  | nil => simp
  | cons c r => simp [and_comm, and_assoc, and_left_comm]
/-- the walk over a text -/
def wk : List Nat → Nat → Nat → Nat → Option (Nat × Nat × Nat)
  | [], s, r, g => some (s, r, g)
  | c :: t, s, r, g => if c = 46 then (if r = 0 then none else wk t (s + 1) 0 g) else if (low c || (decide (0 < r) && dig c)) = true then wk t s (r + 1) (max g (r + 1)) else none
def Wkd (ps : List (List Nat)) (s g : Nat) : Option (Nat × Nat × Nat) → Prop
  | none => ∃ p ∈ ps, ¬ Good p
  | some (s', r', g') => (r' = 0 ∧ ∃ p ∈ ps, ¬ Good p) ∨ (0 < r' ∧ (∀ p ∈ ps, Good p) ∧ s' + 1 = s + ps.length ∧ ∀ m, g' ≤ m ↔ g ≤ m ∧ ∀ p ∈ ps, p.length ≤ m)
theorem wk_ok : ∀ (l acc : List Nat) (s g : Nat), Pre acc → acc.length ≤ g → Wkd (pcs acc l) s g (wk l s acc.length g)
  | [], acc, s, g, hp, hg => by
    rw [pcs_nil]
    rcases hp with rfl | hp
    · exact .inl ⟨rfl, [], List.mem_singleton.mpr rfl, fun z => z.1 rfl⟩
    · refine .inr ⟨?_, fun p h => ?_, by simp, fun m => ⟨fun h => ⟨h, fun p hp => ?_⟩, fun h => h.1⟩⟩
      · cases acc with
        | nil => exact absurd rfl hp.1
        | cons a b => simp
      · rw [List.mem_singleton.mp h]; exact hp
      · rw [List.mem_singleton.mp hp]; omega
  | c :: r, acc, s, g, hp, hg => by
    unfold wk
    by_cases z : c = 46
    · subst z
      rw [if_pos rfl, pcs_dot]
      by_cases h0 : acc.length = 0
      · rw [if_pos h0]
        have : acc = [] := List.eq_nil_of_length_eq_zero h0
        subst this
        exact ⟨[], List.mem_cons_self, fun z => z.1 rfl⟩
      · rw [if_neg h0]
        have ga : Good acc := by
          rcases hp with rfl | hp
          · exact absurd rfl h0
          · exact hp
        have ih := wk_ok r [] (s + 1) g (.inl rfl) (by simp)
        simp only [List.length_nil] at ih
        cases q : wk r (s + 1) 0 g with
        | none =>
          rw [q] at ih
          obtain ⟨p, h1, h2⟩ := ih
          exact ⟨p, List.mem_cons_of_mem _ h1, h2⟩
        | some x =>
          obtain ⟨s', r', g'⟩ := x
          rw [q] at ih
          rcases ih with ⟨h1, p, h2, h3⟩ | ⟨h1, h2, h3, h4⟩
          · exact .inl ⟨h1, p, List.mem_cons_of_mem _ h2, h3⟩
          · refine .inr ⟨h1, fun p h => ?_, by simp only [List.length_cons]; omega, fun m => ?_⟩
            · rcases List.mem_cons.mp h with rfl | h
              · exact ga
              · exact h2 p h
            · rw [h4 m]
              refine ⟨fun ⟨a, b⟩ => ⟨a, fun p h => ?_⟩, fun ⟨a, b⟩ => ⟨a, fun p h => b p (List.mem_cons_of_mem _ h)⟩⟩
              rcases List.mem_cons.mp h with rfl | h
              · omega
              · exact b p h
    · rw [if_neg z, pcs_go z]
      obtain ⟨q, rest, e⟩ := pcs_first r (acc ++ [c])
      by_cases hc : (low c || (decide (0 < acc.length) && dig c)) = true
      · rw [if_pos hc]
        have gp : Good (acc ++ [c]) := by
          rcases hp with rfl | hp
          · have : low c = true := by simpa using hc
            exact ⟨by simp, by simpa using this, fun d hd => by
              have : d = c := by simpa using hd
              subst this
              simp [*]⟩
          · refine ⟨by simp, ?_, fun d hd => ?_⟩
            · cases acc with
              | nil => exact absurd rfl hp.1
              | cons a b => exact hp.2.1
            · rcases List.mem_append.mp hd with h | h
              · exact hp.2.2 d h
              · have : d = c := by simpa using h
                subst this
                cases q1 : low d <;> cases q2 : dig d <;> simp_all
        have ih := wk_ok r (acc ++ [c]) s (max g (acc.length + 1)) (.inr gp) (by simp; omega)
        have el : (acc ++ [c]).length = acc.length + 1 := by simp
        rw [el] at ih
        cases q2 : wk r s (acc.length + 1) (max g (acc.length + 1)) with
        | none => rw [q2] at ih; exact ih
        | some x =>
          obtain ⟨s', r', g'⟩ := x
          rw [q2] at ih
          rcases ih with h | ⟨h1, h2, h3, h4⟩
          · exact .inl h
          · refine .inr ⟨h1, h2, h3, fun m => ?_⟩
            rw [h4 m]
            refine ⟨fun ⟨a, b⟩ => ⟨by omega, b⟩, fun ⟨a, b⟩ => ⟨?_, b⟩⟩
            have := b (acc ++ [c] ++ q) (by rw [e]; exact List.mem_cons_self)
            simp only [List.length_append, List.length_cons, List.length_nil] at this
            omega
      · rw [if_neg hc]
        refine ⟨acc ++ [c] ++ q, by rw [e]; exact List.mem_cons_self, fun gz => ?_⟩
        have h1 := gz.2.2 c (by simp)
        rcases hp with rfl | hp
        · have h2 : low c = true := by simpa using gz.2.1
          simp [h2] at hc
        · have : 0 < acc.length := by
            cases acc with
            | nil => exact absurd rfl hp.1
            | cons a b => simp
          cases q1 : low c <;> cases q2 : dig c <;> simp_all
def nameB (l : List Nat) : Bool := decide ((pcs [] l).length ≤ 6) && (pcs [] l).all stemB
/-- what the walk tells -/
theorem wk_law (l : List Nat) : match wk l 1 0 0 with
    | none => stemB l = false ∧ nameB l = false
    | some (s, r, g) => if r = 0 then stemB l = false ∧ nameB l = false else stemB l = (decide (g ≤ 12) && decide (s = 1)) ∧ nameB l = (decide (g ≤ 12) && decide (s ≤ 6)) := by
  have key := wk_ok l [] 1 0 (.inl rfl) (by simp)
  simp only [List.length_nil] at key
  have free : stemB l = true → pcs [] l = [l] := fun h => by
    have hg := ((stemB_iff l).mp h).1
    exact pcs_free (acc := []) fun m => by
      have := hg.2.2 46 m
      simp [low, dig] at this
  have bad : (∃ p ∈ pcs [] l, ¬ Good p) → stemB l = false ∧ nameB l = false := fun ⟨p, h1, h2⟩ => by
    constructor
    · cases q : stemB l with
      | false => rfl
      | true =>
        rw [free q] at h1
        rw [List.mem_singleton.mp h1] at h2
        exact absurd ((stemB_iff l).mp q).1 h2
    · cases q : nameB l with
      | false => rfl
      | true =>
        unfold nameB at q
        have := List.all_eq_true.mp (Bool.and_eq_true_iff.mp q).2 p h1
        exact absurd ((stemB_iff p).mp this).1 h2
  cases q : wk l 1 0 0 with
  | none => rw [q] at key; exact bad key
  | some x =>
    obtain ⟨s, r, g⟩ := x
    rw [q] at key
    rcases key with ⟨h1, h2⟩ | ⟨h1, h2, h3, h4⟩
    · show if r = 0 then _ else _
      rw [if_pos h1]; exact bad h2
    · show if r = 0 then _ else _
      rw [if_neg (by omega)]
      have g12 : g ≤ 12 ↔ ∀ p ∈ pcs [] l, p.length ≤ 12 := by rw [h4 12]; simp
      constructor
      · apply Bool.eq_iff_iff.mpr
        rw [stemB_iff, Bool.and_eq_true_iff, decide_eq_true_eq, decide_eq_true_eq, g12]
        constructor
        · intro h
          have e := free ((stemB_iff l).mpr h)
          rw [e] at h3 ⊢
          exact ⟨fun p hp => by rw [List.mem_singleton.mp hp]; exact h.2, by simp at h3; omega⟩
        · intro ⟨ha, hs⟩
          have hl : (pcs [] l).length = 1 := by omega
          obtain ⟨p, e⟩ := List.length_eq_one_iff.mp hl
          have ep : p = l := by simpa using pcs_one l [] p e
          subst ep
          exact ⟨h2 p (by rw [e]; exact List.mem_singleton.mpr rfl), ha p (by rw [e]; exact List.mem_singleton.mpr rfl)⟩
      · unfold nameB
        apply Bool.eq_iff_iff.mpr
        rw [Bool.and_eq_true_iff, Bool.and_eq_true_iff, decide_eq_true_eq, decide_eq_true_eq, decide_eq_true_eq, g12, List.all_eq_true]
        have es : s = (pcs [] l).length := by omega
        rw [es]
        exact ⟨fun ⟨a, b⟩ => ⟨fun p hp => ((stemB_iff p).mp (b p hp)).2, a⟩, fun ⟨a, b⟩ => ⟨b, fun p hp => (stemB_iff p).mpr ⟨h2 p hp, a p hp⟩⟩⟩
/-! ### kinds -/
theorem k_NoneType_int : L2.kitB "NoneType" "int" = some false := by decide +kernel
theorem k_NoneType_bool : L2.kitB "NoneType" "bool" = some false := by decide +kernel
theorem k_NoneType_str : L2.kitB "NoneType" "str" = some false := by decide +kernel
theorem k_NoneType_list : L2.kitB "NoneType" "list" = some false := by decide +kernel
theorem k_NoneType_tuple : L2.kitB "NoneType" "tuple" = some false := by decide +kernel
theorem k_NoneType_dict : L2.kitB "NoneType" "dict" = some false := by decide +kernel
theorem k_bool_int : L2.kitB "bool" "int" = some true := by decide +kernel
theorem k_bool_bool : L2.kitB "bool" "bool" = some true := by decide +kernel
theorem k_bool_str : L2.kitB "bool" "str" = some false := by decide +kernel
theorem k_bool_list : L2.kitB "bool" "list" = some false := by decide +kernel
theorem k_bool_tuple : L2.kitB "bool" "tuple" = some false := by decide +kernel
theorem k_bool_dict : L2.kitB "bool" "dict" = some false := by decide +kernel
theorem k_int_int : L2.kitB "int" "int" = some true := by decide +kernel
theorem k_int_bool : L2.kitB "int" "bool" = some false := by decide +kernel
theorem k_int_str : L2.kitB "int" "str" = some false := by decide +kernel
theorem k_int_list : L2.kitB "int" "list" = some false := by decide +kernel
theorem k_int_tuple : L2.kitB "int" "tuple" = some false := by decide +kernel
theorem k_int_dict : L2.kitB "int" "dict" = some false := by decide +kernel
theorem k_str_int : L2.kitB "str" "int" = some false := by decide +kernel
theorem k_str_bool : L2.kitB "str" "bool" = some false := by decide +kernel
theorem k_str_str : L2.kitB "str" "str" = some true := by decide +kernel
theorem k_str_list : L2.kitB "str" "list" = some false := by decide +kernel
theorem k_str_tuple : L2.kitB "str" "tuple" = some false := by decide +kernel
theorem k_str_dict : L2.kitB "str" "dict" = some false := by decide +kernel
theorem k_list_int : L2.kitB "list" "int" = some false := by decide +kernel
theorem k_list_bool : L2.kitB "list" "bool" = some false := by decide +kernel
theorem k_list_str : L2.kitB "list" "str" = some false := by decide +kernel
theorem k_list_list : L2.kitB "list" "list" = some true := by decide +kernel
theorem k_list_tuple : L2.kitB "list" "tuple" = some false := by decide +kernel
theorem k_list_dict : L2.kitB "list" "dict" = some false := by decide +kernel
theorem k_tuple_int : L2.kitB "tuple" "int" = some false := by decide +kernel
theorem k_tuple_bool : L2.kitB "tuple" "bool" = some false := by decide +kernel
theorem k_tuple_str : L2.kitB "tuple" "str" = some false := by decide +kernel
theorem k_tuple_list : L2.kitB "tuple" "list" = some false := by decide +kernel
theorem k_tuple_tuple : L2.kitB "tuple" "tuple" = some true := by decide +kernel
theorem k_tuple_dict : L2.kitB "tuple" "dict" = some false := by decide +kernel
theorem k_dict_int : L2.kitB "dict" "int" = some false := by decide +kernel
theorem k_dict_bool : L2.kitB "dict" "bool" = some false := by decide +kernel
theorem k_dict_str : L2.kitB "dict" "str" = some false := by decide +kernel
theorem k_dict_list : L2.kitB "dict" "list" = some false := by decide +kernel
theorem k_dict_tuple : L2.kitB "dict" "tuple" = some false := by decide +kernel
theorem k_dict_dict : L2.kitB "dict" "dict" = some true := by decide +kernel
end JM

namespace K00
open PySem PySem.Spec PyProof.Rows L2 DL
/-! ### the text -/
def top (i : Nat) : Stmt := PySem.Challenge.pw_sayable_k00_errors_keep_their_fields.main.body.getD i (.Pass ⟨0, 0, 0, 0⟩)
abbrev st__law_jar : Stmt := top 29
abbrev st__law_dip : Stmt := top 30
abbrev st__law_some : Stmt := top 31
abbrev st__law_kin : Stmt := top 37
abbrev st__law_stands_right : Stmt := top 38
abbrev st__law_fields : Stmt := top 36
abbrev st__law_all_right : Stmt := top 39
abbrev st__law_parts : Stmt := top 32
abbrev st__law_others : Stmt := top 34
abbrev st__law_parts_turned : Stmt := top 33
abbrev st__law_others_named : Stmt := top 35
abbrev st_law : Stmt := top 40
abbrev si_BadBook : Stmt := inClass (top 6) 0
abbrev si_BadDeed : Stmt := inClass (top 3) 0
abbrev si_BadLine : Stmt := inClass (top 27) 0
abbrev si_BadLoose : Stmt := inClass (top 4) 0
abbrev si_BadNumbers : Stmt := inClass (top 13) 0
abbrev si_BadPlace : Stmt := inClass (top 7) 0
abbrev si_BadPriced : Stmt := inClass (top 9) 0
abbrev si_BadRoom : Stmt := inClass (top 2) 0
abbrev si_BadSaying : Stmt := inClass (top 5) 0
abbrev si_BadTalk : Stmt := inClass (top 10) 0
abbrev si_BadTeller : Stmt := inClass (top 11) 0
abbrev si_BadText : Stmt := inClass (top 26) 0
abbrev si_BadTie : Stmt := inClass (top 8) 0
abbrev si_BadTranslation : Stmt := inClass (top 12) 0
abbrev si_Missing : Stmt := inClass (top 14) 0
abbrev si_NotLet : Stmt := inClass (top 21) 0
abbrev si_TooMany : Stmt := inClass (top 25) 0
abbrev si_Twice : Stmt := inClass (top 22) 0
abbrev si_Unlike : Stmt := inClass (top 23) 0
def kinds : List Str := ["BadBook", "BadSaying", "BadLoose", "BadDeed", "BadRoom", "BadTalk", "BadPriced", "BadTie", "BadPlace", "BadNumbers", "BadTranslation", "BadTeller", "NoName", "NoWay", "NoScale", "NoLink", "NoWord", "NoThing", "TooMany", "NotLet", "Unlike", "Twice", "Nothing", "BadLine", "BadText", "Missing"]
def tabK (ys : List Str) : List (Str × Bool) := kinds.map fun c => (c, ys.contains c)
def tab_ArithmeticError : List (Str × Bool) := tabK []
def tab_AttributeError : List (Str × Bool) := tabK []
def tab_BadBook : List (Str × Bool) := tabK ["BadBook"]
def tab_BadDeed : List (Str × Bool) := tabK ["BadDeed"]
def tab_BadLine : List (Str × Bool) := tabK ["BadLine"]
def tab_BadLoose : List (Str × Bool) := tabK ["BadLoose"]
def tab_BadNumbers : List (Str × Bool) := tabK ["BadNumbers"]
def tab_BadPlace : List (Str × Bool) := tabK ["BadPlace"]
def tab_BadPriced : List (Str × Bool) := tabK ["BadPriced"]
def tab_BadRoom : List (Str × Bool) := tabK ["BadRoom"]
def tab_BadSaying : List (Str × Bool) := tabK ["BadSaying"]
def tab_BadTalk : List (Str × Bool) := tabK ["BadTalk"]
def tab_BadTeller : List (Str × Bool) := tabK ["BadTeller"]
def tab_BadText : List (Str × Bool) := tabK ["BadText"]
def tab_BadTie : List (Str × Bool) := tabK ["BadTie"]
def tab_BadTranslation : List (Str × Bool) := tabK ["BadTranslation"]
def tab_LookupError : List (Str × Bool) := tabK []
def tab_Missing : List (Str × Bool) := tabK ["NoName", "NoWay", "NoScale", "NoLink", "NoWord", "NoThing", "Missing"]
def tab_NoLink : List (Str × Bool) := tabK ["NoLink"]
def tab_NoName : List (Str × Bool) := tabK ["NoName"]
def tab_NoScale : List (Str × Bool) := tabK ["NoScale"]
def tab_NoThing : List (Str × Bool) := tabK ["NoThing"]
def tab_NoWay : List (Str × Bool) := tabK ["NoWay"]
def tab_NoWord : List (Str × Bool) := tabK ["NoWord"]
def tab_NotLet : List (Str × Bool) := tabK ["NotLet"]
def tab_Nothing : List (Str × Bool) := tabK ["Nothing"]
def tab_RuntimeError : List (Str × Bool) := tabK []
def tab_SayError : List (Str × Bool) := tabK ["BadBook", "BadSaying", "BadLoose", "BadDeed", "BadRoom", "BadTalk", "BadPriced", "BadTie", "BadPlace", "BadNumbers", "BadTranslation", "BadTeller", "NoName", "NoWay", "NoScale", "NoLink", "NoWord", "NoThing", "TooMany", "NotLet", "Unlike", "Twice", "Nothing", "BadLine", "BadText", "Missing"]
def tab_TooMany : List (Str × Bool) := tabK ["TooMany"]
def tab_Twice : List (Str × Bool) := tabK ["Twice"]
def tab_TypeError : List (Str × Bool) := tabK []
def tab_Unlike : List (Str × Bool) := tabK ["Unlike"]
def tab_ValueError : List (Str × Bool) := tabK ["BadBook", "BadSaying", "BadLoose", "BadDeed", "BadRoom", "BadTalk", "BadPriced", "BadTie", "BadPlace", "BadNumbers", "BadTranslation", "BadTeller", "NoName", "NoWay", "NoScale", "NoLink", "NoWord", "NoThing", "TooMany", "NotLet", "Unlike", "Twice", "Nothing", "BadLine", "BadText", "Missing"]
def cs_error : List Str := ["BadLine"]
def cs_kind : List Str := ["NotLet"]
def cs_line : List Str := ["BadLine", "BadText"]
def cs_most : List Str := ["TooMany"]
def cs_name : List Str := ["NoName", "NoWay", "NoScale", "NoLink", "NoWord", "NoThing", "Twice", "Missing"]
def cs_part : List Str := ["BadBook", "BadSaying", "BadLoose", "BadDeed", "BadRoom", "BadTalk", "BadPriced", "BadTie", "BadPlace", "BadNumbers", "BadTranslation", "BadTeller"]
def cs_way : List Str := ["NotLet"]
def cs_what : List Str := ["TooMany", "Unlike"]
def cs_word : List Str := ["BadText"]
/-! ### what it tells -/
def s__law_jar : SemS := (seqS (newW (lstO (consA (lcE (walkI (slice (var 0) noPart (part (cst (.int 63))))) (nameG 1) yesT (un intF (var 1)) [1]) (consA (cst (.int 0)) (consA (cst (.int 0)) nilA)))))
  nextS)
def f__law_jar : Sem := runD 2 s__law_jar
def s__law_dip : SemS := (seqS (ifS (asB (bin gtD (bin ixD (var 0) (cst (.int 2))) (cst (.int 0)))) (seqS (setS 5 (bin ixD (var 0) (cst (.int 2))))
  (seqS (setIxS 0 (bin fdivD (un intF (var 5)) (var 1)) (cst (.int 2)))
  (seqS (retS (bin modD (un intF (var 5)) (var 1)))
  nextS))) nextS)
  (seqS (setS 2 (bin ixD (var 0) (cst (.int 1))))
  (seqS (setIxS 0 (bin addD (var 2) (cst (.int 1))) (cst (.int 1)))
  (seqS (setS 3 (bin addD (bin mulD (cst (.int 31259)) (var 2)) (cst (.int 1423))))
  (seqS (ifS (asB (bin neD (bin ixD (var 0) (cst (.int 0))) (mkA nilA lstF))) (seqS (setS 3 (bin ixD (bin ixD (var 0) (cst (.int 0))) (bin modD (un intF (var 2)) (un lenD (bin ixD (var 0) (cst (.int 0)))))))
  nextS) nextS)
  (seqS (ifS (andT (asB (bin ltD (var 2) (un lenD (bin ixD (var 0) (cst (.int 0)))))) (asB (bin geD (un absF (var 3)) (bin powD (cst (.int 10)) (cst (.int 18)))))) (seqS (setS 5 (bin subD (un absF (var 3)) (bin powD (cst (.int 10)) (cst (.int 18)))))
  (seqS (setIxS 0 (bin fdivD (un intF (var 5)) (var 1)) (cst (.int 2)))
  (seqS (retS (bin modD (un intF (var 5)) (var 1)))
  nextS))) nextS)
  (seqS (setS 4 (bin modD (un intF (bin powD (bin addD (bin addD (bin modD (un intF (var 3)) (cst (.int 2147483549))) (bin mulD (cst (.int 44111)) (var 2))) (cst (.int 1423))) (cst (.int 5)))) (cst (.int 2147483647))))
  (seqS (setS 4 (bin modD (un intF (bin powD (bin addD (bin addD (bin mulD (var 4) (bin addD (bin mulD (cst (.int 2)) (var 2)) (cst (.int 1409)))) (bin mulD (bin mulD (cst (.int 31259)) (var 2)) (var 2))) (cst (.int 1423))) (cst (.int 3)))) (cst (.int 2147483563))))
  (seqS (retS (bin modD (un intF (bin fdivD (var 4) (cst (.int 64)))) (var 1)))
  nextS)))))))))
def f__law_dip : Sem := runD 6 s__law_dip
def s__law_some : SemS := (seqS (retS (bin ixD (var 1) (callE f__law_dip (consA (var 0) (consA (un lenD (var 1)) nilA)))))
  nextS)
def f__law_some : Sem := runD 2 s__law_some
def s__law_kin : SemS := (seqS (setS 1 (mkA (consA (un (isWD tab_BadRoom) (var 0)) (consA (un (isWD tab_BadDeed) (var 0)) (consA (un (isWD tab_BadLoose) (var 0)) nilA))) lstF))
  (seqS (setS 1 (bin addD (var 1) (mkA (consA (un (isWD tab_BadSaying) (var 0)) (consA (un (isWD tab_BadBook) (var 0)) (consA (un (isWD tab_BadPlace) (var 0)) nilA))) lstF)))
  (seqS (setS 1 (bin addD (var 1) (mkA (consA (un (isWD tab_BadTie) (var 0)) (consA (un (isWD tab_BadPriced) (var 0)) (consA (un (isWD tab_BadTalk) (var 0)) nilA))) lstF)))
  (seqS (setS 1 (bin addD (var 1) (mkA (consA (un (isWD tab_BadTeller) (var 0)) (consA (un (isWD tab_BadTranslation) (var 0)) (consA (un (isWD tab_BadNumbers) (var 0)) nilA))) lstF)))
  (seqS (setS 1 (bin addD (var 1) (mkA (consA (un (isWD tab_NoThing) (var 0)) (consA (un (isWD tab_NoWord) (var 0)) (consA (un (isWD tab_NoLink) (var 0)) nilA))) lstF)))
  (seqS (setS 1 (bin addD (var 1) (mkA (consA (un (isWD tab_NoScale) (var 0)) (consA (un (isWD tab_NoWay) (var 0)) (consA (un (isWD tab_NoName) (var 0)) nilA))) lstF)))
  (seqS (setS 1 (bin addD (var 1) (mkA (consA (un (isWD tab_Twice) (var 0)) (consA (un (isWD tab_Unlike) (var 0)) (consA (un (isWD tab_NotLet) (var 0)) nilA))) lstF)))
  (seqS (setS 1 (bin addD (var 1) (mkA (consA (un (isWD tab_TooMany) (var 0)) (consA (un (isWD tab_BadText) (var 0)) (consA (un (isWD tab_BadLine) (var 0)) nilA))) lstF)))
  (seqS (retS (bin addD (var 1) (mkA (consA (un (isWD tab_Nothing) (var 0)) nilA) lstF)))
  nextS)))))))))
def f__law_kin : Sem := runD 2 s__law_kin
def s__law_stands_right : SemS := (seqS (ifS (asB (bin neD (callE f__law_kin (consA (var 0) nilA)) (lcE (range1I (consA (cst (.int 25)) nilA)) (nameG 2) yesT (bin eqD (var 1) (var 2)) [2]))) (seqS (retS (cst (.bl false)))
  nextS) nextS)
  (seqS (ifS (orT (notT (truE (un (isWD tab_SayError) (var 0)))) (notT (truE (un (isWD tab_ValueError) (var 0))))) (seqS (retS (cst (.bl false)))
  nextS) nextS)
  (seqS (ifS (asB (bin neD (un (isWD tab_Missing) (var 0)) (chain leD ltD (cst (.int 12)) (var 1) (cst (.int 18))))) (seqS (retS (cst (.bl false)))
  nextS) nextS)
  (seqS (ifS (orT (truE (un (isWD tab_LookupError) (var 0))) (orT (truE (un (isWD tab_TypeError) (var 0))) (truE (un (isWD tab_ArithmeticError) (var 0))))) (seqS (retS (cst (.bl false)))
  nextS) nextS)
  (seqS (retS (andE (notE (un (isWD tab_RuntimeError) (var 0))) (notE (un (isWD tab_AttributeError) (var 0)))))
  nextS)))))
def f__law_stands_right : Sem := runD 3 s__law_stands_right
def s__law_fields : SemS := (seqS (ifS (asB (bin ltD (var 1) (cst (.int 12)))) (seqS (retS (mkA (consA (un (fldD cs_part "part") (var 0)) nilA) lstF))
  nextS) nextS)
  (seqS (ifS (asB (bin ltD (var 1) (cst (.int 19)))) (seqS (retS (mkA (consA (un (fldD cs_name "name") (var 0)) nilA) lstF))
  nextS) nextS)
  (seqS (ifS (asB (bin ltD (var 1) (cst (.int 20)))) (seqS (retS (mkA (consA (un (fldD cs_what "what") (var 0)) nilA) lstF))
  nextS) nextS)
  (seqS (ifS (asB (bin ltD (var 1) (cst (.int 22)))) (seqS (retS (ifE (asB (bin eqD (var 1) (cst (.int 20)))) (mkA (consA (un (fldD cs_way "way") (var 0)) (consA (un (fldD cs_kind "kind") (var 0)) nilA)) lstF) (mkA (consA (un (fldD cs_what "what") (var 0)) (consA (un (fldD cs_most "most") (var 0)) nilA)) lstF)))
  nextS) nextS)
  (seqS (ifS (asB (bin ltD (var 1) (cst (.int 24)))) (seqS (retS (ifE (asB (bin eqD (var 1) (cst (.int 22)))) (mkA (consA (un (fldD cs_line "line") (var 0)) (consA (un (fldD cs_word "word") (var 0)) nilA)) lstF) (mkA (consA (un (fldD cs_line "line") (var 0)) (consA (un (fldD cs_error "error") (var 0)) nilA)) lstF)))
  nextS) nextS)
  (seqS (retS (mkA nilA lstF))
  nextS))))))
def f__law_fields : Sem := runD 2 s__law_fields
def s__law_all_right : SemS := (seqS (forS (enumI (var 2)) (tupG 2 (consG (nameG 3) (consG (nameG 4) nilG))) (seqS (setS 5 (ifE (asB (bin ltD (var 3) (cst (.int 20)))) (mkA (consA (var 0) nilA) lstF) (ifE (asB (bin ltD (var 3) (cst (.int 24)))) (mkA (consA (var 0) (consA (var 1) nilA)) lstF) (mkA nilA lstF))))
  (seqS (ifS (orT (asB (bin neD (un reprZ (callE f__law_fields (consA (var 4) (consA (var 3) nilA)))) (un reprZ (var 5)))) (notT (truE (callE f__law_stands_right (consA (var 4) (consA (var 3) nilA)))))) (seqS (retS (cst (.bl false)))
  nextS) nextS)
  nextS)))
  (seqS (retS (bin eqD (un lenD (var 2)) (cst (.int 25))))
  nextS))
def f__law_all_right : Sem := runD 6 s__law_all_right
def s__law_parts : SemS := (seqS (setS 1 (mkA (consA (mkA (consA (var 0) nilA) (exnF "BadRoom" ["part"])) (consA (mkA (consA (var 0) nilA) fun ds => if ds.length = 1 then exnF "BadDeed" ["part"] (id ds) else none) (consA (mkA (consA (var 0) nilA) (exnF "BadLoose" ["part"])) (consA (mkA (consA (var 0) nilA) fun ds => if ds.length = 1 then exnF "BadSaying" ["part"] (id ds) else none) (consA (mkA (consA (var 0) nilA) (exnF "BadBook" ["part"])) nilA))))) lstF))
  (seqS (setS 1 (bin addD (var 1) (mkA (consA (mkA (consA (var 0) nilA) fun ds => if ds.length = 1 then exnF "BadPlace" ["part"] (id ds) else none) (consA (mkA (consA (var 0) nilA) (exnF "BadTie" ["part"])) (consA (mkA (consA (var 0) nilA) fun ds => if ds.length = 1 then exnF "BadPriced" ["part"] (id ds) else none) (consA (mkA (consA (var 0) nilA) (exnF "BadTalk" ["part"])) nilA)))) lstF)))
  (seqS (retS (bin addD (var 1) (mkA (consA (mkA (consA (var 0) nilA) fun ds => if ds.length = 1 then exnF "BadTeller" ["part"] (id ds) else none) (consA (mkA (consA (var 0) nilA) (exnF "BadTranslation" ["part"])) (consA (mkA (consA (var 0) nilA) fun ds => if ds.length = 1 then exnF "BadNumbers" ["part"] (id ds) else none) nilA))) lstF)))
  nextS)))
def f__law_parts : Sem := runD 2 s__law_parts
def s__law_others : SemS := (seqS (setS 2 (mkA (consA (mkA (consA (var 0) nilA) (exnF "NoThing" ["name"])) (consA (mkA (consA (var 0) nilA) (exnF "NoWord" ["name"])) (consA (mkA (consA (var 0) nilA) (exnF "NoLink" ["name"])) (consA (mkA (consA (var 0) nilA) (exnF "NoScale" ["name"])) (consA (mkA (consA (var 0) nilA) (exnF "NoWay" ["name"])) (consA (mkA (consA (var 0) nilA) (exnF "NoName" ["name"])) nilA)))))) lstF))
  (seqS (setS 2 (bin addD (var 2) (mkA (consA (mkA (consA (var 0) nilA) (exnF "Twice" ["name"])) (consA (mkA (consA (var 0) nilA) (exnF "Unlike" ["what"])) (consA (mkA (consA (var 0) (consA (var 1) nilA)) (exnF "NotLet" ["way", "kind"])) (consA (mkA (consA (var 0) (consA (var 1) nilA)) (exnF "TooMany" ["what", "most"])) nilA)))) lstF)))
  (seqS (retS (bin addD (var 2) (mkA (consA (mkA (consA (var 0) (consA (var 1) nilA)) (exnF "BadText" ["line", "word"])) (consA (mkA (consA (var 0) (consA (var 1) nilA)) (exnF "BadLine" ["line", "error"])) (consA (cst (.exn0 "Nothing")) nilA))) lstF)))
  nextS)))
def f__law_others : Sem := runD 3 s__law_others
def s__law_parts_turned : SemS := (seqS (setS 1 (mkA (consA (mkA (consA (var 0) nilA) fun ds => if ds.length = 1 then exnF "BadRoom" ["part"] (id ds) else none) (consA (mkA (consA (var 0) nilA) (exnF "BadDeed" ["part"])) (consA (mkA (consA (var 0) nilA) fun ds => if ds.length = 1 then exnF "BadLoose" ["part"] (id ds) else none) (consA (mkA (consA (var 0) nilA) (exnF "BadSaying" ["part"])) (consA (mkA (consA (var 0) nilA) fun ds => if ds.length = 1 then exnF "BadBook" ["part"] (id ds) else none) nilA))))) lstF))
  (seqS (setS 1 (bin addD (var 1) (mkA (consA (mkA (consA (var 0) nilA) (exnF "BadPlace" ["part"])) (consA (mkA (consA (var 0) nilA) fun ds => if ds.length = 1 then exnF "BadTie" ["part"] (id ds) else none) (consA (mkA (consA (var 0) nilA) (exnF "BadPriced" ["part"])) (consA (mkA (consA (var 0) nilA) fun ds => if ds.length = 1 then exnF "BadTalk" ["part"] (id ds) else none) nilA)))) lstF)))
  (seqS (retS (bin addD (var 1) (mkA (consA (mkA (consA (var 0) nilA) (exnF "BadTeller" ["part"])) (consA (mkA (consA (var 0) nilA) fun ds => if ds.length = 1 then exnF "BadTranslation" ["part"] (id ds) else none) (consA (mkA (consA (var 0) nilA) (exnF "BadNumbers" ["part"])) nilA))) lstF)))
  nextS)))
def f__law_parts_turned : Sem := runD 2 s__law_parts_turned
def s__law_others_named : SemS := (seqS (setS 2 (mkA (consA (mkA (consA (var 0) nilA) fun ds => if ds.length = 1 then exnF "NoThing" ["name"] (id ds) else none) (consA (mkA (consA (var 0) nilA) fun ds => if ds.length = 1 then exnF "NoWord" ["name"] (id ds) else none) (consA (mkA (consA (var 0) nilA) fun ds => if ds.length = 1 then exnF "NoLink" ["name"] (id ds) else none) (consA (mkA (consA (var 0) nilA) fun ds => if ds.length = 1 then exnF "NoScale" ["name"] (id ds) else none) (consA (mkA (consA (var 0) nilA) fun ds => if ds.length = 1 then exnF "NoWay" ["name"] (id ds) else none) nilA))))) lstF))
  (seqS (setS 2 (bin addD (var 2) (mkA (consA (mkA (consA (var 0) nilA) fun ds => if ds.length = 1 then exnF "NoName" ["name"] (id ds) else none) (consA (mkA (consA (var 0) nilA) fun ds => if ds.length = 1 then exnF "Twice" ["name"] (id ds) else none) (consA (mkA (consA (var 0) nilA) fun ds => if ds.length = 1 then exnF "Unlike" ["what"] (id ds) else none) nilA))) lstF)))
  (seqS (setS 2 (bin addD (var 2) (mkA (consA (mkA (consA (var 1) (consA (var 0) nilA)) fun ds => if ds.length = 2 then exnF "NotLet" ["way", "kind"] (swapL ds) else none) (consA (mkA (consA (var 1) (consA (var 0) nilA)) fun ds => if ds.length = 2 then exnF "TooMany" ["what", "most"] (swapL ds) else none) (consA (mkA (consA (var 1) (consA (var 0) nilA)) fun ds => if ds.length = 2 then exnF "BadText" ["line", "word"] (swapL ds) else none) nilA))) lstF)))
  (seqS (retS (bin addD (var 2) (mkA (consA (mkA (consA (var 1) (consA (var 0) nilA)) fun ds => if ds.length = 2 then exnF "BadLine" ["line", "error"] (swapL ds) else none) (consA (cst (.exn0 "Nothing")) nilA)) lstF)))
  nextS))))
def f__law_others_named : Sem := runD 3 s__law_others_named
def s_law : SemS := (seqS (setS 1 (callE f__law_jar (consA (var 0) nilA)))
  (seqS (setS 2 (bin mulD (callE f__law_some (consA (var 1) (consA (mkA (consA (cst (.int 1)) (consA (un negF (cst (.int 1))) nilA)) lstF) nilA))) (callE f__law_dip (consA (var 1) (consA (bin powD (cst (.int 10)) (cst (.int 60))) nilA)))))
  (seqS (setS 3 (mkA (consA (cst .non) (consA (cst (.bl true)) (consA (var 2) (consA (cst (.str "part")) (consA (cst (.str "")) (consA (mkA (consA (cst (.str "a")) (consA (cst (.int 1)) nilA)) tupF) (consA (mkA (consA (var 2) nilA) lstF) (consA (dctE (consP (.inr "a") (mkA (consA (cst (.int 1)) nilA) lstF) nilP)) nilA)))))))) lstF))
  (seqS (setsS [5, 6] (consA (callE f__law_some (consA (var 1) (consA (var 3) nilA))) (consA (callE f__law_some (consA (var 1) (consA (mkA (consA (cst (.int 0)) (consA (cst (.bl false)) (consA (cst (.str "room")) (consA (mkA nilA lstF) (consA (mkA nilA tupF) (consA (dctE (consP (.inl 1) (cst (.int 2)) nilP)) (consA (bin addD (var 2) (cst (.int 1))) (consA (cst .non) nilA)))))))) lstF) nilA))) nilA)))
  (seqS (ifS (notT (truE (callE f__law_all_right (consA (var 5) (consA (var 6) (consA (bin addD (callE f__law_parts (consA (var 5) nilA)) (callE f__law_others (consA (var 5) (consA (var 6) nilA)))) nilA)))))) (seqS (retS (cst (.bl false)))
  nextS) nextS)
  (seqS (ifS (notT (truE (callE f__law_all_right (consA (var 5) (consA (var 6) (consA (bin addD (callE f__law_parts_turned (consA (var 5) nilA)) (callE f__law_others_named (consA (var 5) (consA (var 6) nilA)))) nilA)))))) (seqS (retS (cst (.bl false)))
  nextS) nextS)
  (seqS (forS (walkI (mkA (consA (mkA (consA (var 5) nilA) (exnF "Missing" ["name"])) (consA (mkA (consA (var 5) nilA) fun ds => if ds.length = 1 then exnF "Missing" ["name"] (id ds) else none) nilA)) lstF)) (nameG 4) (seqS (ifS (orT (asB (bin neD (un reprZ (un (fldD cs_name "name") (var 4))) (un reprZ (var 5)))) (asB (bin (inD false) (cst (.bl true)) (callE f__law_kin (consA (var 4) nilA))))) (seqS (retS (cst (.bl false)))
  nextS) nextS)
  (seqS (ifS (orT (notT (truE (un (isWD tab_SayError) (var 4)))) (notT (truE (un (isWD tab_ValueError) (var 4))))) (seqS (retS (cst (.bl false)))
  nextS) nextS)
  nextS)))
  (seqS (retS (cst (.bl true)))
  nextS))))))))
def f_law : Sem := runD 7 s_law
/-! ### the facts of the head -/
structure Facts (K : PySem.W.Frag) (mg : Str → Option Value) : Prop where
  b_ArithmeticError : mg "ArithmeticError" = none
  b_AttributeError : mg "AttributeError" = none
  b_LookupError : mg "LookupError" = none
  b_RuntimeError : mg "RuntimeError" = none
  b_TypeError : mg "TypeError" = none
  b_ValueError : mg "ValueError" = none
  b_abs : mg "abs" = none
  b_enumerate : mg "enumerate" = none
  b_int : mg "int" = none
  b_isinstance : mg "isinstance" = none
  b_len : mg "len" = none
  b_range : mg "range" = none
  b_repr : mg "repr" = none
  g_BadBook : mg "BadBook" = some (.ref (He.ga K "BadBook"))
  g_BadDeed : mg "BadDeed" = some (.ref (He.ga K "BadDeed"))
  g_BadLine : mg "BadLine" = some (.ref (He.ga K "BadLine"))
  g_BadLoose : mg "BadLoose" = some (.ref (He.ga K "BadLoose"))
  g_BadNumbers : mg "BadNumbers" = some (.ref (He.ga K "BadNumbers"))
  g_BadPlace : mg "BadPlace" = some (.ref (He.ga K "BadPlace"))
  g_BadPriced : mg "BadPriced" = some (.ref (He.ga K "BadPriced"))
  g_BadRoom : mg "BadRoom" = some (.ref (He.ga K "BadRoom"))
  g_BadSaying : mg "BadSaying" = some (.ref (He.ga K "BadSaying"))
  g_BadTalk : mg "BadTalk" = some (.ref (He.ga K "BadTalk"))
  g_BadTeller : mg "BadTeller" = some (.ref (He.ga K "BadTeller"))
  g_BadText : mg "BadText" = some (.ref (He.ga K "BadText"))
  g_BadTie : mg "BadTie" = some (.ref (He.ga K "BadTie"))
  g_BadTranslation : mg "BadTranslation" = some (.ref (He.ga K "BadTranslation"))
  g_Missing : mg "Missing" = some (.ref (He.ga K "Missing"))
  g_NoLink : mg "NoLink" = some (.ref (He.ga K "NoLink"))
  g_NoName : mg "NoName" = some (.ref (He.ga K "NoName"))
  g_NoScale : mg "NoScale" = some (.ref (He.ga K "NoScale"))
  g_NoThing : mg "NoThing" = some (.ref (He.ga K "NoThing"))
  g_NoWay : mg "NoWay" = some (.ref (He.ga K "NoWay"))
  g_NoWord : mg "NoWord" = some (.ref (He.ga K "NoWord"))
  g_NotLet : mg "NotLet" = some (.ref (He.ga K "NotLet"))
  g_Nothing : mg "Nothing" = some (.ref (He.ga K "Nothing"))
  g_SayError : mg "SayError" = some (.ref (He.ga K "SayError"))
  g_TooMany : mg "TooMany" = some (.ref (He.ga K "TooMany"))
  g_Twice : mg "Twice" = some (.ref (He.ga K "Twice"))
  g_Unlike : mg "Unlike" = some (.ref (He.ga K "Unlike"))
  e_BadBook : ExcOk K "BadBook" ["part"]
  e_BadSaying : ExcOk K "BadSaying" ["part"]
  e_BadLoose : ExcOk K "BadLoose" ["part"]
  e_BadDeed : ExcOk K "BadDeed" ["part"]
  e_BadRoom : ExcOk K "BadRoom" ["part"]
  e_BadTalk : ExcOk K "BadTalk" ["part"]
  e_BadPriced : ExcOk K "BadPriced" ["part"]
  e_BadTie : ExcOk K "BadTie" ["part"]
  e_BadPlace : ExcOk K "BadPlace" ["part"]
  e_BadNumbers : ExcOk K "BadNumbers" ["part"]
  e_BadTranslation : ExcOk K "BadTranslation" ["part"]
  e_BadTeller : ExcOk K "BadTeller" ["part"]
  e_NoName : ExcOk K "NoName" ["name"]
  e_NoWay : ExcOk K "NoWay" ["name"]
  e_NoScale : ExcOk K "NoScale" ["name"]
  e_NoLink : ExcOk K "NoLink" ["name"]
  e_NoWord : ExcOk K "NoWord" ["name"]
  e_NoThing : ExcOk K "NoThing" ["name"]
  e_TooMany : ExcOk K "TooMany" ["what", "most"]
  e_NotLet : ExcOk K "NotLet" ["way", "kind"]
  e_Unlike : ExcOk K "Unlike" ["what"]
  e_Twice : ExcOk K "Twice" ["name"]
  e_BadLine : ExcOk K "BadLine" ["line", "error"]
  e_BadText : ExcOk K "BadText" ["line", "word"]
  e_Missing : ExcOk K "Missing" ["name"]
  t_ArithmeticError : ∀ q ∈ tab_ArithmeticError, KitE K (He.ga K q.1) ∧ ExcC K (He.ga K q.1) ∧ ClsV K (He.ga K q.1) (.ty "ArithmeticError") q.2
  t_AttributeError : ∀ q ∈ tab_AttributeError, KitE K (He.ga K q.1) ∧ ExcC K (He.ga K q.1) ∧ ClsV K (He.ga K q.1) (.ty "AttributeError") q.2
  t_BadBook : ∀ q ∈ tab_BadBook, KitE K (He.ga K q.1) ∧ ExcC K (He.ga K q.1) ∧ ClsV K (He.ga K q.1) (.ref (He.ga K "BadBook")) q.2
  t_BadDeed : ∀ q ∈ tab_BadDeed, KitE K (He.ga K q.1) ∧ ExcC K (He.ga K q.1) ∧ ClsV K (He.ga K q.1) (.ref (He.ga K "BadDeed")) q.2
  t_BadLine : ∀ q ∈ tab_BadLine, KitE K (He.ga K q.1) ∧ ExcC K (He.ga K q.1) ∧ ClsV K (He.ga K q.1) (.ref (He.ga K "BadLine")) q.2
  t_BadLoose : ∀ q ∈ tab_BadLoose, KitE K (He.ga K q.1) ∧ ExcC K (He.ga K q.1) ∧ ClsV K (He.ga K q.1) (.ref (He.ga K "BadLoose")) q.2
  t_BadNumbers : ∀ q ∈ tab_BadNumbers, KitE K (He.ga K q.1) ∧ ExcC K (He.ga K q.1) ∧ ClsV K (He.ga K q.1) (.ref (He.ga K "BadNumbers")) q.2
  t_BadPlace : ∀ q ∈ tab_BadPlace, KitE K (He.ga K q.1) ∧ ExcC K (He.ga K q.1) ∧ ClsV K (He.ga K q.1) (.ref (He.ga K "BadPlace")) q.2
  t_BadPriced : ∀ q ∈ tab_BadPriced, KitE K (He.ga K q.1) ∧ ExcC K (He.ga K q.1) ∧ ClsV K (He.ga K q.1) (.ref (He.ga K "BadPriced")) q.2
  t_BadRoom : ∀ q ∈ tab_BadRoom, KitE K (He.ga K q.1) ∧ ExcC K (He.ga K q.1) ∧ ClsV K (He.ga K q.1) (.ref (He.ga K "BadRoom")) q.2
  t_BadSaying : ∀ q ∈ tab_BadSaying, KitE K (He.ga K q.1) ∧ ExcC K (He.ga K q.1) ∧ ClsV K (He.ga K q.1) (.ref (He.ga K "BadSaying")) q.2
  t_BadTalk : ∀ q ∈ tab_BadTalk, KitE K (He.ga K q.1) ∧ ExcC K (He.ga K q.1) ∧ ClsV K (He.ga K q.1) (.ref (He.ga K "BadTalk")) q.2
  t_BadTeller : ∀ q ∈ tab_BadTeller, KitE K (He.ga K q.1) ∧ ExcC K (He.ga K q.1) ∧ ClsV K (He.ga K q.1) (.ref (He.ga K "BadTeller")) q.2
  t_BadText : ∀ q ∈ tab_BadText, KitE K (He.ga K q.1) ∧ ExcC K (He.ga K q.1) ∧ ClsV K (He.ga K q.1) (.ref (He.ga K "BadText")) q.2
  t_BadTie : ∀ q ∈ tab_BadTie, KitE K (He.ga K q.1) ∧ ExcC K (He.ga K q.1) ∧ ClsV K (He.ga K q.1) (.ref (He.ga K "BadTie")) q.2
  t_BadTranslation : ∀ q ∈ tab_BadTranslation, KitE K (He.ga K q.1) ∧ ExcC K (He.ga K q.1) ∧ ClsV K (He.ga K q.1) (.ref (He.ga K "BadTranslation")) q.2
  t_LookupError : ∀ q ∈ tab_LookupError, KitE K (He.ga K q.1) ∧ ExcC K (He.ga K q.1) ∧ ClsV K (He.ga K q.1) (.ty "LookupError") q.2
  t_Missing : ∀ q ∈ tab_Missing, KitE K (He.ga K q.1) ∧ ExcC K (He.ga K q.1) ∧ ClsV K (He.ga K q.1) (.ref (He.ga K "Missing")) q.2
  t_NoLink : ∀ q ∈ tab_NoLink, KitE K (He.ga K q.1) ∧ ExcC K (He.ga K q.1) ∧ ClsV K (He.ga K q.1) (.ref (He.ga K "NoLink")) q.2
  t_NoName : ∀ q ∈ tab_NoName, KitE K (He.ga K q.1) ∧ ExcC K (He.ga K q.1) ∧ ClsV K (He.ga K q.1) (.ref (He.ga K "NoName")) q.2
  t_NoScale : ∀ q ∈ tab_NoScale, KitE K (He.ga K q.1) ∧ ExcC K (He.ga K q.1) ∧ ClsV K (He.ga K q.1) (.ref (He.ga K "NoScale")) q.2
  t_NoThing : ∀ q ∈ tab_NoThing, KitE K (He.ga K q.1) ∧ ExcC K (He.ga K q.1) ∧ ClsV K (He.ga K q.1) (.ref (He.ga K "NoThing")) q.2
  t_NoWay : ∀ q ∈ tab_NoWay, KitE K (He.ga K q.1) ∧ ExcC K (He.ga K q.1) ∧ ClsV K (He.ga K q.1) (.ref (He.ga K "NoWay")) q.2
  t_NoWord : ∀ q ∈ tab_NoWord, KitE K (He.ga K q.1) ∧ ExcC K (He.ga K q.1) ∧ ClsV K (He.ga K q.1) (.ref (He.ga K "NoWord")) q.2
  t_NotLet : ∀ q ∈ tab_NotLet, KitE K (He.ga K q.1) ∧ ExcC K (He.ga K q.1) ∧ ClsV K (He.ga K q.1) (.ref (He.ga K "NotLet")) q.2
  t_Nothing : ∀ q ∈ tab_Nothing, KitE K (He.ga K q.1) ∧ ExcC K (He.ga K q.1) ∧ ClsV K (He.ga K q.1) (.ref (He.ga K "Nothing")) q.2
  t_RuntimeError : ∀ q ∈ tab_RuntimeError, KitE K (He.ga K q.1) ∧ ExcC K (He.ga K q.1) ∧ ClsV K (He.ga K q.1) (.ty "RuntimeError") q.2
  t_SayError : ∀ q ∈ tab_SayError, KitE K (He.ga K q.1) ∧ ExcC K (He.ga K q.1) ∧ ClsV K (He.ga K q.1) (.ref (He.ga K "SayError")) q.2
  t_TooMany : ∀ q ∈ tab_TooMany, KitE K (He.ga K q.1) ∧ ExcC K (He.ga K q.1) ∧ ClsV K (He.ga K q.1) (.ref (He.ga K "TooMany")) q.2
  t_Twice : ∀ q ∈ tab_Twice, KitE K (He.ga K q.1) ∧ ExcC K (He.ga K q.1) ∧ ClsV K (He.ga K q.1) (.ref (He.ga K "Twice")) q.2
  t_TypeError : ∀ q ∈ tab_TypeError, KitE K (He.ga K q.1) ∧ ExcC K (He.ga K q.1) ∧ ClsV K (He.ga K q.1) (.ty "TypeError") q.2
  t_Unlike : ∀ q ∈ tab_Unlike, KitE K (He.ga K q.1) ∧ ExcC K (He.ga K q.1) ∧ ClsV K (He.ga K q.1) (.ref (He.ga K "Unlike")) q.2
  t_ValueError : ∀ q ∈ tab_ValueError, KitE K (He.ga K q.1) ∧ ExcC K (He.ga K q.1) ∧ ClsV K (He.ga K q.1) (.ty "ValueError") q.2
  x_error : ∀ c ∈ cs_error, XfC K (He.ga K c) ∧ PySem.W.findIn K (.ref (He.ga K c)) "error" = some none
  x_kind : ∀ c ∈ cs_kind, XfC K (He.ga K c) ∧ PySem.W.findIn K (.ref (He.ga K c)) "kind" = some none
  x_line : ∀ c ∈ cs_line, XfC K (He.ga K c) ∧ PySem.W.findIn K (.ref (He.ga K c)) "line" = some none
  x_most : ∀ c ∈ cs_most, XfC K (He.ga K c) ∧ PySem.W.findIn K (.ref (He.ga K c)) "most" = some none
  x_name : ∀ c ∈ cs_name, XfC K (He.ga K c) ∧ PySem.W.findIn K (.ref (He.ga K c)) "name" = some none
  x_part : ∀ c ∈ cs_part, XfC K (He.ga K c) ∧ PySem.W.findIn K (.ref (He.ga K c)) "part" = some none
  x_way : ∀ c ∈ cs_way, XfC K (He.ga K c) ∧ PySem.W.findIn K (.ref (He.ga K c)) "way" = some none
  x_what : ∀ c ∈ cs_what, XfC K (He.ga K c) ∧ PySem.W.findIn K (.ref (He.ga K c)) "what" = some none
  x_word : ∀ c ∈ cs_word, XfC K (He.ga K c) ∧ PySem.W.findIn K (.ref (He.ga K c)) "word" = some none
  z_Nothing : Exc0 K "Nothing"
  n_BadBook : ∃ fd, FunD K "__init__" "BadBook.__init__" (defArgs si_BadBook) (defBody si_BadBook) (defScope si_BadBook) [] [] (He.ma K (He.ga K "BadBook") "__init__") fd
  n_BadSaying : ∃ fd, FunD K "__init__" "BadSaying.__init__" (defArgs si_BadSaying) (defBody si_BadSaying) (defScope si_BadSaying) [] [] (He.ma K (He.ga K "BadSaying") "__init__") fd
  n_BadLoose : ∃ fd, FunD K "__init__" "BadLoose.__init__" (defArgs si_BadLoose) (defBody si_BadLoose) (defScope si_BadLoose) [] [] (He.ma K (He.ga K "BadLoose") "__init__") fd
  n_BadDeed : ∃ fd, FunD K "__init__" "BadDeed.__init__" (defArgs si_BadDeed) (defBody si_BadDeed) (defScope si_BadDeed) [] [] (He.ma K (He.ga K "BadDeed") "__init__") fd
  n_BadRoom : ∃ fd, FunD K "__init__" "BadRoom.__init__" (defArgs si_BadRoom) (defBody si_BadRoom) (defScope si_BadRoom) [] [] (He.ma K (He.ga K "BadRoom") "__init__") fd
  n_BadTalk : ∃ fd, FunD K "__init__" "BadTalk.__init__" (defArgs si_BadTalk) (defBody si_BadTalk) (defScope si_BadTalk) [] [] (He.ma K (He.ga K "BadTalk") "__init__") fd
  n_BadPriced : ∃ fd, FunD K "__init__" "BadPriced.__init__" (defArgs si_BadPriced) (defBody si_BadPriced) (defScope si_BadPriced) [] [] (He.ma K (He.ga K "BadPriced") "__init__") fd
  n_BadTie : ∃ fd, FunD K "__init__" "BadTie.__init__" (defArgs si_BadTie) (defBody si_BadTie) (defScope si_BadTie) [] [] (He.ma K (He.ga K "BadTie") "__init__") fd
  n_BadPlace : ∃ fd, FunD K "__init__" "BadPlace.__init__" (defArgs si_BadPlace) (defBody si_BadPlace) (defScope si_BadPlace) [] [] (He.ma K (He.ga K "BadPlace") "__init__") fd
  n_BadNumbers : ∃ fd, FunD K "__init__" "BadNumbers.__init__" (defArgs si_BadNumbers) (defBody si_BadNumbers) (defScope si_BadNumbers) [] [] (He.ma K (He.ga K "BadNumbers") "__init__") fd
  n_BadTranslation : ∃ fd, FunD K "__init__" "BadTranslation.__init__" (defArgs si_BadTranslation) (defBody si_BadTranslation) (defScope si_BadTranslation) [] [] (He.ma K (He.ga K "BadTranslation") "__init__") fd
  n_BadTeller : ∃ fd, FunD K "__init__" "BadTeller.__init__" (defArgs si_BadTeller) (defBody si_BadTeller) (defScope si_BadTeller) [] [] (He.ma K (He.ga K "BadTeller") "__init__") fd
  n_NoName : ∃ fd, FunD K "__init__" "Missing.__init__" (defArgs si_Missing) (defBody si_Missing) (defScope si_Missing) [] [] (He.ma K (He.ga K "NoName") "__init__") fd
  n_NoWay : ∃ fd, FunD K "__init__" "Missing.__init__" (defArgs si_Missing) (defBody si_Missing) (defScope si_Missing) [] [] (He.ma K (He.ga K "NoWay") "__init__") fd
  n_NoScale : ∃ fd, FunD K "__init__" "Missing.__init__" (defArgs si_Missing) (defBody si_Missing) (defScope si_Missing) [] [] (He.ma K (He.ga K "NoScale") "__init__") fd
  n_NoLink : ∃ fd, FunD K "__init__" "Missing.__init__" (defArgs si_Missing) (defBody si_Missing) (defScope si_Missing) [] [] (He.ma K (He.ga K "NoLink") "__init__") fd
  n_NoWord : ∃ fd, FunD K "__init__" "Missing.__init__" (defArgs si_Missing) (defBody si_Missing) (defScope si_Missing) [] [] (He.ma K (He.ga K "NoWord") "__init__") fd
  n_NoThing : ∃ fd, FunD K "__init__" "Missing.__init__" (defArgs si_Missing) (defBody si_Missing) (defScope si_Missing) [] [] (He.ma K (He.ga K "NoThing") "__init__") fd
  n_TooMany : ∃ fd, FunD K "__init__" "TooMany.__init__" (defArgs si_TooMany) (defBody si_TooMany) (defScope si_TooMany) [] [] (He.ma K (He.ga K "TooMany") "__init__") fd
  n_NotLet : ∃ fd, FunD K "__init__" "NotLet.__init__" (defArgs si_NotLet) (defBody si_NotLet) (defScope si_NotLet) [] [] (He.ma K (He.ga K "NotLet") "__init__") fd
  n_Unlike : ∃ fd, FunD K "__init__" "Unlike.__init__" (defArgs si_Unlike) (defBody si_Unlike) (defScope si_Unlike) [] [] (He.ma K (He.ga K "Unlike") "__init__") fd
  n_Twice : ∃ fd, FunD K "__init__" "Twice.__init__" (defArgs si_Twice) (defBody si_Twice) (defScope si_Twice) [] [] (He.ma K (He.ga K "Twice") "__init__") fd
  n_BadLine : ∃ fd, FunD K "__init__" "BadLine.__init__" (defArgs si_BadLine) (defBody si_BadLine) (defScope si_BadLine) [] [] (He.ma K (He.ga K "BadLine") "__init__") fd
  n_BadText : ∃ fd, FunD K "__init__" "BadText.__init__" (defArgs si_BadText) (defBody si_BadText) (defScope si_BadText) [] [] (He.ma K (He.ga K "BadText") "__init__") fd
  n_Missing : ∃ fd, FunD K "__init__" "Missing.__init__" (defArgs si_Missing) (defBody si_Missing) (defScope si_Missing) [] [] (He.ma K (He.ga K "Missing") "__init__") fd
  p__law_jar : ∃ fd, FnP K "_law_jar" st__law_jar (He.ga K "_law_jar") fd
  p__law_dip : ∃ fd, FnP K "_law_dip" st__law_dip (He.ga K "_law_dip") fd
  p__law_some : ∃ fd, FnP K "_law_some" st__law_some (He.ga K "_law_some") fd
  p__law_kin : ∃ fd, FnP K "_law_kin" st__law_kin (He.ga K "_law_kin") fd
  p__law_stands_right : ∃ fd, FnP K "_law_stands_right" st__law_stands_right (He.ga K "_law_stands_right") fd
  p__law_fields : ∃ fd, FnP K "_law_fields" st__law_fields (He.ga K "_law_fields") fd
  p__law_all_right : ∃ fd, FnP K "_law_all_right" st__law_all_right (He.ga K "_law_all_right") fd
  p__law_parts : ∃ fd, FnP K "_law_parts" st__law_parts (He.ga K "_law_parts") fd
  p__law_others : ∃ fd, FnP K "_law_others" st__law_others (He.ga K "_law_others") fd
  p__law_parts_turned : ∃ fd, FnP K "_law_parts_turned" st__law_parts_turned (He.ga K "_law_parts_turned") fd
  p__law_others_named : ∃ fd, FnP K "_law_others_named" st__law_others_named (He.ga K "_law_others_named") fd
  p_law : ∃ fd, FnP K "law" st_law (He.ga K "law") fd
  m__law_jar : mg "_law_jar" = some (.ref (He.ga K "_law_jar"))
  m__law_dip : mg "_law_dip" = some (.ref (He.ga K "_law_dip"))
  m__law_some : mg "_law_some" = some (.ref (He.ga K "_law_some"))
  m__law_kin : mg "_law_kin" = some (.ref (He.ga K "_law_kin"))
  m__law_stands_right : mg "_law_stands_right" = some (.ref (He.ga K "_law_stands_right"))
  m__law_fields : mg "_law_fields" = some (.ref (He.ga K "_law_fields"))
  m__law_all_right : mg "_law_all_right" = some (.ref (He.ga K "_law_all_right"))
  m__law_parts : mg "_law_parts" = some (.ref (He.ga K "_law_parts"))
  m__law_others : mg "_law_others" = some (.ref (He.ga K "_law_others"))
  m__law_parts_turned : mg "_law_parts_turned" = some (.ref (He.ga K "_law_parts_turned"))
  m__law_others_named : mg "_law_others_named" = some (.ref (He.ga K "_law_others_named"))
  m_law : mg "law" = some (.ref (He.ga K "law"))
/-! ### the terms -/
section
variable {P : Program} {w : World} {K : PySem.W.Frag} {mg : Str → Option Value} {base : Heap}
theorem sci_BadBook : FnScope ["self", "part"] ["self", "part"] (defScope si_BadBook) := ⟨rfl, rfl, rfl, by decide +kernel, rfl, by decide +kernel, by decide +kernel⟩
theorem i_BadBook (Z : Facts K mg) : ∃ fd, ∃ _ : Binds K fd ["self", "part"] [], FnOk P w K mg base (L2.CX P w) 1 (He.ma K (He.ga K "BadBook") "__init__") fd ["self", "part"] (spInit (He.ga K "BadBook") ["part"]) := by
  obtain ⟨fd, F⟩ := Z.n_BadBook
  refine ⟨fd, F.bindsN (fun _ _ _ _ _ _ us hl => match us, hl with | [_, _], _ => rfl), F.ok sci_BadBook (fun vs H Q E h => h.len) fun cdv A outer s H vs Q E hr h => ⟨_, ?_, init1_ok (N := ["part"]) Z.e_BadBook.T (Z.e_BadBook.no _ (by decide)) h⟩⟩
  exact (pss_cons (ps_ost (dv 0 (E := E)).pe (dv 1 (E := E)).pe) pss_nil)
theorem ik_BadBook_part (Z : Facts K mg) : ∃ fd, KBn K fd ["self", "part"] 1 ["part"] (fun us ws => us ++ id ws) (fun us zs => us ++ id zs) ∧ FnOk P w K mg base (L2.CX P w) 1 (He.ma K (He.ga K "BadBook") "__init__") fd ["self", "part"] (spInit (He.ga K "BadBook") ["part"]) := by
  obtain ⟨fd, F⟩ := Z.n_BadBook
  refine ⟨fd, FunD_kbinds00 F 1 ["part"] (fun us ws => us ++ id ws) (fun r q => r.append q) (fun _ _ _ _ _ _ us ws h1 h2 => match us, ws, h1, h2 with | [_], [_], _, _ => rfl), F.ok sci_BadBook (fun vs H Q E h => h.len) fun cdv A outer s H vs Q E hr h => ⟨_, ?_, init1_ok (N := ["part"]) Z.e_BadBook.T (Z.e_BadBook.no _ (by decide)) h⟩⟩
  exact (pss_cons (ps_ost (dv 0 (E := E)).pe (dv 1 (E := E)).pe) pss_nil)
theorem sci_BadSaying : FnScope ["self", "part"] ["self", "part"] (defScope si_BadSaying) := ⟨rfl, rfl, rfl, by decide +kernel, rfl, by decide +kernel, by decide +kernel⟩
theorem i_BadSaying (Z : Facts K mg) : ∃ fd, ∃ _ : Binds K fd ["self", "part"] [], FnOk P w K mg base (L2.CX P w) 1 (He.ma K (He.ga K "BadSaying") "__init__") fd ["self", "part"] (spInit (He.ga K "BadSaying") ["part"]) := by
  obtain ⟨fd, F⟩ := Z.n_BadSaying
  refine ⟨fd, F.bindsN (fun _ _ _ _ _ _ us hl => match us, hl with | [_, _], _ => rfl), F.ok sci_BadSaying (fun vs H Q E h => h.len) fun cdv A outer s H vs Q E hr h => ⟨_, ?_, init1_ok (N := ["part"]) Z.e_BadSaying.T (Z.e_BadSaying.no _ (by decide)) h⟩⟩
  exact (pss_cons (ps_ost (dv 0 (E := E)).pe (dv 1 (E := E)).pe) pss_nil)
theorem ik_BadSaying_part (Z : Facts K mg) : ∃ fd, KBn K fd ["self", "part"] 1 ["part"] (fun us ws => us ++ id ws) (fun us zs => us ++ id zs) ∧ FnOk P w K mg base (L2.CX P w) 1 (He.ma K (He.ga K "BadSaying") "__init__") fd ["self", "part"] (spInit (He.ga K "BadSaying") ["part"]) := by
  obtain ⟨fd, F⟩ := Z.n_BadSaying
  refine ⟨fd, FunD_kbinds00 F 1 ["part"] (fun us ws => us ++ id ws) (fun r q => r.append q) (fun _ _ _ _ _ _ us ws h1 h2 => match us, ws, h1, h2 with | [_], [_], _, _ => rfl), F.ok sci_BadSaying (fun vs H Q E h => h.len) fun cdv A outer s H vs Q E hr h => ⟨_, ?_, init1_ok (N := ["part"]) Z.e_BadSaying.T (Z.e_BadSaying.no _ (by decide)) h⟩⟩
  exact (pss_cons (ps_ost (dv 0 (E := E)).pe (dv 1 (E := E)).pe) pss_nil)
theorem sci_BadLoose : FnScope ["self", "part"] ["self", "part"] (defScope si_BadLoose) := ⟨rfl, rfl, rfl, by decide +kernel, rfl, by decide +kernel, by decide +kernel⟩
theorem i_BadLoose (Z : Facts K mg) : ∃ fd, ∃ _ : Binds K fd ["self", "part"] [], FnOk P w K mg base (L2.CX P w) 1 (He.ma K (He.ga K "BadLoose") "__init__") fd ["self", "part"] (spInit (He.ga K "BadLoose") ["part"]) := by
  obtain ⟨fd, F⟩ := Z.n_BadLoose
  refine ⟨fd, F.bindsN (fun _ _ _ _ _ _ us hl => match us, hl with | [_, _], _ => rfl), F.ok sci_BadLoose (fun vs H Q E h => h.len) fun cdv A outer s H vs Q E hr h => ⟨_, ?_, init1_ok (N := ["part"]) Z.e_BadLoose.T (Z.e_BadLoose.no _ (by decide)) h⟩⟩
  exact (pss_cons (ps_ost (dv 0 (E := E)).pe (dv 1 (E := E)).pe) pss_nil)
theorem ik_BadLoose_part (Z : Facts K mg) : ∃ fd, KBn K fd ["self", "part"] 1 ["part"] (fun us ws => us ++ id ws) (fun us zs => us ++ id zs) ∧ FnOk P w K mg base (L2.CX P w) 1 (He.ma K (He.ga K "BadLoose") "__init__") fd ["self", "part"] (spInit (He.ga K "BadLoose") ["part"]) := by
  obtain ⟨fd, F⟩ := Z.n_BadLoose
  refine ⟨fd, FunD_kbinds00 F 1 ["part"] (fun us ws => us ++ id ws) (fun r q => r.append q) (fun _ _ _ _ _ _ us ws h1 h2 => match us, ws, h1, h2 with | [_], [_], _, _ => rfl), F.ok sci_BadLoose (fun vs H Q E h => h.len) fun cdv A outer s H vs Q E hr h => ⟨_, ?_, init1_ok (N := ["part"]) Z.e_BadLoose.T (Z.e_BadLoose.no _ (by decide)) h⟩⟩
  exact (pss_cons (ps_ost (dv 0 (E := E)).pe (dv 1 (E := E)).pe) pss_nil)
theorem sci_BadDeed : FnScope ["self", "part"] ["self", "part"] (defScope si_BadDeed) := ⟨rfl, rfl, rfl, by decide +kernel, rfl, by decide +kernel, by decide +kernel⟩
theorem i_BadDeed (Z : Facts K mg) : ∃ fd, ∃ _ : Binds K fd ["self", "part"] [], FnOk P w K mg base (L2.CX P w) 1 (He.ma K (He.ga K "BadDeed") "__init__") fd ["self", "part"] (spInit (He.ga K "BadDeed") ["part"]) := by
  obtain ⟨fd, F⟩ := Z.n_BadDeed
  refine ⟨fd, F.bindsN (fun _ _ _ _ _ _ us hl => match us, hl with | [_, _], _ => rfl), F.ok sci_BadDeed (fun vs H Q E h => h.len) fun cdv A outer s H vs Q E hr h => ⟨_, ?_, init1_ok (N := ["part"]) Z.e_BadDeed.T (Z.e_BadDeed.no _ (by decide)) h⟩⟩
  exact (pss_cons (ps_ost (dv 0 (E := E)).pe (dv 1 (E := E)).pe) pss_nil)
theorem ik_BadDeed_part (Z : Facts K mg) : ∃ fd, KBn K fd ["self", "part"] 1 ["part"] (fun us ws => us ++ id ws) (fun us zs => us ++ id zs) ∧ FnOk P w K mg base (L2.CX P w) 1 (He.ma K (He.ga K "BadDeed") "__init__") fd ["self", "part"] (spInit (He.ga K "BadDeed") ["part"]) := by
  obtain ⟨fd, F⟩ := Z.n_BadDeed
  refine ⟨fd, FunD_kbinds00 F 1 ["part"] (fun us ws => us ++ id ws) (fun r q => r.append q) (fun _ _ _ _ _ _ us ws h1 h2 => match us, ws, h1, h2 with | [_], [_], _, _ => rfl), F.ok sci_BadDeed (fun vs H Q E h => h.len) fun cdv A outer s H vs Q E hr h => ⟨_, ?_, init1_ok (N := ["part"]) Z.e_BadDeed.T (Z.e_BadDeed.no _ (by decide)) h⟩⟩
  exact (pss_cons (ps_ost (dv 0 (E := E)).pe (dv 1 (E := E)).pe) pss_nil)
theorem sci_BadRoom : FnScope ["self", "part"] ["self", "part"] (defScope si_BadRoom) := ⟨rfl, rfl, rfl, by decide +kernel, rfl, by decide +kernel, by decide +kernel⟩
theorem i_BadRoom (Z : Facts K mg) : ∃ fd, ∃ _ : Binds K fd ["self", "part"] [], FnOk P w K mg base (L2.CX P w) 1 (He.ma K (He.ga K "BadRoom") "__init__") fd ["self", "part"] (spInit (He.ga K "BadRoom") ["part"]) := by
  obtain ⟨fd, F⟩ := Z.n_BadRoom
  refine ⟨fd, F.bindsN (fun _ _ _ _ _ _ us hl => match us, hl with | [_, _], _ => rfl), F.ok sci_BadRoom (fun vs H Q E h => h.len) fun cdv A outer s H vs Q E hr h => ⟨_, ?_, init1_ok (N := ["part"]) Z.e_BadRoom.T (Z.e_BadRoom.no _ (by decide)) h⟩⟩
  exact (pss_cons (ps_ost (dv 0 (E := E)).pe (dv 1 (E := E)).pe) pss_nil)
theorem ik_BadRoom_part (Z : Facts K mg) : ∃ fd, KBn K fd ["self", "part"] 1 ["part"] (fun us ws => us ++ id ws) (fun us zs => us ++ id zs) ∧ FnOk P w K mg base (L2.CX P w) 1 (He.ma K (He.ga K "BadRoom") "__init__") fd ["self", "part"] (spInit (He.ga K "BadRoom") ["part"]) := by
  obtain ⟨fd, F⟩ := Z.n_BadRoom
  refine ⟨fd, FunD_kbinds00 F 1 ["part"] (fun us ws => us ++ id ws) (fun r q => r.append q) (fun _ _ _ _ _ _ us ws h1 h2 => match us, ws, h1, h2 with | [_], [_], _, _ => rfl), F.ok sci_BadRoom (fun vs H Q E h => h.len) fun cdv A outer s H vs Q E hr h => ⟨_, ?_, init1_ok (N := ["part"]) Z.e_BadRoom.T (Z.e_BadRoom.no _ (by decide)) h⟩⟩
  exact (pss_cons (ps_ost (dv 0 (E := E)).pe (dv 1 (E := E)).pe) pss_nil)
theorem sci_BadTalk : FnScope ["self", "part"] ["self", "part"] (defScope si_BadTalk) := ⟨rfl, rfl, rfl, by decide +kernel, rfl, by decide +kernel, by decide +kernel⟩
theorem i_BadTalk (Z : Facts K mg) : ∃ fd, ∃ _ : Binds K fd ["self", "part"] [], FnOk P w K mg base (L2.CX P w) 1 (He.ma K (He.ga K "BadTalk") "__init__") fd ["self", "part"] (spInit (He.ga K "BadTalk") ["part"]) := by
  obtain ⟨fd, F⟩ := Z.n_BadTalk
  refine ⟨fd, F.bindsN (fun _ _ _ _ _ _ us hl => match us, hl with | [_, _], _ => rfl), F.ok sci_BadTalk (fun vs H Q E h => h.len) fun cdv A outer s H vs Q E hr h => ⟨_, ?_, init1_ok (N := ["part"]) Z.e_BadTalk.T (Z.e_BadTalk.no _ (by decide)) h⟩⟩
  exact (pss_cons (ps_ost (dv 0 (E := E)).pe (dv 1 (E := E)).pe) pss_nil)
theorem ik_BadTalk_part (Z : Facts K mg) : ∃ fd, KBn K fd ["self", "part"] 1 ["part"] (fun us ws => us ++ id ws) (fun us zs => us ++ id zs) ∧ FnOk P w K mg base (L2.CX P w) 1 (He.ma K (He.ga K "BadTalk") "__init__") fd ["self", "part"] (spInit (He.ga K "BadTalk") ["part"]) := by
  obtain ⟨fd, F⟩ := Z.n_BadTalk
  refine ⟨fd, FunD_kbinds00 F 1 ["part"] (fun us ws => us ++ id ws) (fun r q => r.append q) (fun _ _ _ _ _ _ us ws h1 h2 => match us, ws, h1, h2 with | [_], [_], _, _ => rfl), F.ok sci_BadTalk (fun vs H Q E h => h.len) fun cdv A outer s H vs Q E hr h => ⟨_, ?_, init1_ok (N := ["part"]) Z.e_BadTalk.T (Z.e_BadTalk.no _ (by decide)) h⟩⟩
  exact (pss_cons (ps_ost (dv 0 (E := E)).pe (dv 1 (E := E)).pe) pss_nil)
theorem sci_BadPriced : FnScope ["self", "part"] ["self", "part"] (defScope si_BadPriced) := ⟨rfl, rfl, rfl, by decide +kernel, rfl, by decide +kernel, by decide +kernel⟩
theorem i_BadPriced (Z : Facts K mg) : ∃ fd, ∃ _ : Binds K fd ["self", "part"] [], FnOk P w K mg base (L2.CX P w) 1 (He.ma K (He.ga K "BadPriced") "__init__") fd ["self", "part"] (spInit (He.ga K "BadPriced") ["part"]) := by
  obtain ⟨fd, F⟩ := Z.n_BadPriced
  refine ⟨fd, F.bindsN (fun _ _ _ _ _ _ us hl => match us, hl with | [_, _], _ => rfl), F.ok sci_BadPriced (fun vs H Q E h => h.len) fun cdv A outer s H vs Q E hr h => ⟨_, ?_, init1_ok (N := ["part"]) Z.e_BadPriced.T (Z.e_BadPriced.no _ (by decide)) h⟩⟩
  exact (pss_cons (ps_ost (dv 0 (E := E)).pe (dv 1 (E := E)).pe) pss_nil)
theorem ik_BadPriced_part (Z : Facts K mg) : ∃ fd, KBn K fd ["self", "part"] 1 ["part"] (fun us ws => us ++ id ws) (fun us zs => us ++ id zs) ∧ FnOk P w K mg base (L2.CX P w) 1 (He.ma K (He.ga K "BadPriced") "__init__") fd ["self", "part"] (spInit (He.ga K "BadPriced") ["part"]) := by
  obtain ⟨fd, F⟩ := Z.n_BadPriced
  refine ⟨fd, FunD_kbinds00 F 1 ["part"] (fun us ws => us ++ id ws) (fun r q => r.append q) (fun _ _ _ _ _ _ us ws h1 h2 => match us, ws, h1, h2 with | [_], [_], _, _ => rfl), F.ok sci_BadPriced (fun vs H Q E h => h.len) fun cdv A outer s H vs Q E hr h => ⟨_, ?_, init1_ok (N := ["part"]) Z.e_BadPriced.T (Z.e_BadPriced.no _ (by decide)) h⟩⟩
  exact (pss_cons (ps_ost (dv 0 (E := E)).pe (dv 1 (E := E)).pe) pss_nil)
theorem sci_BadTie : FnScope ["self", "part"] ["self", "part"] (defScope si_BadTie) := ⟨rfl, rfl, rfl, by decide +kernel, rfl, by decide +kernel, by decide +kernel⟩
theorem i_BadTie (Z : Facts K mg) : ∃ fd, ∃ _ : Binds K fd ["self", "part"] [], FnOk P w K mg base (L2.CX P w) 1 (He.ma K (He.ga K "BadTie") "__init__") fd ["self", "part"] (spInit (He.ga K "BadTie") ["part"]) := by
  obtain ⟨fd, F⟩ := Z.n_BadTie
  refine ⟨fd, F.bindsN (fun _ _ _ _ _ _ us hl => match us, hl with | [_, _], _ => rfl), F.ok sci_BadTie (fun vs H Q E h => h.len) fun cdv A outer s H vs Q E hr h => ⟨_, ?_, init1_ok (N := ["part"]) Z.e_BadTie.T (Z.e_BadTie.no _ (by decide)) h⟩⟩
  exact (pss_cons (ps_ost (dv 0 (E := E)).pe (dv 1 (E := E)).pe) pss_nil)
theorem ik_BadTie_part (Z : Facts K mg) : ∃ fd, KBn K fd ["self", "part"] 1 ["part"] (fun us ws => us ++ id ws) (fun us zs => us ++ id zs) ∧ FnOk P w K mg base (L2.CX P w) 1 (He.ma K (He.ga K "BadTie") "__init__") fd ["self", "part"] (spInit (He.ga K "BadTie") ["part"]) := by
  obtain ⟨fd, F⟩ := Z.n_BadTie
  refine ⟨fd, FunD_kbinds00 F 1 ["part"] (fun us ws => us ++ id ws) (fun r q => r.append q) (fun _ _ _ _ _ _ us ws h1 h2 => match us, ws, h1, h2 with | [_], [_], _, _ => rfl), F.ok sci_BadTie (fun vs H Q E h => h.len) fun cdv A outer s H vs Q E hr h => ⟨_, ?_, init1_ok (N := ["part"]) Z.e_BadTie.T (Z.e_BadTie.no _ (by decide)) h⟩⟩
  exact (pss_cons (ps_ost (dv 0 (E := E)).pe (dv 1 (E := E)).pe) pss_nil)
theorem sci_BadPlace : FnScope ["self", "part"] ["self", "part"] (defScope si_BadPlace) := ⟨rfl, rfl, rfl, by decide +kernel, rfl, by decide +kernel, by decide +kernel⟩
theorem i_BadPlace (Z : Facts K mg) : ∃ fd, ∃ _ : Binds K fd ["self", "part"] [], FnOk P w K mg base (L2.CX P w) 1 (He.ma K (He.ga K "BadPlace") "__init__") fd ["self", "part"] (spInit (He.ga K "BadPlace") ["part"]) := by
  obtain ⟨fd, F⟩ := Z.n_BadPlace
  refine ⟨fd, F.bindsN (fun _ _ _ _ _ _ us hl => match us, hl with | [_, _], _ => rfl), F.ok sci_BadPlace (fun vs H Q E h => h.len) fun cdv A outer s H vs Q E hr h => ⟨_, ?_, init1_ok (N := ["part"]) Z.e_BadPlace.T (Z.e_BadPlace.no _ (by decide)) h⟩⟩
  exact (pss_cons (ps_ost (dv 0 (E := E)).pe (dv 1 (E := E)).pe) pss_nil)
theorem ik_BadPlace_part (Z : Facts K mg) : ∃ fd, KBn K fd ["self", "part"] 1 ["part"] (fun us ws => us ++ id ws) (fun us zs => us ++ id zs) ∧ FnOk P w K mg base (L2.CX P w) 1 (He.ma K (He.ga K "BadPlace") "__init__") fd ["self", "part"] (spInit (He.ga K "BadPlace") ["part"]) := by
  obtain ⟨fd, F⟩ := Z.n_BadPlace
  refine ⟨fd, FunD_kbinds00 F 1 ["part"] (fun us ws => us ++ id ws) (fun r q => r.append q) (fun _ _ _ _ _ _ us ws h1 h2 => match us, ws, h1, h2 with | [_], [_], _, _ => rfl), F.ok sci_BadPlace (fun vs H Q E h => h.len) fun cdv A outer s H vs Q E hr h => ⟨_, ?_, init1_ok (N := ["part"]) Z.e_BadPlace.T (Z.e_BadPlace.no _ (by decide)) h⟩⟩
  exact (pss_cons (ps_ost (dv 0 (E := E)).pe (dv 1 (E := E)).pe) pss_nil)
theorem sci_BadNumbers : FnScope ["self", "part"] ["self", "part"] (defScope si_BadNumbers) := ⟨rfl, rfl, rfl, by decide +kernel, rfl, by decide +kernel, by decide +kernel⟩
theorem i_BadNumbers (Z : Facts K mg) : ∃ fd, ∃ _ : Binds K fd ["self", "part"] [], FnOk P w K mg base (L2.CX P w) 1 (He.ma K (He.ga K "BadNumbers") "__init__") fd ["self", "part"] (spInit (He.ga K "BadNumbers") ["part"]) := by
  obtain ⟨fd, F⟩ := Z.n_BadNumbers
  refine ⟨fd, F.bindsN (fun _ _ _ _ _ _ us hl => match us, hl with | [_, _], _ => rfl), F.ok sci_BadNumbers (fun vs H Q E h => h.len) fun cdv A outer s H vs Q E hr h => ⟨_, ?_, init1_ok (N := ["part"]) Z.e_BadNumbers.T (Z.e_BadNumbers.no _ (by decide)) h⟩⟩
  exact (pss_cons (ps_ost (dv 0 (E := E)).pe (dv 1 (E := E)).pe) pss_nil)
theorem ik_BadNumbers_part (Z : Facts K mg) : ∃ fd, KBn K fd ["self", "part"] 1 ["part"] (fun us ws => us ++ id ws) (fun us zs => us ++ id zs) ∧ FnOk P w K mg base (L2.CX P w) 1 (He.ma K (He.ga K "BadNumbers") "__init__") fd ["self", "part"] (spInit (He.ga K "BadNumbers") ["part"]) := by
  obtain ⟨fd, F⟩ := Z.n_BadNumbers
  refine ⟨fd, FunD_kbinds00 F 1 ["part"] (fun us ws => us ++ id ws) (fun r q => r.append q) (fun _ _ _ _ _ _ us ws h1 h2 => match us, ws, h1, h2 with | [_], [_], _, _ => rfl), F.ok sci_BadNumbers (fun vs H Q E h => h.len) fun cdv A outer s H vs Q E hr h => ⟨_, ?_, init1_ok (N := ["part"]) Z.e_BadNumbers.T (Z.e_BadNumbers.no _ (by decide)) h⟩⟩
  exact (pss_cons (ps_ost (dv 0 (E := E)).pe (dv 1 (E := E)).pe) pss_nil)
theorem sci_BadTranslation : FnScope ["self", "part"] ["self", "part"] (defScope si_BadTranslation) := ⟨rfl, rfl, rfl, by decide +kernel, rfl, by decide +kernel, by decide +kernel⟩
theorem i_BadTranslation (Z : Facts K mg) : ∃ fd, ∃ _ : Binds K fd ["self", "part"] [], FnOk P w K mg base (L2.CX P w) 1 (He.ma K (He.ga K "BadTranslation") "__init__") fd ["self", "part"] (spInit (He.ga K "BadTranslation") ["part"]) := by
  obtain ⟨fd, F⟩ := Z.n_BadTranslation
  refine ⟨fd, F.bindsN (fun _ _ _ _ _ _ us hl => match us, hl with | [_, _], _ => rfl), F.ok sci_BadTranslation (fun vs H Q E h => h.len) fun cdv A outer s H vs Q E hr h => ⟨_, ?_, init1_ok (N := ["part"]) Z.e_BadTranslation.T (Z.e_BadTranslation.no _ (by decide)) h⟩⟩
  exact (pss_cons (ps_ost (dv 0 (E := E)).pe (dv 1 (E := E)).pe) pss_nil)
theorem ik_BadTranslation_part (Z : Facts K mg) : ∃ fd, KBn K fd ["self", "part"] 1 ["part"] (fun us ws => us ++ id ws) (fun us zs => us ++ id zs) ∧ FnOk P w K mg base (L2.CX P w) 1 (He.ma K (He.ga K "BadTranslation") "__init__") fd ["self", "part"] (spInit (He.ga K "BadTranslation") ["part"]) := by
  obtain ⟨fd, F⟩ := Z.n_BadTranslation
  refine ⟨fd, FunD_kbinds00 F 1 ["part"] (fun us ws => us ++ id ws) (fun r q => r.append q) (fun _ _ _ _ _ _ us ws h1 h2 => match us, ws, h1, h2 with | [_], [_], _, _ => rfl), F.ok sci_BadTranslation (fun vs H Q E h => h.len) fun cdv A outer s H vs Q E hr h => ⟨_, ?_, init1_ok (N := ["part"]) Z.e_BadTranslation.T (Z.e_BadTranslation.no _ (by decide)) h⟩⟩
  exact (pss_cons (ps_ost (dv 0 (E := E)).pe (dv 1 (E := E)).pe) pss_nil)
theorem sci_BadTeller : FnScope ["self", "part"] ["self", "part"] (defScope si_BadTeller) := ⟨rfl, rfl, rfl, by decide +kernel, rfl, by decide +kernel, by decide +kernel⟩
theorem i_BadTeller (Z : Facts K mg) : ∃ fd, ∃ _ : Binds K fd ["self", "part"] [], FnOk P w K mg base (L2.CX P w) 1 (He.ma K (He.ga K "BadTeller") "__init__") fd ["self", "part"] (spInit (He.ga K "BadTeller") ["part"]) := by
  obtain ⟨fd, F⟩ := Z.n_BadTeller
  refine ⟨fd, F.bindsN (fun _ _ _ _ _ _ us hl => match us, hl with | [_, _], _ => rfl), F.ok sci_BadTeller (fun vs H Q E h => h.len) fun cdv A outer s H vs Q E hr h => ⟨_, ?_, init1_ok (N := ["part"]) Z.e_BadTeller.T (Z.e_BadTeller.no _ (by decide)) h⟩⟩
  exact (pss_cons (ps_ost (dv 0 (E := E)).pe (dv 1 (E := E)).pe) pss_nil)
theorem ik_BadTeller_part (Z : Facts K mg) : ∃ fd, KBn K fd ["self", "part"] 1 ["part"] (fun us ws => us ++ id ws) (fun us zs => us ++ id zs) ∧ FnOk P w K mg base (L2.CX P w) 1 (He.ma K (He.ga K "BadTeller") "__init__") fd ["self", "part"] (spInit (He.ga K "BadTeller") ["part"]) := by
  obtain ⟨fd, F⟩ := Z.n_BadTeller
  refine ⟨fd, FunD_kbinds00 F 1 ["part"] (fun us ws => us ++ id ws) (fun r q => r.append q) (fun _ _ _ _ _ _ us ws h1 h2 => match us, ws, h1, h2 with | [_], [_], _, _ => rfl), F.ok sci_BadTeller (fun vs H Q E h => h.len) fun cdv A outer s H vs Q E hr h => ⟨_, ?_, init1_ok (N := ["part"]) Z.e_BadTeller.T (Z.e_BadTeller.no _ (by decide)) h⟩⟩
  exact (pss_cons (ps_ost (dv 0 (E := E)).pe (dv 1 (E := E)).pe) pss_nil)
theorem sci_Missing : FnScope ["self", "name"] ["self", "name"] (defScope si_Missing) := ⟨rfl, rfl, rfl, by decide +kernel, rfl, by decide +kernel, by decide +kernel⟩
theorem i_NoName (Z : Facts K mg) : ∃ fd, ∃ _ : Binds K fd ["self", "name"] [], FnOk P w K mg base (L2.CX P w) 1 (He.ma K (He.ga K "NoName") "__init__") fd ["self", "name"] (spInit (He.ga K "NoName") ["name"]) := by
  obtain ⟨fd, F⟩ := Z.n_NoName
  refine ⟨fd, F.bindsN (fun _ _ _ _ _ _ us hl => match us, hl with | [_, _], _ => rfl), F.ok sci_Missing (fun vs H Q E h => h.len) fun cdv A outer s H vs Q E hr h => ⟨_, ?_, init1_ok (N := ["name"]) Z.e_NoName.T (Z.e_NoName.no _ (by decide)) h⟩⟩
  exact (pss_cons (ps_ost (dv 0 (E := E)).pe (dv 1 (E := E)).pe) pss_nil)
theorem ik_NoName_name (Z : Facts K mg) : ∃ fd, KBn K fd ["self", "name"] 1 ["name"] (fun us ws => us ++ id ws) (fun us zs => us ++ id zs) ∧ FnOk P w K mg base (L2.CX P w) 1 (He.ma K (He.ga K "NoName") "__init__") fd ["self", "name"] (spInit (He.ga K "NoName") ["name"]) := by
  obtain ⟨fd, F⟩ := Z.n_NoName
  refine ⟨fd, FunD_kbinds00 F 1 ["name"] (fun us ws => us ++ id ws) (fun r q => r.append q) (fun _ _ _ _ _ _ us ws h1 h2 => match us, ws, h1, h2 with | [_], [_], _, _ => rfl), F.ok sci_Missing (fun vs H Q E h => h.len) fun cdv A outer s H vs Q E hr h => ⟨_, ?_, init1_ok (N := ["name"]) Z.e_NoName.T (Z.e_NoName.no _ (by decide)) h⟩⟩
  exact (pss_cons (ps_ost (dv 0 (E := E)).pe (dv 1 (E := E)).pe) pss_nil)
theorem i_NoWay (Z : Facts K mg) : ∃ fd, ∃ _ : Binds K fd ["self", "name"] [], FnOk P w K mg base (L2.CX P w) 1 (He.ma K (He.ga K "NoWay") "__init__") fd ["self", "name"] (spInit (He.ga K "NoWay") ["name"]) := by
  obtain ⟨fd, F⟩ := Z.n_NoWay
  refine ⟨fd, F.bindsN (fun _ _ _ _ _ _ us hl => match us, hl with | [_, _], _ => rfl), F.ok sci_Missing (fun vs H Q E h => h.len) fun cdv A outer s H vs Q E hr h => ⟨_, ?_, init1_ok (N := ["name"]) Z.e_NoWay.T (Z.e_NoWay.no _ (by decide)) h⟩⟩
  exact (pss_cons (ps_ost (dv 0 (E := E)).pe (dv 1 (E := E)).pe) pss_nil)
theorem ik_NoWay_name (Z : Facts K mg) : ∃ fd, KBn K fd ["self", "name"] 1 ["name"] (fun us ws => us ++ id ws) (fun us zs => us ++ id zs) ∧ FnOk P w K mg base (L2.CX P w) 1 (He.ma K (He.ga K "NoWay") "__init__") fd ["self", "name"] (spInit (He.ga K "NoWay") ["name"]) := by
  obtain ⟨fd, F⟩ := Z.n_NoWay
  refine ⟨fd, FunD_kbinds00 F 1 ["name"] (fun us ws => us ++ id ws) (fun r q => r.append q) (fun _ _ _ _ _ _ us ws h1 h2 => match us, ws, h1, h2 with | [_], [_], _, _ => rfl), F.ok sci_Missing (fun vs H Q E h => h.len) fun cdv A outer s H vs Q E hr h => ⟨_, ?_, init1_ok (N := ["name"]) Z.e_NoWay.T (Z.e_NoWay.no _ (by decide)) h⟩⟩
  exact (pss_cons (ps_ost (dv 0 (E := E)).pe (dv 1 (E := E)).pe) pss_nil)
theorem i_NoScale (Z : Facts K mg) : ∃ fd, ∃ _ : Binds K fd ["self", "name"] [], FnOk P w K mg base (L2.CX P w) 1 (He.ma K (He.ga K "NoScale") "__init__") fd ["self", "name"] (spInit (He.ga K "NoScale") ["name"]) := by
  obtain ⟨fd, F⟩ := Z.n_NoScale
  refine ⟨fd, F.bindsN (fun _ _ _ _ _ _ us hl => match us, hl with | [_, _], _ => rfl), F.ok sci_Missing (fun vs H Q E h => h.len) fun cdv A outer s H vs Q E hr h => ⟨_, ?_, init1_ok (N := ["name"]) Z.e_NoScale.T (Z.e_NoScale.no _ (by decide)) h⟩⟩
  exact (pss_cons (ps_ost (dv 0 (E := E)).pe (dv 1 (E := E)).pe) pss_nil)
theorem ik_NoScale_name (Z : Facts K mg) : ∃ fd, KBn K fd ["self", "name"] 1 ["name"] (fun us ws => us ++ id ws) (fun us zs => us ++ id zs) ∧ FnOk P w K mg base (L2.CX P w) 1 (He.ma K (He.ga K "NoScale") "__init__") fd ["self", "name"] (spInit (He.ga K "NoScale") ["name"]) := by
  obtain ⟨fd, F⟩ := Z.n_NoScale
  refine ⟨fd, FunD_kbinds00 F 1 ["name"] (fun us ws => us ++ id ws) (fun r q => r.append q) (fun _ _ _ _ _ _ us ws h1 h2 => match us, ws, h1, h2 with | [_], [_], _, _ => rfl), F.ok sci_Missing (fun vs H Q E h => h.len) fun cdv A outer s H vs Q E hr h => ⟨_, ?_, init1_ok (N := ["name"]) Z.e_NoScale.T (Z.e_NoScale.no _ (by decide)) h⟩⟩
  exact (pss_cons (ps_ost (dv 0 (E := E)).pe (dv 1 (E := E)).pe) pss_nil)
theorem i_NoLink (Z : Facts K mg) : ∃ fd, ∃ _ : Binds K fd ["self", "name"] [], FnOk P w K mg base (L2.CX P w) 1 (He.ma K (He.ga K "NoLink") "__init__") fd ["self", "name"] (spInit (He.ga K "NoLink") ["name"]) := by
  obtain ⟨fd, F⟩ := Z.n_NoLink
  refine ⟨fd, F.bindsN (fun _ _ _ _ _ _ us hl => match us, hl with | [_, _], _ => rfl), F.ok sci_Missing (fun vs H Q E h => h.len) fun cdv A outer s H vs Q E hr h => ⟨_, ?_, init1_ok (N := ["name"]) Z.e_NoLink.T (Z.e_NoLink.no _ (by decide)) h⟩⟩
  exact (pss_cons (ps_ost (dv 0 (E := E)).pe (dv 1 (E := E)).pe) pss_nil)
theorem ik_NoLink_name (Z : Facts K mg) : ∃ fd, KBn K fd ["self", "name"] 1 ["name"] (fun us ws => us ++ id ws) (fun us zs => us ++ id zs) ∧ FnOk P w K mg base (L2.CX P w) 1 (He.ma K (He.ga K "NoLink") "__init__") fd ["self", "name"] (spInit (He.ga K "NoLink") ["name"]) := by
  obtain ⟨fd, F⟩ := Z.n_NoLink
  refine ⟨fd, FunD_kbinds00 F 1 ["name"] (fun us ws => us ++ id ws) (fun r q => r.append q) (fun _ _ _ _ _ _ us ws h1 h2 => match us, ws, h1, h2 with | [_], [_], _, _ => rfl), F.ok sci_Missing (fun vs H Q E h => h.len) fun cdv A outer s H vs Q E hr h => ⟨_, ?_, init1_ok (N := ["name"]) Z.e_NoLink.T (Z.e_NoLink.no _ (by decide)) h⟩⟩
  exact (pss_cons (ps_ost (dv 0 (E := E)).pe (dv 1 (E := E)).pe) pss_nil)
theorem i_NoWord (Z : Facts K mg) : ∃ fd, ∃ _ : Binds K fd ["self", "name"] [], FnOk P w K mg base (L2.CX P w) 1 (He.ma K (He.ga K "NoWord") "__init__") fd ["self", "name"] (spInit (He.ga K "NoWord") ["name"]) := by
  obtain ⟨fd, F⟩ := Z.n_NoWord
  refine ⟨fd, F.bindsN (fun _ _ _ _ _ _ us hl => match us, hl with | [_, _], _ => rfl), F.ok sci_Missing (fun vs H Q E h => h.len) fun cdv A outer s H vs Q E hr h => ⟨_, ?_, init1_ok (N := ["name"]) Z.e_NoWord.T (Z.e_NoWord.no _ (by decide)) h⟩⟩
  exact (pss_cons (ps_ost (dv 0 (E := E)).pe (dv 1 (E := E)).pe) pss_nil)
theorem ik_NoWord_name (Z : Facts K mg) : ∃ fd, KBn K fd ["self", "name"] 1 ["name"] (fun us ws => us ++ id ws) (fun us zs => us ++ id zs) ∧ FnOk P w K mg base (L2.CX P w) 1 (He.ma K (He.ga K "NoWord") "__init__") fd ["self", "name"] (spInit (He.ga K "NoWord") ["name"]) := by
  obtain ⟨fd, F⟩ := Z.n_NoWord
  refine ⟨fd, FunD_kbinds00 F 1 ["name"] (fun us ws => us ++ id ws) (fun r q => r.append q) (fun _ _ _ _ _ _ us ws h1 h2 => match us, ws, h1, h2 with | [_], [_], _, _ => rfl), F.ok sci_Missing (fun vs H Q E h => h.len) fun cdv A outer s H vs Q E hr h => ⟨_, ?_, init1_ok (N := ["name"]) Z.e_NoWord.T (Z.e_NoWord.no _ (by decide)) h⟩⟩
  exact (pss_cons (ps_ost (dv 0 (E := E)).pe (dv 1 (E := E)).pe) pss_nil)
theorem i_NoThing (Z : Facts K mg) : ∃ fd, ∃ _ : Binds K fd ["self", "name"] [], FnOk P w K mg base (L2.CX P w) 1 (He.ma K (He.ga K "NoThing") "__init__") fd ["self", "name"] (spInit (He.ga K "NoThing") ["name"]) := by
  obtain ⟨fd, F⟩ := Z.n_NoThing
  refine ⟨fd, F.bindsN (fun _ _ _ _ _ _ us hl => match us, hl with | [_, _], _ => rfl), F.ok sci_Missing (fun vs H Q E h => h.len) fun cdv A outer s H vs Q E hr h => ⟨_, ?_, init1_ok (N := ["name"]) Z.e_NoThing.T (Z.e_NoThing.no _ (by decide)) h⟩⟩
  exact (pss_cons (ps_ost (dv 0 (E := E)).pe (dv 1 (E := E)).pe) pss_nil)
theorem ik_NoThing_name (Z : Facts K mg) : ∃ fd, KBn K fd ["self", "name"] 1 ["name"] (fun us ws => us ++ id ws) (fun us zs => us ++ id zs) ∧ FnOk P w K mg base (L2.CX P w) 1 (He.ma K (He.ga K "NoThing") "__init__") fd ["self", "name"] (spInit (He.ga K "NoThing") ["name"]) := by
  obtain ⟨fd, F⟩ := Z.n_NoThing
  refine ⟨fd, FunD_kbinds00 F 1 ["name"] (fun us ws => us ++ id ws) (fun r q => r.append q) (fun _ _ _ _ _ _ us ws h1 h2 => match us, ws, h1, h2 with | [_], [_], _, _ => rfl), F.ok sci_Missing (fun vs H Q E h => h.len) fun cdv A outer s H vs Q E hr h => ⟨_, ?_, init1_ok (N := ["name"]) Z.e_NoThing.T (Z.e_NoThing.no _ (by decide)) h⟩⟩
  exact (pss_cons (ps_ost (dv 0 (E := E)).pe (dv 1 (E := E)).pe) pss_nil)
theorem sci_TooMany : FnScope ["self", "what", "most"] ["self", "what", "most"] (defScope si_TooMany) := ⟨rfl, rfl, rfl, by decide +kernel, rfl, by decide +kernel, by decide +kernel⟩
theorem i_TooMany (Z : Facts K mg) : ∃ fd, ∃ _ : Binds K fd ["self", "what", "most"] [], FnOk P w K mg base (L2.CX P w) 1 (He.ma K (He.ga K "TooMany") "__init__") fd ["self", "what", "most"] (spInit (He.ga K "TooMany") ["what", "most"]) := by
  obtain ⟨fd, F⟩ := Z.n_TooMany
  refine ⟨fd, F.bindsN (fun _ _ _ _ _ _ us hl => match us, hl with | [_, _, _], _ => rfl), F.ok sci_TooMany (fun vs H Q E h => h.len) fun cdv A outer s H vs Q E hr h => ⟨_, ?_, init2_ok (x := "what") (y := "most") Z.e_TooMany.T (Z.e_TooMany.no _ (by decide)) (Z.e_TooMany.no _ (by decide)) h⟩⟩
  exact (pss_cons (ps_ost (dv 0 (E := E)).pe (dv 1 (E := E)).pe) (pss_cons (ps_ost (dv 0 (E := E)).pe (dv 2 (E := E)).pe) pss_nil))
theorem ik_TooMany_most_what (Z : Facts K mg) : ∃ fd, KBn K fd ["self", "what", "most"] 1 ["most", "what"] (fun us ws => us ++ swapL ws) (fun us zs => us ++ swapL zs) ∧ FnOk P w K mg base (L2.CX P w) 1 (He.ma K (He.ga K "TooMany") "__init__") fd ["self", "what", "most"] (spInit (He.ga K "TooMany") ["what", "most"]) := by
  obtain ⟨fd, F⟩ := Z.n_TooMany
  refine ⟨fd, FunD_kbinds00 F 1 ["most", "what"] (fun us ws => us ++ swapL ws) (fun r q => r.append (vals_swap q)) (fun _ _ _ _ _ _ us ws h1 h2 => match us, ws, h1, h2 with | [_], [_, _], _, _ => rfl), F.ok sci_TooMany (fun vs H Q E h => h.len) fun cdv A outer s H vs Q E hr h => ⟨_, ?_, init2_ok (x := "what") (y := "most") Z.e_TooMany.T (Z.e_TooMany.no _ (by decide)) (Z.e_TooMany.no _ (by decide)) h⟩⟩
  exact (pss_cons (ps_ost (dv 0 (E := E)).pe (dv 1 (E := E)).pe) (pss_cons (ps_ost (dv 0 (E := E)).pe (dv 2 (E := E)).pe) pss_nil))
theorem sci_NotLet : FnScope ["self", "way", "kind"] ["self", "way", "kind"] (defScope si_NotLet) := ⟨rfl, rfl, rfl, by decide +kernel, rfl, by decide +kernel, by decide +kernel⟩
theorem i_NotLet (Z : Facts K mg) : ∃ fd, ∃ _ : Binds K fd ["self", "way", "kind"] [], FnOk P w K mg base (L2.CX P w) 1 (He.ma K (He.ga K "NotLet") "__init__") fd ["self", "way", "kind"] (spInit (He.ga K "NotLet") ["way", "kind"]) := by
  obtain ⟨fd, F⟩ := Z.n_NotLet
  refine ⟨fd, F.bindsN (fun _ _ _ _ _ _ us hl => match us, hl with | [_, _, _], _ => rfl), F.ok sci_NotLet (fun vs H Q E h => h.len) fun cdv A outer s H vs Q E hr h => ⟨_, ?_, init2_ok (x := "way") (y := "kind") Z.e_NotLet.T (Z.e_NotLet.no _ (by decide)) (Z.e_NotLet.no _ (by decide)) h⟩⟩
  exact (pss_cons (ps_ost (dv 0 (E := E)).pe (dv 1 (E := E)).pe) (pss_cons (ps_ost (dv 0 (E := E)).pe (dv 2 (E := E)).pe) pss_nil))
theorem ik_NotLet_kind_way (Z : Facts K mg) : ∃ fd, KBn K fd ["self", "way", "kind"] 1 ["kind", "way"] (fun us ws => us ++ swapL ws) (fun us zs => us ++ swapL zs) ∧ FnOk P w K mg base (L2.CX P w) 1 (He.ma K (He.ga K "NotLet") "__init__") fd ["self", "way", "kind"] (spInit (He.ga K "NotLet") ["way", "kind"]) := by
  obtain ⟨fd, F⟩ := Z.n_NotLet
  refine ⟨fd, FunD_kbinds00 F 1 ["kind", "way"] (fun us ws => us ++ swapL ws) (fun r q => r.append (vals_swap q)) (fun _ _ _ _ _ _ us ws h1 h2 => match us, ws, h1, h2 with | [_], [_, _], _, _ => rfl), F.ok sci_NotLet (fun vs H Q E h => h.len) fun cdv A outer s H vs Q E hr h => ⟨_, ?_, init2_ok (x := "way") (y := "kind") Z.e_NotLet.T (Z.e_NotLet.no _ (by decide)) (Z.e_NotLet.no _ (by decide)) h⟩⟩
  exact (pss_cons (ps_ost (dv 0 (E := E)).pe (dv 1 (E := E)).pe) (pss_cons (ps_ost (dv 0 (E := E)).pe (dv 2 (E := E)).pe) pss_nil))
theorem sci_Unlike : FnScope ["self", "what"] ["self", "what"] (defScope si_Unlike) := ⟨rfl, rfl, rfl, by decide +kernel, rfl, by decide +kernel, by decide +kernel⟩
theorem i_Unlike (Z : Facts K mg) : ∃ fd, ∃ _ : Binds K fd ["self", "what"] [], FnOk P w K mg base (L2.CX P w) 1 (He.ma K (He.ga K "Unlike") "__init__") fd ["self", "what"] (spInit (He.ga K "Unlike") ["what"]) := by
  obtain ⟨fd, F⟩ := Z.n_Unlike
  refine ⟨fd, F.bindsN (fun _ _ _ _ _ _ us hl => match us, hl with | [_, _], _ => rfl), F.ok sci_Unlike (fun vs H Q E h => h.len) fun cdv A outer s H vs Q E hr h => ⟨_, ?_, init1_ok (N := ["what"]) Z.e_Unlike.T (Z.e_Unlike.no _ (by decide)) h⟩⟩
  exact (pss_cons (ps_ost (dv 0 (E := E)).pe (dv 1 (E := E)).pe) pss_nil)
theorem ik_Unlike_what (Z : Facts K mg) : ∃ fd, KBn K fd ["self", "what"] 1 ["what"] (fun us ws => us ++ id ws) (fun us zs => us ++ id zs) ∧ FnOk P w K mg base (L2.CX P w) 1 (He.ma K (He.ga K "Unlike") "__init__") fd ["self", "what"] (spInit (He.ga K "Unlike") ["what"]) := by
  obtain ⟨fd, F⟩ := Z.n_Unlike
  refine ⟨fd, FunD_kbinds00 F 1 ["what"] (fun us ws => us ++ id ws) (fun r q => r.append q) (fun _ _ _ _ _ _ us ws h1 h2 => match us, ws, h1, h2 with | [_], [_], _, _ => rfl), F.ok sci_Unlike (fun vs H Q E h => h.len) fun cdv A outer s H vs Q E hr h => ⟨_, ?_, init1_ok (N := ["what"]) Z.e_Unlike.T (Z.e_Unlike.no _ (by decide)) h⟩⟩
  exact (pss_cons (ps_ost (dv 0 (E := E)).pe (dv 1 (E := E)).pe) pss_nil)
theorem sci_Twice : FnScope ["self", "name"] ["self", "name"] (defScope si_Twice) := ⟨rfl, rfl, rfl, by decide +kernel, rfl, by decide +kernel, by decide +kernel⟩
theorem i_Twice (Z : Facts K mg) : ∃ fd, ∃ _ : Binds K fd ["self", "name"] [], FnOk P w K mg base (L2.CX P w) 1 (He.ma K (He.ga K "Twice") "__init__") fd ["self", "name"] (spInit (He.ga K "Twice") ["name"]) := by
  obtain ⟨fd, F⟩ := Z.n_Twice
  refine ⟨fd, F.bindsN (fun _ _ _ _ _ _ us hl => match us, hl with | [_, _], _ => rfl), F.ok sci_Twice (fun vs H Q E h => h.len) fun cdv A outer s H vs Q E hr h => ⟨_, ?_, init1_ok (N := ["name"]) Z.e_Twice.T (Z.e_Twice.no _ (by decide)) h⟩⟩
  exact (pss_cons (ps_ost (dv 0 (E := E)).pe (dv 1 (E := E)).pe) pss_nil)
theorem ik_Twice_name (Z : Facts K mg) : ∃ fd, KBn K fd ["self", "name"] 1 ["name"] (fun us ws => us ++ id ws) (fun us zs => us ++ id zs) ∧ FnOk P w K mg base (L2.CX P w) 1 (He.ma K (He.ga K "Twice") "__init__") fd ["self", "name"] (spInit (He.ga K "Twice") ["name"]) := by
  obtain ⟨fd, F⟩ := Z.n_Twice
  refine ⟨fd, FunD_kbinds00 F 1 ["name"] (fun us ws => us ++ id ws) (fun r q => r.append q) (fun _ _ _ _ _ _ us ws h1 h2 => match us, ws, h1, h2 with | [_], [_], _, _ => rfl), F.ok sci_Twice (fun vs H Q E h => h.len) fun cdv A outer s H vs Q E hr h => ⟨_, ?_, init1_ok (N := ["name"]) Z.e_Twice.T (Z.e_Twice.no _ (by decide)) h⟩⟩
  exact (pss_cons (ps_ost (dv 0 (E := E)).pe (dv 1 (E := E)).pe) pss_nil)
theorem sci_BadLine : FnScope ["self", "line", "error"] ["self", "line", "error"] (defScope si_BadLine) := ⟨rfl, rfl, rfl, by decide +kernel, rfl, by decide +kernel, by decide +kernel⟩
theorem i_BadLine (Z : Facts K mg) : ∃ fd, ∃ _ : Binds K fd ["self", "line", "error"] [], FnOk P w K mg base (L2.CX P w) 1 (He.ma K (He.ga K "BadLine") "__init__") fd ["self", "line", "error"] (spInit (He.ga K "BadLine") ["line", "error"]) := by
  obtain ⟨fd, F⟩ := Z.n_BadLine
  refine ⟨fd, F.bindsN (fun _ _ _ _ _ _ us hl => match us, hl with | [_, _, _], _ => rfl), F.ok sci_BadLine (fun vs H Q E h => h.len) fun cdv A outer s H vs Q E hr h => ⟨_, ?_, init2_ok (x := "line") (y := "error") Z.e_BadLine.T (Z.e_BadLine.no _ (by decide)) (Z.e_BadLine.no _ (by decide)) h⟩⟩
  exact (pss_cons (ps_ost (dv 0 (E := E)).pe (dv 1 (E := E)).pe) (pss_cons (ps_ost (dv 0 (E := E)).pe (dv 2 (E := E)).pe) pss_nil))
theorem ik_BadLine_error_line (Z : Facts K mg) : ∃ fd, KBn K fd ["self", "line", "error"] 1 ["error", "line"] (fun us ws => us ++ swapL ws) (fun us zs => us ++ swapL zs) ∧ FnOk P w K mg base (L2.CX P w) 1 (He.ma K (He.ga K "BadLine") "__init__") fd ["self", "line", "error"] (spInit (He.ga K "BadLine") ["line", "error"]) := by
  obtain ⟨fd, F⟩ := Z.n_BadLine
  refine ⟨fd, FunD_kbinds00 F 1 ["error", "line"] (fun us ws => us ++ swapL ws) (fun r q => r.append (vals_swap q)) (fun _ _ _ _ _ _ us ws h1 h2 => match us, ws, h1, h2 with | [_], [_, _], _, _ => rfl), F.ok sci_BadLine (fun vs H Q E h => h.len) fun cdv A outer s H vs Q E hr h => ⟨_, ?_, init2_ok (x := "line") (y := "error") Z.e_BadLine.T (Z.e_BadLine.no _ (by decide)) (Z.e_BadLine.no _ (by decide)) h⟩⟩
  exact (pss_cons (ps_ost (dv 0 (E := E)).pe (dv 1 (E := E)).pe) (pss_cons (ps_ost (dv 0 (E := E)).pe (dv 2 (E := E)).pe) pss_nil))
theorem sci_BadText : FnScope ["self", "line", "word"] ["self", "line", "word"] (defScope si_BadText) := ⟨rfl, rfl, rfl, by decide +kernel, rfl, by decide +kernel, by decide +kernel⟩
theorem i_BadText (Z : Facts K mg) : ∃ fd, ∃ _ : Binds K fd ["self", "line", "word"] [], FnOk P w K mg base (L2.CX P w) 1 (He.ma K (He.ga K "BadText") "__init__") fd ["self", "line", "word"] (spInit (He.ga K "BadText") ["line", "word"]) := by
  obtain ⟨fd, F⟩ := Z.n_BadText
  refine ⟨fd, F.bindsN (fun _ _ _ _ _ _ us hl => match us, hl with | [_, _, _], _ => rfl), F.ok sci_BadText (fun vs H Q E h => h.len) fun cdv A outer s H vs Q E hr h => ⟨_, ?_, init2_ok (x := "line") (y := "word") Z.e_BadText.T (Z.e_BadText.no _ (by decide)) (Z.e_BadText.no _ (by decide)) h⟩⟩
  exact (pss_cons (ps_ost (dv 0 (E := E)).pe (dv 1 (E := E)).pe) (pss_cons (ps_ost (dv 0 (E := E)).pe (dv 2 (E := E)).pe) pss_nil))
theorem ik_BadText_word_line (Z : Facts K mg) : ∃ fd, KBn K fd ["self", "line", "word"] 1 ["word", "line"] (fun us ws => us ++ swapL ws) (fun us zs => us ++ swapL zs) ∧ FnOk P w K mg base (L2.CX P w) 1 (He.ma K (He.ga K "BadText") "__init__") fd ["self", "line", "word"] (spInit (He.ga K "BadText") ["line", "word"]) := by
  obtain ⟨fd, F⟩ := Z.n_BadText
  refine ⟨fd, FunD_kbinds00 F 1 ["word", "line"] (fun us ws => us ++ swapL ws) (fun r q => r.append (vals_swap q)) (fun _ _ _ _ _ _ us ws h1 h2 => match us, ws, h1, h2 with | [_], [_, _], _, _ => rfl), F.ok sci_BadText (fun vs H Q E h => h.len) fun cdv A outer s H vs Q E hr h => ⟨_, ?_, init2_ok (x := "line") (y := "word") Z.e_BadText.T (Z.e_BadText.no _ (by decide)) (Z.e_BadText.no _ (by decide)) h⟩⟩
  exact (pss_cons (ps_ost (dv 0 (E := E)).pe (dv 1 (E := E)).pe) (pss_cons (ps_ost (dv 0 (E := E)).pe (dv 2 (E := E)).pe) pss_nil))
theorem i_Missing (Z : Facts K mg) : ∃ fd, ∃ _ : Binds K fd ["self", "name"] [], FnOk P w K mg base (L2.CX P w) 1 (He.ma K (He.ga K "Missing") "__init__") fd ["self", "name"] (spInit (He.ga K "Missing") ["name"]) := by
  obtain ⟨fd, F⟩ := Z.n_Missing
  refine ⟨fd, F.bindsN (fun _ _ _ _ _ _ us hl => match us, hl with | [_, _], _ => rfl), F.ok sci_Missing (fun vs H Q E h => h.len) fun cdv A outer s H vs Q E hr h => ⟨_, ?_, init1_ok (N := ["name"]) Z.e_Missing.T (Z.e_Missing.no _ (by decide)) h⟩⟩
  exact (pss_cons (ps_ost (dv 0 (E := E)).pe (dv 1 (E := E)).pe) pss_nil)
theorem ik_Missing_name (Z : Facts K mg) : ∃ fd, KBn K fd ["self", "name"] 1 ["name"] (fun us ws => us ++ id ws) (fun us zs => us ++ id zs) ∧ FnOk P w K mg base (L2.CX P w) 1 (He.ma K (He.ga K "Missing") "__init__") fd ["self", "name"] (spInit (He.ga K "Missing") ["name"]) := by
  obtain ⟨fd, F⟩ := Z.n_Missing
  refine ⟨fd, FunD_kbinds00 F 1 ["name"] (fun us ws => us ++ id ws) (fun r q => r.append q) (fun _ _ _ _ _ _ us ws h1 h2 => match us, ws, h1, h2 with | [_], [_], _, _ => rfl), F.ok sci_Missing (fun vs H Q E h => h.len) fun cdv A outer s H vs Q E hr h => ⟨_, ?_, init1_ok (N := ["name"]) Z.e_Missing.T (Z.e_Missing.no _ (by decide)) h⟩⟩
  exact (pss_cons (ps_ost (dv 0 (E := E)).pe (dv 1 (E := E)).pe) pss_nil)
theorem sc__law_jar : FnScope ["_law_script", "_law_cell"] ["_law_script"] (defScope st__law_jar) := ⟨rfl, rfl, rfl, by decide +kernel, rfl, by decide +kernel, by decide +kernel⟩
theorem d__law_jar (Z : Facts K mg) : DefOk P w K mg base "_law_jar" 1 1 f__law_jar := by
  obtain ⟨fd, F⟩ := Z.p__law_jar
  exact def_okF ["_law_script", "_law_cell"] s__law_jar F Z.m__law_jar sc__law_jar rfl (fun _ _ _ _ _ _ us hl => match us, hl with | [_], _ => rfl) rfl fun cdv A outer s0 H E hr => ⟨_, (dss_cons (ds_retNew (deo_lst (da_cons (de_lc0 (own := [("_law_cell", 1)]) s0 H sc__law_jar.nd (di_any (de_slice (dv 0) do_none (do_some de_int))) (blkOk_by (N := ["_law_script", "_law_cell"]) (sc := defScope st__law_jar) (own := [("_law_cell", 1)]) (by decide +kernel)) (fun _ _ _ _ _ => dg_name (i := 1) sc__law_jar.nd) dts_nil (de_callT1 call_int1 rel_int1 Z.b_int (by decide +kernel) (dv 1)) (fun _ _ _ _ _ => dts_nil) (fun _ _ _ _ _ => (de_callT1 call_int1 rel_int1 Z.b_int (by decide +kernel) (dv 1))) wipe_name) (da_cons de_int (da_cons de_int da_nil)))))
  dss_nil)⟩
theorem sc__law_dip : FnScope ["_law_jar_here", "_law_many", "_law_turn", "_law_cell", "_law_mixed", "_law_rest"] ["_law_jar_here", "_law_many"] (defScope st__law_dip) := ⟨rfl, rfl, rfl, by decide +kernel, rfl, by decide +kernel, by decide +kernel⟩
theorem d__law_dip (Z : Facts K mg) : DefOk P w K mg base "_law_dip" 1 2 f__law_dip := by
  obtain ⟨fd, F⟩ := Z.p__law_dip
  exact def_okF ["_law_jar_here", "_law_many", "_law_turn", "_law_cell", "_law_mixed", "_law_rest"] s__law_dip F Z.m__law_dip sc__law_dip rfl (fun _ _ _ _ _ _ us hl => match us, hl with | [_, _], _ => rfl) rfl fun cdv A outer s0 H E hr => ⟨_, (dss_cons (ds_if (dt_cmp op_gtD rel_ord (de_ix (dv 0) de_int) de_int) (dss_cons (ds_set (i := 5) (de_ix (dv 0) de_int) sc__law_dip.nd)
  (dss_cons (ds_setIx 0 (de_bin op_fdivW rel_fdiv (de_callT1 call_int1 rel_int1 Z.b_int (by decide +kernel) (dv 5)) (dv 1)) de_int (hg := pg_sub (dv 0 (E := E)).pe (de_int : DE _ E _ _ _).pe set_list (fun _ => rfl)))
  (dss_cons (ds_ret (de_bin op_mod rel_mod (de_callT1 call_int1 rel_int1 Z.b_int (by decide +kernel) (dv 5)) (dv 1)))
  dss_nil))) dss_nil)
  (dss_cons (ds_set (i := 2) (de_ix (dv 0) de_int) sc__law_dip.nd)
  (dss_cons (ds_setIx 0 (de_bin op_addD rel_add (dv 2) de_int) de_int (hg := pg_sub (dv 0 (E := E)).pe (de_int : DE _ E _ _ _).pe set_list (fun _ => rfl)))
  (dss_cons (ds_set (i := 3) (de_bin op_addD rel_add (de_bin op_mulD rel_mul de_int (dv 2)) de_int) sc__law_dip.nd)
  (dss_cons (ds_if (dt_cmp (op_neD hr.units) rel_ne (de_ix (dv 0) de_int) (de_lst da_nil)) (dss_cons (ds_set (i := 3) (de_ix (de_ix (dv 0) de_int) (de_bin op_mod rel_mod (de_callT1 call_int1 rel_int1 Z.b_int (by decide +kernel) (dv 2)) (de_callB1 call_lenE rel_len Z.b_len (by decide +kernel) (de_ix (dv 0) de_int)))) sc__law_dip.nd)
  dss_nil) dss_nil)
  (dss_cons (ds_if (dw_and (dt_cmp op_ltD rel_ord (dv 2) (de_callB1 call_lenE rel_len Z.b_len (by decide +kernel) (de_ix (dv 0) de_int))) (dw_and1 (dt_cmp op_geD rel_ord (de_callB1 call_abs rel_abs Z.b_abs (by decide +kernel) (dv 3)) (de_bin op_pow rel_pow de_int de_int)))).dt (dss_cons (ds_set (i := 5) (de_bin op_sub rel_sub (de_callB1 call_abs rel_abs Z.b_abs (by decide +kernel) (dv 3)) (de_bin op_pow rel_pow de_int de_int)) sc__law_dip.nd)
  (dss_cons (ds_setIx 0 (de_bin op_fdivW rel_fdiv (de_callT1 call_int1 rel_int1 Z.b_int (by decide +kernel) (dv 5)) (dv 1)) de_int (hg := pg_sub (dv 0 (E := E)).pe (de_int : DE _ E _ _ _).pe set_list (fun _ => rfl)))
  (dss_cons (ds_ret (de_bin op_mod rel_mod (de_callT1 call_int1 rel_int1 Z.b_int (by decide +kernel) (dv 5)) (dv 1)))
  dss_nil))) dss_nil)
  (dss_cons (ds_set (i := 4) (de_bin op_mod rel_mod (de_callT1 call_int1 rel_int1 Z.b_int (by decide +kernel) (de_bin op_pow rel_pow (de_bin op_addD rel_add (de_bin op_addD rel_add (de_bin op_mod rel_mod (de_callT1 call_int1 rel_int1 Z.b_int (by decide +kernel) (dv 3)) de_int) (de_bin op_mulD rel_mul de_int (dv 2))) de_int) de_int)) de_int) sc__law_dip.nd)
  (dss_cons (ds_set (i := 4) (de_bin op_mod rel_mod (de_callT1 call_int1 rel_int1 Z.b_int (by decide +kernel) (de_bin op_pow rel_pow (de_bin op_addD rel_add (de_bin op_addD rel_add (de_bin op_mulD rel_mul (dv 4) (de_bin op_addD rel_add (de_bin op_mulD rel_mul de_int (dv 2)) de_int)) (de_bin op_mulD rel_mul (de_bin op_mulD rel_mul de_int (dv 2)) (dv 2))) de_int) de_int)) de_int) sc__law_dip.nd)
  (dss_cons (ds_ret (de_bin op_mod rel_mod (de_callT1 call_int1 rel_int1 Z.b_int (by decide +kernel) (de_bin op_fdivW rel_fdiv (dv 4) de_int)) (dv 1)))
  dss_nil)))))))))⟩
theorem sc__law_some : FnScope ["_law_jar_here", "_law_things"] ["_law_jar_here", "_law_things"] (defScope st__law_some) := ⟨rfl, rfl, rfl, by decide +kernel, rfl, by decide +kernel, by decide +kernel⟩
theorem d__law_some (Z : Facts K mg) : DefOk P w K mg base "_law_some" 2 2 f__law_some := by
  obtain ⟨fd, F⟩ := Z.p__law_some
  exact def_okF ["_law_jar_here", "_law_things"] s__law_some F Z.m__law_some sc__law_some rfl (fun _ _ _ _ _ _ us hl => match us, hl with | [_, _], _ => rfl) rfl fun cdv A outer s0 H E hr => ⟨_, (dss_cons (ds_ret (de_ix (dv 1) (dc (d__law_dip Z) hr (by decide) (pass_own (takes_of rfl rfl rfl rfl)) (da_cons (dv 0) (da_cons (de_callB1 call_lenE rel_len Z.b_len (by decide +kernel) (dv 1)) da_nil)) (lenA_cons (lenA_cons lenA_nil)))))
  dss_nil)⟩
theorem sc__law_kin : FnScope ["_law_error", "_law_kin_here"] ["_law_error"] (defScope st__law_kin) := ⟨rfl, rfl, rfl, by decide +kernel, rfl, by decide +kernel, by decide +kernel⟩
theorem d__law_kin (Z : Facts K mg) : DefOk P w K mg base "_law_kin" 1 1 f__law_kin := by
  obtain ⟨fd, F⟩ := Z.p__law_kin
  exact def_okF ["_law_error", "_law_kin_here"] s__law_kin F Z.m__law_kin sc__law_kin rfl (fun _ _ _ _ _ _ us hl => match us, hl with | [_], _ => rfl) rfl fun cdv A outer s0 H E hr => ⟨_, (dss_cons (ds_set (i := 1) (de_lst (da_cons (de_isWo tab_BadRoom Z.t_BadRoom Z.b_isinstance (dv 0) Z.g_BadRoom) (da_cons (de_isWo tab_BadDeed Z.t_BadDeed Z.b_isinstance (dv 0) Z.g_BadDeed) (da_cons (de_isWo tab_BadLoose Z.t_BadLoose Z.b_isinstance (dv 0) Z.g_BadLoose) da_nil)))) sc__law_kin.nd)
  (dss_cons (ds_set (i := 1) (de_bin op_addD rel_add (dv 1) (de_lst (da_cons (de_isWo tab_BadSaying Z.t_BadSaying Z.b_isinstance (dv 0) Z.g_BadSaying) (da_cons (de_isWo tab_BadBook Z.t_BadBook Z.b_isinstance (dv 0) Z.g_BadBook) (da_cons (de_isWo tab_BadPlace Z.t_BadPlace Z.b_isinstance (dv 0) Z.g_BadPlace) da_nil))))) sc__law_kin.nd)
  (dss_cons (ds_set (i := 1) (de_bin op_addD rel_add (dv 1) (de_lst (da_cons (de_isWo tab_BadTie Z.t_BadTie Z.b_isinstance (dv 0) Z.g_BadTie) (da_cons (de_isWo tab_BadPriced Z.t_BadPriced Z.b_isinstance (dv 0) Z.g_BadPriced) (da_cons (de_isWo tab_BadTalk Z.t_BadTalk Z.b_isinstance (dv 0) Z.g_BadTalk) da_nil))))) sc__law_kin.nd)
  (dss_cons (ds_set (i := 1) (de_bin op_addD rel_add (dv 1) (de_lst (da_cons (de_isWo tab_BadTeller Z.t_BadTeller Z.b_isinstance (dv 0) Z.g_BadTeller) (da_cons (de_isWo tab_BadTranslation Z.t_BadTranslation Z.b_isinstance (dv 0) Z.g_BadTranslation) (da_cons (de_isWo tab_BadNumbers Z.t_BadNumbers Z.b_isinstance (dv 0) Z.g_BadNumbers) da_nil))))) sc__law_kin.nd)
  (dss_cons (ds_set (i := 1) (de_bin op_addD rel_add (dv 1) (de_lst (da_cons (de_isWo tab_NoThing Z.t_NoThing Z.b_isinstance (dv 0) Z.g_NoThing) (da_cons (de_isWo tab_NoWord Z.t_NoWord Z.b_isinstance (dv 0) Z.g_NoWord) (da_cons (de_isWo tab_NoLink Z.t_NoLink Z.b_isinstance (dv 0) Z.g_NoLink) da_nil))))) sc__law_kin.nd)
  (dss_cons (ds_set (i := 1) (de_bin op_addD rel_add (dv 1) (de_lst (da_cons (de_isWo tab_NoScale Z.t_NoScale Z.b_isinstance (dv 0) Z.g_NoScale) (da_cons (de_isWo tab_NoWay Z.t_NoWay Z.b_isinstance (dv 0) Z.g_NoWay) (da_cons (de_isWo tab_NoName Z.t_NoName Z.b_isinstance (dv 0) Z.g_NoName) da_nil))))) sc__law_kin.nd)
  (dss_cons (ds_set (i := 1) (de_bin op_addD rel_add (dv 1) (de_lst (da_cons (de_isWo tab_Twice Z.t_Twice Z.b_isinstance (dv 0) Z.g_Twice) (da_cons (de_isWo tab_Unlike Z.t_Unlike Z.b_isinstance (dv 0) Z.g_Unlike) (da_cons (de_isWo tab_NotLet Z.t_NotLet Z.b_isinstance (dv 0) Z.g_NotLet) da_nil))))) sc__law_kin.nd)
  (dss_cons (ds_set (i := 1) (de_bin op_addD rel_add (dv 1) (de_lst (da_cons (de_isWo tab_TooMany Z.t_TooMany Z.b_isinstance (dv 0) Z.g_TooMany) (da_cons (de_isWo tab_BadText Z.t_BadText Z.b_isinstance (dv 0) Z.g_BadText) (da_cons (de_isWo tab_BadLine Z.t_BadLine Z.b_isinstance (dv 0) Z.g_BadLine) da_nil))))) sc__law_kin.nd)
  (dss_cons (ds_ret (de_bin op_addD rel_add (dv 1) (de_lst (da_cons (de_isWo tab_Nothing Z.t_Nothing Z.b_isinstance (dv 0) Z.g_Nothing) da_nil))))
  dss_nil)))))))))⟩
theorem sc__law_stands_right : FnScope ["_law_error", "_law_place", "_law_at"] ["_law_error", "_law_place"] (defScope st__law_stands_right) := ⟨rfl, rfl, rfl, by decide +kernel, rfl, by decide +kernel, by decide +kernel⟩
theorem d__law_stands_right (Z : Facts K mg) : DefOk P w K mg base "_law_stands_right" 2 2 f__law_stands_right := by
  obtain ⟨fd, F⟩ := Z.p__law_stands_right
  exact def_okF ["_law_error", "_law_place", "_law_at"] s__law_stands_right F Z.m__law_stands_right sc__law_stands_right rfl (fun _ _ _ _ _ _ us hl => match us, hl with | [_, _], _ => rfl) rfl fun cdv A outer s0 H E hr => ⟨_, (dss_cons (ds_if (dt_cmp (op_neD hr.units) rel_ne (dc (d__law_kin Z) hr (by decide) (pass_own (takes_of rfl rfl rfl rfl)) (da_cons (dv 0) da_nil) (lenA_cons lenA_nil)) (de_lc0 (own := [("_law_at", 2)]) s0 H sc__law_stands_right.nd (di_range1 Z.b_range (da_cons de_int da_nil)) (blkOk_by (N := ["_law_error", "_law_place", "_law_at"]) (sc := defScope st__law_stands_right) (own := [("_law_at", 2)]) (by decide +kernel)) (fun _ _ _ _ _ => dg_name (i := 2) sc__law_stands_right.nd) dts_nil (de_cmp (op_eqD hr.units) rel_eq (dv 1) (dv 2)) (fun _ _ _ _ _ => dts_nil) (fun _ _ _ _ _ => (de_cmp (op_eqD hr.units) rel_eq (dv 1) (dv 2))) wipe_name)) (dss_cons (ds_ret de_bl)
  dss_nil) dss_nil)
  (dss_cons (ds_if (dw_or (dt_not (dt_tru (de_isWo tab_SayError Z.t_SayError Z.b_isinstance (dv 0) Z.g_SayError))) (dw_or1 (dt_not (dt_tru (de_isWb tab_ValueError Z.t_ValueError Z.b_isinstance (dv 0) Z.b_ValueError))))).dt (dss_cons (ds_ret de_bl)
  dss_nil) dss_nil)
  (dss_cons (ds_if (dt_cmp (op_neD hr.units) rel_ne (de_isWo tab_Missing Z.t_Missing Z.b_isinstance (dv 0) Z.g_Missing) (de_chain op_leD rel_ord op_ltD rel_ord de_int (dv 1) de_int)) (dss_cons (ds_ret de_bl)
  dss_nil) dss_nil)
  (dss_cons (ds_if (dw_or (dt_tru (de_isWb tab_LookupError Z.t_LookupError Z.b_isinstance (dv 0) Z.b_LookupError)) (dw_or (dt_tru (de_isWb tab_TypeError Z.t_TypeError Z.b_isinstance (dv 0) Z.b_TypeError)) (dw_or1 (dt_tru (de_isWb tab_ArithmeticError Z.t_ArithmeticError Z.b_isinstance (dv 0) Z.b_ArithmeticError))))).dt (dss_cons (ds_ret de_bl)
  dss_nil) dss_nil)
  (dss_cons (ds_ret (de_and (de_not (de_isWb tab_RuntimeError Z.t_RuntimeError Z.b_isinstance (dv 0) Z.b_RuntimeError)) (de_one (de_not (de_isWb tab_AttributeError Z.t_AttributeError Z.b_isinstance (dv 0) Z.b_AttributeError)))))
  dss_nil)))))⟩
theorem sc__law_fields : FnScope ["_law_error", "_law_place"] ["_law_error", "_law_place"] (defScope st__law_fields) := ⟨rfl, rfl, rfl, by decide +kernel, rfl, by decide +kernel, by decide +kernel⟩
theorem d__law_fields (Z : Facts K mg) : DefOk P w K mg base "_law_fields" 1 2 f__law_fields := by
  obtain ⟨fd, F⟩ := Z.p__law_fields
  exact def_okF ["_law_error", "_law_place"] s__law_fields F Z.m__law_fields sc__law_fields rfl (fun _ _ _ _ _ _ us hl => match us, hl with | [_, _], _ => rfl) rfl fun cdv A outer s0 H E hr => ⟨_, (dss_cons (ds_if (dt_cmp op_ltD rel_ord (dv 1) de_int) (dss_cons (ds_ret (de_lst (da_cons (de_xv cs_part Z.x_part (dv 0)) da_nil)))
  dss_nil) dss_nil)
  (dss_cons (ds_if (dt_cmp op_ltD rel_ord (dv 1) de_int) (dss_cons (ds_ret (de_lst (da_cons (de_xv cs_name Z.x_name (dv 0)) da_nil)))
  dss_nil) dss_nil)
  (dss_cons (ds_if (dt_cmp op_ltD rel_ord (dv 1) de_int) (dss_cons (ds_ret (de_lst (da_cons (de_xv cs_what Z.x_what (dv 0)) da_nil)))
  dss_nil) dss_nil)
  (dss_cons (ds_if (dt_cmp op_ltD rel_ord (dv 1) de_int) (dss_cons (ds_ret (de_if (dt_cmp (op_eqD hr.units) rel_eq (dv 1) de_int) (de_lst (da_cons (de_xv cs_way Z.x_way (dv 0)) (da_cons (de_xv cs_kind Z.x_kind (dv 0)) da_nil))) (de_lst (da_cons (de_xv cs_what Z.x_what (dv 0)) (da_cons (de_xv cs_most Z.x_most (dv 0)) da_nil)))))
  dss_nil) dss_nil)
  (dss_cons (ds_if (dt_cmp op_ltD rel_ord (dv 1) de_int) (dss_cons (ds_ret (de_if (dt_cmp (op_eqD hr.units) rel_eq (dv 1) de_int) (de_lst (da_cons (de_xv cs_line Z.x_line (dv 0)) (da_cons (de_xv cs_word Z.x_word (dv 0)) da_nil))) (de_lst (da_cons (de_xv cs_line Z.x_line (dv 0)) (da_cons (de_xv cs_error Z.x_error (dv 0)) da_nil)))))
  dss_nil) dss_nil)
  (dss_cons (ds_ret (de_lst da_nil))
  dss_nil))))))⟩
theorem sc__law_all_right : FnScope ["_law_one", "_law_two", "_law_made", "_law_place", "_law_error", "_law_due"] ["_law_one", "_law_two", "_law_made"] (defScope st__law_all_right) := ⟨rfl, rfl, rfl, by decide +kernel, rfl, by decide +kernel, by decide +kernel⟩
theorem d__law_all_right (hS : SysD base) (Z : Facts K mg) : DefOkG P w K mg base "_law_all_right" 3 3 f__law_all_right := by
  obtain ⟨fd, F⟩ := Z.p__law_all_right
  exact defG_okF ["_law_one", "_law_two", "_law_made", "_law_place", "_law_error", "_law_due"] s__law_all_right F Z.m__law_all_right sc__law_all_right rfl (fun _ _ _ _ _ _ us hl => match us, hl with | [_, _, _], _ => rfl) rfl fun cdv A outer s0 H E hG hr => ⟨_, (dss_cons (ds_for (passes_of rfl) (di_enum Z.b_enumerate (dv 2)) (dg_tup (dgs_cons (dg_name (i := 3) sc__law_all_right.nd) (dgs_cons (dg_name (i := 4) sc__law_all_right.nd) dgs_nil))) (dss_cons (ds_set (i := 5) (de_if (dt_cmp op_ltD rel_ord (dv 3) de_int) (de_lst (da_cons (dv 0) da_nil)) (de_if (dt_cmp op_ltD rel_ord (dv 3) de_int) (de_lst (da_cons (dv 0) (da_cons (dv 1) da_nil))) (de_lst da_nil))) sc__law_all_right.nd)
  (dss_cons (ds_if (dw_or (dt_cmp (op_neD hr.units) rel_ne (de_callB1 (call_reprZ hG hr.units hS) rel_reprZ Z.b_repr (by decide +kernel) (dc (d__law_fields Z) hr (by decide) (pass_own (takes_of rfl rfl rfl rfl)) (da_cons (dv 4) (da_cons (dv 3) da_nil)) (lenA_cons (lenA_cons lenA_nil)))) (de_callB1 (call_reprZ hG hr.units hS) rel_reprZ Z.b_repr (by decide +kernel) (dv 5))) (dw_or1 (dt_not (dt_tru (dc (d__law_stands_right Z) hr (by decide) (pass_own (takes_of rfl rfl rfl rfl)) (da_cons (dv 4) (da_cons (dv 3) da_nil)) (lenA_cons (lenA_cons lenA_nil))))))).dt (dss_cons (ds_ret de_bl)
  dss_nil) dss_nil)
  dss_nil)))
  (dss_cons (ds_ret (de_cmp (op_eqD hr.units) rel_eq (de_callB1 call_lenE rel_len Z.b_len (by decide +kernel) (dv 2)) de_int))
  dss_nil))⟩
theorem sc__law_parts : FnScope ["_law_part", "_law_made"] ["_law_part"] (defScope st__law_parts) := ⟨rfl, rfl, rfl, by decide +kernel, rfl, by decide +kernel, by decide +kernel⟩
theorem d__law_parts (Z : Facts K mg) : DefOk P w K mg base "_law_parts" 3 1 f__law_parts := by
  obtain ⟨fd, F⟩ := Z.p__law_parts
  exact def_okF ["_law_part", "_law_made"] s__law_parts F Z.m__law_parts sc__law_parts rfl (fun _ _ _ _ _ _ us hl => match us, hl with | [_], _ => rfl) rfl fun cdv A outer s0 H E hr => ⟨_, (dss_cons (ds_set (i := 1) (de_lst (da_cons (de_oex (names := ["part"]) Z.e_BadRoom.T Z.e_BadRoom.iC Z.e_BadRoom.tI (i_BadRoom Z).choose_spec.choose_spec (hr.mono (by decide)) (i_BadRoom Z).choose_spec.choose Z.g_BadRoom (da_cons (dv 0) da_nil) (by decide)) (da_cons (de_oexK (names := ["part"]) turn_id Z.e_BadDeed.T Z.e_BadDeed.iC Z.e_BadDeed.tI (ik_BadDeed_part Z).choose_spec.2 (hr.mono (by decide)) (ik_BadDeed_part Z).choose_spec.1 Z.g_BadDeed (dk_cons (dv 0) dk_nil) rfl) (da_cons (de_oex (names := ["part"]) Z.e_BadLoose.T Z.e_BadLoose.iC Z.e_BadLoose.tI (i_BadLoose Z).choose_spec.choose_spec (hr.mono (by decide)) (i_BadLoose Z).choose_spec.choose Z.g_BadLoose (da_cons (dv 0) da_nil) (by decide)) (da_cons (de_oexK (names := ["part"]) turn_id Z.e_BadSaying.T Z.e_BadSaying.iC Z.e_BadSaying.tI (ik_BadSaying_part Z).choose_spec.2 (hr.mono (by decide)) (ik_BadSaying_part Z).choose_spec.1 Z.g_BadSaying (dk_cons (dv 0) dk_nil) rfl) (da_cons (de_oex (names := ["part"]) Z.e_BadBook.T Z.e_BadBook.iC Z.e_BadBook.tI (i_BadBook Z).choose_spec.choose_spec (hr.mono (by decide)) (i_BadBook Z).choose_spec.choose Z.g_BadBook (da_cons (dv 0) da_nil) (by decide)) da_nil)))))) sc__law_parts.nd)
  (dss_cons (ds_set (i := 1) (de_bin op_addD rel_add (dv 1) (de_lst (da_cons (de_oexK (names := ["part"]) turn_id Z.e_BadPlace.T Z.e_BadPlace.iC Z.e_BadPlace.tI (ik_BadPlace_part Z).choose_spec.2 (hr.mono (by decide)) (ik_BadPlace_part Z).choose_spec.1 Z.g_BadPlace (dk_cons (dv 0) dk_nil) rfl) (da_cons (de_oex (names := ["part"]) Z.e_BadTie.T Z.e_BadTie.iC Z.e_BadTie.tI (i_BadTie Z).choose_spec.choose_spec (hr.mono (by decide)) (i_BadTie Z).choose_spec.choose Z.g_BadTie (da_cons (dv 0) da_nil) (by decide)) (da_cons (de_oexK (names := ["part"]) turn_id Z.e_BadPriced.T Z.e_BadPriced.iC Z.e_BadPriced.tI (ik_BadPriced_part Z).choose_spec.2 (hr.mono (by decide)) (ik_BadPriced_part Z).choose_spec.1 Z.g_BadPriced (dk_cons (dv 0) dk_nil) rfl) (da_cons (de_oex (names := ["part"]) Z.e_BadTalk.T Z.e_BadTalk.iC Z.e_BadTalk.tI (i_BadTalk Z).choose_spec.choose_spec (hr.mono (by decide)) (i_BadTalk Z).choose_spec.choose Z.g_BadTalk (da_cons (dv 0) da_nil) (by decide)) da_nil)))))) sc__law_parts.nd)
  (dss_cons (ds_ret (de_bin op_addD rel_add (dv 1) (de_lst (da_cons (de_oexK (names := ["part"]) turn_id Z.e_BadTeller.T Z.e_BadTeller.iC Z.e_BadTeller.tI (ik_BadTeller_part Z).choose_spec.2 (hr.mono (by decide)) (ik_BadTeller_part Z).choose_spec.1 Z.g_BadTeller (dk_cons (dv 0) dk_nil) rfl) (da_cons (de_oex (names := ["part"]) Z.e_BadTranslation.T Z.e_BadTranslation.iC Z.e_BadTranslation.tI (i_BadTranslation Z).choose_spec.choose_spec (hr.mono (by decide)) (i_BadTranslation Z).choose_spec.choose Z.g_BadTranslation (da_cons (dv 0) da_nil) (by decide)) (da_cons (de_oexK (names := ["part"]) turn_id Z.e_BadNumbers.T Z.e_BadNumbers.iC Z.e_BadNumbers.tI (ik_BadNumbers_part Z).choose_spec.2 (hr.mono (by decide)) (ik_BadNumbers_part Z).choose_spec.1 Z.g_BadNumbers (dk_cons (dv 0) dk_nil) rfl) da_nil))))))
  dss_nil)))⟩
theorem sc__law_others : FnScope ["_law_one", "_law_two", "_law_made"] ["_law_one", "_law_two"] (defScope st__law_others) := ⟨rfl, rfl, rfl, by decide +kernel, rfl, by decide +kernel, by decide +kernel⟩
theorem d__law_others (Z : Facts K mg) : DefOk P w K mg base "_law_others" 3 2 f__law_others := by
  obtain ⟨fd, F⟩ := Z.p__law_others
  exact def_okF ["_law_one", "_law_two", "_law_made"] s__law_others F Z.m__law_others sc__law_others rfl (fun _ _ _ _ _ _ us hl => match us, hl with | [_, _], _ => rfl) rfl fun cdv A outer s0 H E hr => ⟨_, (dss_cons (ds_set (i := 2) (de_lst (da_cons (de_oex (names := ["name"]) Z.e_NoThing.T Z.e_NoThing.iC Z.e_NoThing.tI (i_NoThing Z).choose_spec.choose_spec (hr.mono (by decide)) (i_NoThing Z).choose_spec.choose Z.g_NoThing (da_cons (dv 0) da_nil) (by decide)) (da_cons (de_oex (names := ["name"]) Z.e_NoWord.T Z.e_NoWord.iC Z.e_NoWord.tI (i_NoWord Z).choose_spec.choose_spec (hr.mono (by decide)) (i_NoWord Z).choose_spec.choose Z.g_NoWord (da_cons (dv 0) da_nil) (by decide)) (da_cons (de_oex (names := ["name"]) Z.e_NoLink.T Z.e_NoLink.iC Z.e_NoLink.tI (i_NoLink Z).choose_spec.choose_spec (hr.mono (by decide)) (i_NoLink Z).choose_spec.choose Z.g_NoLink (da_cons (dv 0) da_nil) (by decide)) (da_cons (de_oex (names := ["name"]) Z.e_NoScale.T Z.e_NoScale.iC Z.e_NoScale.tI (i_NoScale Z).choose_spec.choose_spec (hr.mono (by decide)) (i_NoScale Z).choose_spec.choose Z.g_NoScale (da_cons (dv 0) da_nil) (by decide)) (da_cons (de_oex (names := ["name"]) Z.e_NoWay.T Z.e_NoWay.iC Z.e_NoWay.tI (i_NoWay Z).choose_spec.choose_spec (hr.mono (by decide)) (i_NoWay Z).choose_spec.choose Z.g_NoWay (da_cons (dv 0) da_nil) (by decide)) (da_cons (de_oex (names := ["name"]) Z.e_NoName.T Z.e_NoName.iC Z.e_NoName.tI (i_NoName Z).choose_spec.choose_spec (hr.mono (by decide)) (i_NoName Z).choose_spec.choose Z.g_NoName (da_cons (dv 0) da_nil) (by decide)) da_nil))))))) sc__law_others.nd)
  (dss_cons (ds_set (i := 2) (de_bin op_addD rel_add (dv 2) (de_lst (da_cons (de_oex (names := ["name"]) Z.e_Twice.T Z.e_Twice.iC Z.e_Twice.tI (i_Twice Z).choose_spec.choose_spec (hr.mono (by decide)) (i_Twice Z).choose_spec.choose Z.g_Twice (da_cons (dv 0) da_nil) (by decide)) (da_cons (de_oex (names := ["what"]) Z.e_Unlike.T Z.e_Unlike.iC Z.e_Unlike.tI (i_Unlike Z).choose_spec.choose_spec (hr.mono (by decide)) (i_Unlike Z).choose_spec.choose Z.g_Unlike (da_cons (dv 0) da_nil) (by decide)) (da_cons (de_oex (names := ["way", "kind"]) Z.e_NotLet.T Z.e_NotLet.iC Z.e_NotLet.tI (i_NotLet Z).choose_spec.choose_spec (hr.mono (by decide)) (i_NotLet Z).choose_spec.choose Z.g_NotLet (da_cons (dv 0) (da_cons (dv 1) da_nil)) (by decide)) (da_cons (de_oex (names := ["what", "most"]) Z.e_TooMany.T Z.e_TooMany.iC Z.e_TooMany.tI (i_TooMany Z).choose_spec.choose_spec (hr.mono (by decide)) (i_TooMany Z).choose_spec.choose Z.g_TooMany (da_cons (dv 0) (da_cons (dv 1) da_nil)) (by decide)) da_nil)))))) sc__law_others.nd)
  (dss_cons (ds_ret (de_bin op_addD rel_add (dv 2) (de_lst (da_cons (de_oex (names := ["line", "word"]) Z.e_BadText.T Z.e_BadText.iC Z.e_BadText.tI (i_BadText Z).choose_spec.choose_spec (hr.mono (by decide)) (i_BadText Z).choose_spec.choose Z.g_BadText (da_cons (dv 0) (da_cons (dv 1) da_nil)) (by decide)) (da_cons (de_oex (names := ["line", "error"]) Z.e_BadLine.T Z.e_BadLine.iC Z.e_BadLine.tI (i_BadLine Z).choose_spec.choose_spec (hr.mono (by decide)) (i_BadLine Z).choose_spec.choose Z.g_BadLine (da_cons (dv 0) (da_cons (dv 1) da_nil)) (by decide)) (da_cons (de_ex0 PySem.F.excBase_ValueError Z.z_Nothing.1 Z.g_Nothing Z.z_Nothing.2) da_nil))))))
  dss_nil)))⟩
theorem sc__law_parts_turned : FnScope ["_law_part", "_law_made"] ["_law_part"] (defScope st__law_parts_turned) := ⟨rfl, rfl, rfl, by decide +kernel, rfl, by decide +kernel, by decide +kernel⟩
theorem d__law_parts_turned (Z : Facts K mg) : DefOk P w K mg base "_law_parts_turned" 3 1 f__law_parts_turned := by
  obtain ⟨fd, F⟩ := Z.p__law_parts_turned
  exact def_okF ["_law_part", "_law_made"] s__law_parts_turned F Z.m__law_parts_turned sc__law_parts_turned rfl (fun _ _ _ _ _ _ us hl => match us, hl with | [_], _ => rfl) rfl fun cdv A outer s0 H E hr => ⟨_, (dss_cons (ds_set (i := 1) (de_lst (da_cons (de_oexK (names := ["part"]) turn_id Z.e_BadRoom.T Z.e_BadRoom.iC Z.e_BadRoom.tI (ik_BadRoom_part Z).choose_spec.2 (hr.mono (by decide)) (ik_BadRoom_part Z).choose_spec.1 Z.g_BadRoom (dk_cons (dv 0) dk_nil) rfl) (da_cons (de_oex (names := ["part"]) Z.e_BadDeed.T Z.e_BadDeed.iC Z.e_BadDeed.tI (i_BadDeed Z).choose_spec.choose_spec (hr.mono (by decide)) (i_BadDeed Z).choose_spec.choose Z.g_BadDeed (da_cons (dv 0) da_nil) (by decide)) (da_cons (de_oexK (names := ["part"]) turn_id Z.e_BadLoose.T Z.e_BadLoose.iC Z.e_BadLoose.tI (ik_BadLoose_part Z).choose_spec.2 (hr.mono (by decide)) (ik_BadLoose_part Z).choose_spec.1 Z.g_BadLoose (dk_cons (dv 0) dk_nil) rfl) (da_cons (de_oex (names := ["part"]) Z.e_BadSaying.T Z.e_BadSaying.iC Z.e_BadSaying.tI (i_BadSaying Z).choose_spec.choose_spec (hr.mono (by decide)) (i_BadSaying Z).choose_spec.choose Z.g_BadSaying (da_cons (dv 0) da_nil) (by decide)) (da_cons (de_oexK (names := ["part"]) turn_id Z.e_BadBook.T Z.e_BadBook.iC Z.e_BadBook.tI (ik_BadBook_part Z).choose_spec.2 (hr.mono (by decide)) (ik_BadBook_part Z).choose_spec.1 Z.g_BadBook (dk_cons (dv 0) dk_nil) rfl) da_nil)))))) sc__law_parts_turned.nd)
  (dss_cons (ds_set (i := 1) (de_bin op_addD rel_add (dv 1) (de_lst (da_cons (de_oex (names := ["part"]) Z.e_BadPlace.T Z.e_BadPlace.iC Z.e_BadPlace.tI (i_BadPlace Z).choose_spec.choose_spec (hr.mono (by decide)) (i_BadPlace Z).choose_spec.choose Z.g_BadPlace (da_cons (dv 0) da_nil) (by decide)) (da_cons (de_oexK (names := ["part"]) turn_id Z.e_BadTie.T Z.e_BadTie.iC Z.e_BadTie.tI (ik_BadTie_part Z).choose_spec.2 (hr.mono (by decide)) (ik_BadTie_part Z).choose_spec.1 Z.g_BadTie (dk_cons (dv 0) dk_nil) rfl) (da_cons (de_oex (names := ["part"]) Z.e_BadPriced.T Z.e_BadPriced.iC Z.e_BadPriced.tI (i_BadPriced Z).choose_spec.choose_spec (hr.mono (by decide)) (i_BadPriced Z).choose_spec.choose Z.g_BadPriced (da_cons (dv 0) da_nil) (by decide)) (da_cons (de_oexK (names := ["part"]) turn_id Z.e_BadTalk.T Z.e_BadTalk.iC Z.e_BadTalk.tI (ik_BadTalk_part Z).choose_spec.2 (hr.mono (by decide)) (ik_BadTalk_part Z).choose_spec.1 Z.g_BadTalk (dk_cons (dv 0) dk_nil) rfl) da_nil)))))) sc__law_parts_turned.nd)
  (dss_cons (ds_ret (de_bin op_addD rel_add (dv 1) (de_lst (da_cons (de_oex (names := ["part"]) Z.e_BadTeller.T Z.e_BadTeller.iC Z.e_BadTeller.tI (i_BadTeller Z).choose_spec.choose_spec (hr.mono (by decide)) (i_BadTeller Z).choose_spec.choose Z.g_BadTeller (da_cons (dv 0) da_nil) (by decide)) (da_cons (de_oexK (names := ["part"]) turn_id Z.e_BadTranslation.T Z.e_BadTranslation.iC Z.e_BadTranslation.tI (ik_BadTranslation_part Z).choose_spec.2 (hr.mono (by decide)) (ik_BadTranslation_part Z).choose_spec.1 Z.g_BadTranslation (dk_cons (dv 0) dk_nil) rfl) (da_cons (de_oex (names := ["part"]) Z.e_BadNumbers.T Z.e_BadNumbers.iC Z.e_BadNumbers.tI (i_BadNumbers Z).choose_spec.choose_spec (hr.mono (by decide)) (i_BadNumbers Z).choose_spec.choose Z.g_BadNumbers (da_cons (dv 0) da_nil) (by decide)) da_nil))))))
  dss_nil)))⟩
theorem sc__law_others_named : FnScope ["_law_one", "_law_two", "_law_made"] ["_law_one", "_law_two"] (defScope st__law_others_named) := ⟨rfl, rfl, rfl, by decide +kernel, rfl, by decide +kernel, by decide +kernel⟩
theorem d__law_others_named (Z : Facts K mg) : DefOk P w K mg base "_law_others_named" 3 2 f__law_others_named := by
  obtain ⟨fd, F⟩ := Z.p__law_others_named
  exact def_okF ["_law_one", "_law_two", "_law_made"] s__law_others_named F Z.m__law_others_named sc__law_others_named rfl (fun _ _ _ _ _ _ us hl => match us, hl with | [_, _], _ => rfl) rfl fun cdv A outer s0 H E hr => ⟨_, (dss_cons (ds_set (i := 2) (de_lst (da_cons (de_oexK (names := ["name"]) turn_id Z.e_NoThing.T Z.e_NoThing.iC Z.e_NoThing.tI (ik_NoThing_name Z).choose_spec.2 (hr.mono (by decide)) (ik_NoThing_name Z).choose_spec.1 Z.g_NoThing (dk_cons (dv 0) dk_nil) rfl) (da_cons (de_oexK (names := ["name"]) turn_id Z.e_NoWord.T Z.e_NoWord.iC Z.e_NoWord.tI (ik_NoWord_name Z).choose_spec.2 (hr.mono (by decide)) (ik_NoWord_name Z).choose_spec.1 Z.g_NoWord (dk_cons (dv 0) dk_nil) rfl) (da_cons (de_oexK (names := ["name"]) turn_id Z.e_NoLink.T Z.e_NoLink.iC Z.e_NoLink.tI (ik_NoLink_name Z).choose_spec.2 (hr.mono (by decide)) (ik_NoLink_name Z).choose_spec.1 Z.g_NoLink (dk_cons (dv 0) dk_nil) rfl) (da_cons (de_oexK (names := ["name"]) turn_id Z.e_NoScale.T Z.e_NoScale.iC Z.e_NoScale.tI (ik_NoScale_name Z).choose_spec.2 (hr.mono (by decide)) (ik_NoScale_name Z).choose_spec.1 Z.g_NoScale (dk_cons (dv 0) dk_nil) rfl) (da_cons (de_oexK (names := ["name"]) turn_id Z.e_NoWay.T Z.e_NoWay.iC Z.e_NoWay.tI (ik_NoWay_name Z).choose_spec.2 (hr.mono (by decide)) (ik_NoWay_name Z).choose_spec.1 Z.g_NoWay (dk_cons (dv 0) dk_nil) rfl) da_nil)))))) sc__law_others_named.nd)
  (dss_cons (ds_set (i := 2) (de_bin op_addD rel_add (dv 2) (de_lst (da_cons (de_oexK (names := ["name"]) turn_id Z.e_NoName.T Z.e_NoName.iC Z.e_NoName.tI (ik_NoName_name Z).choose_spec.2 (hr.mono (by decide)) (ik_NoName_name Z).choose_spec.1 Z.g_NoName (dk_cons (dv 0) dk_nil) rfl) (da_cons (de_oexK (names := ["name"]) turn_id Z.e_Twice.T Z.e_Twice.iC Z.e_Twice.tI (ik_Twice_name Z).choose_spec.2 (hr.mono (by decide)) (ik_Twice_name Z).choose_spec.1 Z.g_Twice (dk_cons (dv 0) dk_nil) rfl) (da_cons (de_oexK (names := ["what"]) turn_id Z.e_Unlike.T Z.e_Unlike.iC Z.e_Unlike.tI (ik_Unlike_what Z).choose_spec.2 (hr.mono (by decide)) (ik_Unlike_what Z).choose_spec.1 Z.g_Unlike (dk_cons (dv 0) dk_nil) rfl) da_nil))))) sc__law_others_named.nd)
  (dss_cons (ds_set (i := 2) (de_bin op_addD rel_add (dv 2) (de_lst (da_cons (de_oexK (names := ["way", "kind"]) turn_swap Z.e_NotLet.T Z.e_NotLet.iC Z.e_NotLet.tI (ik_NotLet_kind_way Z).choose_spec.2 (hr.mono (by decide)) (ik_NotLet_kind_way Z).choose_spec.1 Z.g_NotLet (dk_cons (dv 1) (dk_cons (dv 0) dk_nil)) rfl) (da_cons (de_oexK (names := ["what", "most"]) turn_swap Z.e_TooMany.T Z.e_TooMany.iC Z.e_TooMany.tI (ik_TooMany_most_what Z).choose_spec.2 (hr.mono (by decide)) (ik_TooMany_most_what Z).choose_spec.1 Z.g_TooMany (dk_cons (dv 1) (dk_cons (dv 0) dk_nil)) rfl) (da_cons (de_oexK (names := ["line", "word"]) turn_swap Z.e_BadText.T Z.e_BadText.iC Z.e_BadText.tI (ik_BadText_word_line Z).choose_spec.2 (hr.mono (by decide)) (ik_BadText_word_line Z).choose_spec.1 Z.g_BadText (dk_cons (dv 1) (dk_cons (dv 0) dk_nil)) rfl) da_nil))))) sc__law_others_named.nd)
  (dss_cons (ds_ret (de_bin op_addD rel_add (dv 2) (de_lst (da_cons (de_oexK (names := ["line", "error"]) turn_swap Z.e_BadLine.T Z.e_BadLine.iC Z.e_BadLine.tI (ik_BadLine_error_line Z).choose_spec.2 (hr.mono (by decide)) (ik_BadLine_error_line Z).choose_spec.1 Z.g_BadLine (dk_cons (dv 1) (dk_cons (dv 0) dk_nil)) rfl) (da_cons (de_ex0 PySem.F.excBase_ValueError Z.z_Nothing.1 Z.g_Nothing Z.z_Nothing.2) da_nil)))))
  dss_nil))))⟩
theorem sc_law : FnScope ["_law_script", "_law_jar_here", "_law_number", "_law_plain", "_law_error", "_law_one", "_law_two"] ["_law_script"] (defScope st_law) := ⟨rfl, rfl, rfl, by decide +kernel, rfl, by decide +kernel, by decide +kernel⟩
theorem d_law (hS : SysD base) {fd : FuncData} (F : FnP K "law" st_law (He.ga K "law") fd) (Z : Facts K mg) : GOk P w K mg base 4 (He.ga K "law") fd ["_law_script"] (Spec K 1 f_law) :=
  defG_raw ["_law_script", "_law_jar_here", "_law_number", "_law_plain", "_law_error", "_law_one", "_law_two"] s_law F sc_law rfl rfl fun cdv A outer s0 H E hG hr => ⟨_, (dss_cons (ds_set (i := 1) (dc (d__law_jar Z) hr (by decide) (pass_own (takes_of rfl rfl rfl rfl)) (da_cons (dv 0) da_nil) (lenA_cons lenA_nil)) sc_law.nd)
  (dss_cons (ds_set (i := 2) (de_bin op_mulD rel_mul (dc (d__law_some Z) hr (by decide) (pass_own (takes_of rfl rfl rfl rfl)) (da_cons (dv 1) (da_cons (de_lst (da_cons de_int (da_cons (de_neg de_int) da_nil))) da_nil)) (lenA_cons (lenA_cons lenA_nil))) (dc (d__law_dip Z) hr (by decide) (pass_own (takes_of rfl rfl rfl rfl)) (da_cons (dv 1) (da_cons (de_bin op_pow rel_pow de_int de_int) da_nil)) (lenA_cons (lenA_cons lenA_nil)))) sc_law.nd)
  (dss_cons (ds_set (i := 3) (de_lst (da_cons de_non (da_cons de_bl (da_cons (dv 2) (da_cons de_str (da_cons de_str (da_cons (de_tup (da_cons de_str (da_cons de_int da_nil))) (da_cons (de_lst (da_cons (dv 2) da_nil)) (da_cons (de_disp (dp_str (de_lst (da_cons de_int da_nil)) dp_nil)) da_nil))))))))) sc_law.nd)
  (dss_cons (ds_par (i := 5) (j := 6) sc_law.nd (da_cons (dc (d__law_some Z) hr (by decide) (pass_own (takes_of rfl rfl rfl rfl)) (da_cons (dv 1) (da_cons (dv 3) da_nil)) (lenA_cons (lenA_cons lenA_nil))) (da_cons (dc (d__law_some Z) hr (by decide) (pass_own (takes_of rfl rfl rfl rfl)) (da_cons (dv 1) (da_cons (de_lst (da_cons de_int (da_cons de_bl (da_cons de_str (da_cons (de_lst da_nil) (da_cons (de_tup da_nil) (da_cons (de_disp (dp_int de_int dp_nil)) (da_cons (de_bin op_addD rel_add (dv 2) de_int) (da_cons de_non da_nil))))))))) da_nil)) (lenA_cons (lenA_cons lenA_nil))) da_nil)))
  (dss_cons (ds_if (dt_not (dt_tru (dcG (d__law_all_right hS Z) hG hr (by decide) (pass_own (takes_of rfl rfl rfl rfl)) (da_cons (dv 5) (da_cons (dv 6) (da_cons (de_bin op_addD rel_add (dc (d__law_parts Z) hr (by decide) (pass_own (takes_of rfl rfl rfl rfl)) (da_cons (dv 5) da_nil) (lenA_cons lenA_nil)) (dc (d__law_others Z) hr (by decide) (pass_own (takes_of rfl rfl rfl rfl)) (da_cons (dv 5) (da_cons (dv 6) da_nil)) (lenA_cons (lenA_cons lenA_nil)))) da_nil))) (lenA_cons (lenA_cons (lenA_cons lenA_nil)))))) (dss_cons (ds_ret de_bl)
  dss_nil) dss_nil)
  (dss_cons (ds_if (dt_not (dt_tru (dcG (d__law_all_right hS Z) hG hr (by decide) (pass_own (takes_of rfl rfl rfl rfl)) (da_cons (dv 5) (da_cons (dv 6) (da_cons (de_bin op_addD rel_add (dc (d__law_parts_turned Z) hr (by decide) (pass_own (takes_of rfl rfl rfl rfl)) (da_cons (dv 5) da_nil) (lenA_cons lenA_nil)) (dc (d__law_others_named Z) hr (by decide) (pass_own (takes_of rfl rfl rfl rfl)) (da_cons (dv 5) (da_cons (dv 6) da_nil)) (lenA_cons (lenA_cons lenA_nil)))) da_nil))) (lenA_cons (lenA_cons (lenA_cons lenA_nil)))))) (dss_cons (ds_ret de_bl)
  dss_nil) dss_nil)
  (dss_cons (ds_for (passes_of rfl) (di_any (de_lst (da_cons (de_oex (names := ["name"]) Z.e_Missing.T Z.e_Missing.iC Z.e_Missing.tI (i_Missing Z).choose_spec.choose_spec (hr.mono (by decide)) (i_Missing Z).choose_spec.choose Z.g_Missing (da_cons (dv 5) da_nil) (by decide)) (da_cons (de_oexK (names := ["name"]) turn_id Z.e_Missing.T Z.e_Missing.iC Z.e_Missing.tI (ik_Missing_name Z).choose_spec.2 (hr.mono (by decide)) (ik_Missing_name Z).choose_spec.1 Z.g_Missing (dk_cons (dv 5) dk_nil) rfl) da_nil)))) (dg_name (i := 4) sc_law.nd) (dss_cons (ds_if (dw_or (dt_cmp (op_neD hr.units) rel_ne (de_callB1 (call_reprZ hG hr.units hS) rel_reprZ Z.b_repr (by decide +kernel) (de_xv cs_name Z.x_name (dv 4))) (de_callB1 (call_reprZ hG hr.units hS) rel_reprZ Z.b_repr (by decide +kernel) (dv 5))) (dw_or1 (dt_cmp op_inD (rel_in false) de_bl (dc (d__law_kin Z) hr (by decide) (pass_own (takes_of rfl rfl rfl rfl)) (da_cons (dv 4) da_nil) (lenA_cons lenA_nil))))).dt (dss_cons (ds_ret de_bl)
  dss_nil) dss_nil)
  (dss_cons (ds_if (dw_or (dt_not (dt_tru (de_isWo tab_SayError Z.t_SayError Z.b_isinstance (dv 4) Z.g_SayError))) (dw_or1 (dt_not (dt_tru (de_isWb tab_ValueError Z.t_ValueError Z.b_isinstance (dv 4) Z.b_ValueError))))).dt (dss_cons (ds_ret de_bl)
  dss_nil) dss_nil)
  dss_nil)))
  (dss_cons (ds_ret de_bl)
  dss_nil))))))))⟩
end
/-! ### the head -/
def dd__law_jar : He.DefD := ⟨("_law_jar", none), "_law_jar", "_law_jar", defArgs st__law_jar, defBody st__law_jar, defScope st__law_jar, [], []⟩
def dd__law_dip : He.DefD := ⟨("_law_dip", none), "_law_dip", "_law_dip", defArgs st__law_dip, defBody st__law_dip, defScope st__law_dip, [], []⟩
def dd__law_some : He.DefD := ⟨("_law_some", none), "_law_some", "_law_some", defArgs st__law_some, defBody st__law_some, defScope st__law_some, [], []⟩
def dd__law_kin : He.DefD := ⟨("_law_kin", none), "_law_kin", "_law_kin", defArgs st__law_kin, defBody st__law_kin, defScope st__law_kin, [], []⟩
def dd__law_stands_right : He.DefD := ⟨("_law_stands_right", none), "_law_stands_right", "_law_stands_right", defArgs st__law_stands_right, defBody st__law_stands_right, defScope st__law_stands_right, [], []⟩
def dd__law_fields : He.DefD := ⟨("_law_fields", none), "_law_fields", "_law_fields", defArgs st__law_fields, defBody st__law_fields, defScope st__law_fields, [], []⟩
def dd__law_all_right : He.DefD := ⟨("_law_all_right", none), "_law_all_right", "_law_all_right", defArgs st__law_all_right, defBody st__law_all_right, defScope st__law_all_right, [], []⟩
def dd__law_parts : He.DefD := ⟨("_law_parts", none), "_law_parts", "_law_parts", defArgs st__law_parts, defBody st__law_parts, defScope st__law_parts, [], []⟩
def dd__law_others : He.DefD := ⟨("_law_others", none), "_law_others", "_law_others", defArgs st__law_others, defBody st__law_others, defScope st__law_others, [], []⟩
def dd__law_parts_turned : He.DefD := ⟨("_law_parts_turned", none), "_law_parts_turned", "_law_parts_turned", defArgs st__law_parts_turned, defBody st__law_parts_turned, defScope st__law_parts_turned, [], []⟩
def dd__law_others_named : He.DefD := ⟨("_law_others_named", none), "_law_others_named", "_law_others_named", defArgs st__law_others_named, defBody st__law_others_named, defScope st__law_others_named, [], []⟩
def dd_law : He.DefD := ⟨("law", none), "law", "law", defArgs st_law, defBody st_law, defScope st_law, [], []⟩
def di_BadBook : He.DefD := ⟨("BadBook", some "__init__"), "__init__", "BadBook.__init__", defArgs si_BadBook, defBody si_BadBook, defScope si_BadBook, [], []⟩
def di_BadSaying : He.DefD := ⟨("BadSaying", some "__init__"), "__init__", "BadSaying.__init__", defArgs si_BadSaying, defBody si_BadSaying, defScope si_BadSaying, [], []⟩
def di_BadLoose : He.DefD := ⟨("BadLoose", some "__init__"), "__init__", "BadLoose.__init__", defArgs si_BadLoose, defBody si_BadLoose, defScope si_BadLoose, [], []⟩
def di_BadDeed : He.DefD := ⟨("BadDeed", some "__init__"), "__init__", "BadDeed.__init__", defArgs si_BadDeed, defBody si_BadDeed, defScope si_BadDeed, [], []⟩
def di_BadRoom : He.DefD := ⟨("BadRoom", some "__init__"), "__init__", "BadRoom.__init__", defArgs si_BadRoom, defBody si_BadRoom, defScope si_BadRoom, [], []⟩
def di_BadTalk : He.DefD := ⟨("BadTalk", some "__init__"), "__init__", "BadTalk.__init__", defArgs si_BadTalk, defBody si_BadTalk, defScope si_BadTalk, [], []⟩
def di_BadPriced : He.DefD := ⟨("BadPriced", some "__init__"), "__init__", "BadPriced.__init__", defArgs si_BadPriced, defBody si_BadPriced, defScope si_BadPriced, [], []⟩
def di_BadTie : He.DefD := ⟨("BadTie", some "__init__"), "__init__", "BadTie.__init__", defArgs si_BadTie, defBody si_BadTie, defScope si_BadTie, [], []⟩
def di_BadPlace : He.DefD := ⟨("BadPlace", some "__init__"), "__init__", "BadPlace.__init__", defArgs si_BadPlace, defBody si_BadPlace, defScope si_BadPlace, [], []⟩
def di_BadNumbers : He.DefD := ⟨("BadNumbers", some "__init__"), "__init__", "BadNumbers.__init__", defArgs si_BadNumbers, defBody si_BadNumbers, defScope si_BadNumbers, [], []⟩
def di_BadTranslation : He.DefD := ⟨("BadTranslation", some "__init__"), "__init__", "BadTranslation.__init__", defArgs si_BadTranslation, defBody si_BadTranslation, defScope si_BadTranslation, [], []⟩
def di_BadTeller : He.DefD := ⟨("BadTeller", some "__init__"), "__init__", "BadTeller.__init__", defArgs si_BadTeller, defBody si_BadTeller, defScope si_BadTeller, [], []⟩
def di_NoName : He.DefD := ⟨("NoName", some "__init__"), "__init__", "Missing.__init__", defArgs si_Missing, defBody si_Missing, defScope si_Missing, [], []⟩
def di_NoWay : He.DefD := ⟨("NoWay", some "__init__"), "__init__", "Missing.__init__", defArgs si_Missing, defBody si_Missing, defScope si_Missing, [], []⟩
def di_NoScale : He.DefD := ⟨("NoScale", some "__init__"), "__init__", "Missing.__init__", defArgs si_Missing, defBody si_Missing, defScope si_Missing, [], []⟩
def di_NoLink : He.DefD := ⟨("NoLink", some "__init__"), "__init__", "Missing.__init__", defArgs si_Missing, defBody si_Missing, defScope si_Missing, [], []⟩
def di_NoWord : He.DefD := ⟨("NoWord", some "__init__"), "__init__", "Missing.__init__", defArgs si_Missing, defBody si_Missing, defScope si_Missing, [], []⟩
def di_NoThing : He.DefD := ⟨("NoThing", some "__init__"), "__init__", "Missing.__init__", defArgs si_Missing, defBody si_Missing, defScope si_Missing, [], []⟩
def di_TooMany : He.DefD := ⟨("TooMany", some "__init__"), "__init__", "TooMany.__init__", defArgs si_TooMany, defBody si_TooMany, defScope si_TooMany, [], []⟩
def di_NotLet : He.DefD := ⟨("NotLet", some "__init__"), "__init__", "NotLet.__init__", defArgs si_NotLet, defBody si_NotLet, defScope si_NotLet, [], []⟩
def di_Unlike : He.DefD := ⟨("Unlike", some "__init__"), "__init__", "Unlike.__init__", defArgs si_Unlike, defBody si_Unlike, defScope si_Unlike, [], []⟩
def di_Twice : He.DefD := ⟨("Twice", some "__init__"), "__init__", "Twice.__init__", defArgs si_Twice, defBody si_Twice, defScope si_Twice, [], []⟩
def di_BadLine : He.DefD := ⟨("BadLine", some "__init__"), "__init__", "BadLine.__init__", defArgs si_BadLine, defBody si_BadLine, defScope si_BadLine, [], []⟩
def di_BadText : He.DefD := ⟨("BadText", some "__init__"), "__init__", "BadText.__init__", defArgs si_BadText, defBody si_BadText, defScope si_BadText, [], []⟩
def di_Missing : He.DefD := ⟨("Missing", some "__init__"), "__init__", "Missing.__init__", defArgs si_Missing, defBody si_Missing, defScope si_Missing, [], []⟩
def fn : List He.DefD := [dd__law_jar, dd__law_dip, dd__law_some, dd__law_kin, dd__law_stands_right, dd__law_fields, dd__law_all_right, dd__law_parts, dd__law_others, dd__law_parts_turned, dd__law_others_named, dd_law, di_BadBook, di_BadSaying, di_BadLoose, di_BadDeed, di_BadRoom, di_BadTalk, di_BadPriced, di_BadTie, di_BadPlace, di_BadNumbers, di_BadTranslation, di_BadTeller, di_NoName, di_NoWay, di_NoScale, di_NoLink, di_NoWord, di_NoThing, di_TooMany, di_NotLet, di_Unlike, di_Twice, di_BadLine, di_BadText, di_Missing]
def fa : List He.Fa := [.free "ArithmeticError", .free "AttributeError", .free "LookupError", .free "RuntimeError", .free "TypeError", .free "ValueError", .free "abs", .free "enumerate", .free "int", .free "isinstance", .free "len", .free "range", .free "repr", .glo "BadBook", .glo "BadDeed", .glo "BadLine", .glo "BadLoose", .glo "BadNumbers", .glo "BadPlace", .glo "BadPriced", .glo "BadRoom", .glo "BadSaying", .glo "BadTalk", .glo "BadTeller", .glo "BadText", .glo "BadTie", .glo "BadTranslation", .glo "Missing", .glo "NoLink", .glo "NoName", .glo "NoScale", .glo "NoThing", .glo "NoWay", .glo "NoWord", .glo "NotLet", .glo "Nothing", .glo "SayError", .glo "TooMany", .glo "Twice", .glo "Unlike", .glo "_law_jar", .glo "_law_dip", .glo "_law_some", .glo "_law_kin", .glo "_law_stands_right", .glo "_law_fields", .glo "_law_all_right", .glo "_law_parts", .glo "_law_others", .glo "_law_parts_turned", .glo "_law_others_named", .glo "law"]
def ex (K : PySem.W.Frag) : Bool := [kindsB K kinds, bltT K "ArithmeticError" tab_ArithmeticError, bltT K "AttributeError" tab_AttributeError, ownT K "BadBook" tab_BadBook, ownT K "BadDeed" tab_BadDeed, ownT K "BadLine" tab_BadLine, ownT K "BadLoose" tab_BadLoose, ownT K "BadNumbers" tab_BadNumbers, ownT K "BadPlace" tab_BadPlace, ownT K "BadPriced" tab_BadPriced, ownT K "BadRoom" tab_BadRoom, ownT K "BadSaying" tab_BadSaying, ownT K "BadTalk" tab_BadTalk, ownT K "BadTeller" tab_BadTeller, ownT K "BadText" tab_BadText, ownT K "BadTie" tab_BadTie, ownT K "BadTranslation" tab_BadTranslation, bltT K "LookupError" tab_LookupError, ownT K "Missing" tab_Missing, ownT K "NoLink" tab_NoLink, ownT K "NoName" tab_NoName, ownT K "NoScale" tab_NoScale, ownT K "NoThing" tab_NoThing, ownT K "NoWay" tab_NoWay, ownT K "NoWord" tab_NoWord, ownT K "NotLet" tab_NotLet, ownT K "Nothing" tab_Nothing, bltT K "RuntimeError" tab_RuntimeError, ownT K "SayError" tab_SayError, ownT K "TooMany" tab_TooMany, ownT K "Twice" tab_Twice, bltT K "TypeError" tab_TypeError, ownT K "Unlike" tab_Unlike, bltT K "ValueError" tab_ValueError, fldB K "error" cs_error, fldB K "kind" cs_kind, fldB K "line" cs_line, fldB K "most" cs_most, fldB K "name" cs_name, fldB K "part" cs_part, fldB K "way" cs_way, fldB K "what" cs_what, fldB K "word" cs_word, exc0B K "Nothing", excB K "BadBook" ["part"], excB K "BadSaying" ["part"], excB K "BadLoose" ["part"], excB K "BadDeed" ["part"], excB K "BadRoom" ["part"], excB K "BadTalk" ["part"], excB K "BadPriced" ["part"], excB K "BadTie" ["part"], excB K "BadPlace" ["part"], excB K "BadNumbers" ["part"], excB K "BadTranslation" ["part"], excB K "BadTeller" ["part"], excB K "NoName" ["name"], excB K "NoWay" ["name"], excB K "NoScale" ["name"], excB K "NoLink" ["name"], excB K "NoWord" ["name"], excB K "NoThing" ["name"], excB K "TooMany" ["what", "most"], excB K "NotLet" ["way", "kind"], excB K "Unlike" ["what"], excB K "Twice" ["name"], excB K "BadLine" ["line", "error"], excB K "BadText" ["line", "word"], excB K "Missing" ["name"]].all id
abbrev Rw : PySem.W.OpenRow := PySem.W.OpenLaw.row PySem.Challenge.rw_sayable_k00_errors_keep_their_fields
abbrev hk : PySem.W.Hook := hookS (He.hookX 4 fa fn [] [] ex)
def ob (s : PySem.W.SharedT) : He.AlX × Bool := (He.obsX 4 fa fn [] [] ex (HandSHeadRun.getT s), sysB (HandSHeadRun.getT s))
theorem ob_eq (s : PySem.W.SharedT) : ob s = hk.obs s.abs := Prod.ext (He.obsX_eq (HandSHeadRun.getT_eq s)) sys_eq
theorem facts {K : PySem.W.Frag} {h : Heap} {mg : Str → Option Value} {w : World} (X : K.In h) (G : h.Ns mainGlobals mg) (c : He.SaysX fa fn [] [] ex w h K) : Facts K mg := by
  have d := c.t.d
  have q := c.more
  simp only [ex, List.all_cons, List.all_nil, id, Bool.and_eq_true] at q
  exact ⟨He.free_ok X G (d.fact 0 rfl), He.free_ok X G (d.fact 1 rfl), He.free_ok X G (d.fact 2 rfl), He.free_ok X G (d.fact 3 rfl), He.free_ok X G (d.fact 4 rfl), He.free_ok X G (d.fact 5 rfl), He.free_ok X G (d.fact 6 rfl), He.free_ok X G (d.fact 7 rfl), He.free_ok X G (d.fact 8 rfl), He.free_ok X G (d.fact 9 rfl), He.free_ok X G (d.fact 10 rfl), He.free_ok X G (d.fact 11 rfl), He.free_ok X G (d.fact 12 rfl), He.glo_ok X G (d.fact 13 rfl), He.glo_ok X G (d.fact 14 rfl), He.glo_ok X G (d.fact 15 rfl), He.glo_ok X G (d.fact 16 rfl), He.glo_ok X G (d.fact 17 rfl), He.glo_ok X G (d.fact 18 rfl), He.glo_ok X G (d.fact 19 rfl), He.glo_ok X G (d.fact 20 rfl), He.glo_ok X G (d.fact 21 rfl), He.glo_ok X G (d.fact 22 rfl), He.glo_ok X G (d.fact 23 rfl), He.glo_ok X G (d.fact 24 rfl), He.glo_ok X G (d.fact 25 rfl), He.glo_ok X G (d.fact 26 rfl), He.glo_ok X G (d.fact 27 rfl), He.glo_ok X G (d.fact 28 rfl), He.glo_ok X G (d.fact 29 rfl), He.glo_ok X G (d.fact 30 rfl), He.glo_ok X G (d.fact 31 rfl), He.glo_ok X G (d.fact 32 rfl), He.glo_ok X G (d.fact 33 rfl), He.glo_ok X G (d.fact 34 rfl), He.glo_ok X G (d.fact 35 rfl), He.glo_ok X G (d.fact 36 rfl), He.glo_ok X G (d.fact 37 rfl), He.glo_ok X G (d.fact 38 rfl), He.glo_ok X G (d.fact 39 rfl), excB_ok q.2.2.2.2.2.2.2.2.2.2.2.2.2.2.2.2.2.2.2.2.2.2.2.2.2.2.2.2.2.2.2.2.2.2.2.2.2.2.2.2.2.2.2.2.1, excB_ok q.2.2.2.2.2.2.2.2.2.2.2.2.2.2.2.2.2.2.2.2.2.2.2.2.2.2.2.2.2.2.2.2.2.2.2.2.2.2.2.2.2.2.2.2.2.1, excB_ok q.2.2.2.2.2.2.2.2.2.2.2.2.2.2.2.2.2.2.2.2.2.2.2.2.2.2.2.2.2.2.2.2.2.2.2.2.2.2.2.2.2.2.2.2.2.2.1, excB_ok q.2.2.2.2.2.2.2.2.2.2.2.2.2.2.2.2.2.2.2.2.2.2.2.2.2.2.2.2.2.2.2.2.2.2.2.2.2.2.2.2.2.2.2.2.2.2.2.1, excB_ok q.2.2.2.2.2.2.2.2.2.2.2.2.2.2.2.2.2.2.2.2.2.2.2.2.2.2.2.2.2.2.2.2.2.2.2.2.2.2.2.2.2.2.2.2.2.2.2.2.1, excB_ok q.2.2.2.2.2.2.2.2.2.2.2.2.2.2.2.2.2.2.2.2.2.2.2.2.2.2.2.2.2.2.2.2.2.2.2.2.2.2.2.2.2.2.2.2.2.2.2.2.2.1, excB_ok q.2.2.2.2.2.2.2.2.2.2.2.2.2.2.2.2.2.2.2.2.2.2.2.2.2.2.2.2.2.2.2.2.2.2.2.2.2.2.2.2.2.2.2.2.2.2.2.2.2.2.1, excB_ok q.2.2.2.2.2.2.2.2.2.2.2.2.2.2.2.2.2.2.2.2.2.2.2.2.2.2.2.2.2.2.2.2.2.2.2.2.2.2.2.2.2.2.2.2.2.2.2.2.2.2.2.1, excB_ok q.2.2.2.2.2.2.2.2.2.2.2.2.2.2.2.2.2.2.2.2.2.2.2.2.2.2.2.2.2.2.2.2.2.2.2.2.2.2.2.2.2.2.2.2.2.2.2.2.2.2.2.2.1, excB_ok q.2.2.2.2.2.2.2.2.2.2.2.2.2.2.2.2.2.2.2.2.2.2.2.2.2.2.2.2.2.2.2.2.2.2.2.2.2.2.2.2.2.2.2.2.2.2.2.2.2.2.2.2.2.1, excB_ok q.2.2.2.2.2.2.2.2.2.2.2.2.2.2.2.2.2.2.2.2.2.2.2.2.2.2.2.2.2.2.2.2.2.2.2.2.2.2.2.2.2.2.2.2.2.2.2.2.2.2.2.2.2.2.1, excB_ok q.2.2.2.2.2.2.2.2.2.2.2.2.2.2.2.2.2.2.2.2.2.2.2.2.2.2.2.2.2.2.2.2.2.2.2.2.2.2.2.2.2.2.2.2.2.2.2.2.2.2.2.2.2.2.2.1, excB_ok q.2.2.2.2.2.2.2.2.2.2.2.2.2.2.2.2.2.2.2.2.2.2.2.2.2.2.2.2.2.2.2.2.2.2.2.2.2.2.2.2.2.2.2.2.2.2.2.2.2.2.2.2.2.2.2.2.1, excB_ok q.2.2.2.2.2.2.2.2.2.2.2.2.2.2.2.2.2.2.2.2.2.2.2.2.2.2.2.2.2.2.2.2.2.2.2.2.2.2.2.2.2.2.2.2.2.2.2.2.2.2.2.2.2.2.2.2.2.1, excB_ok q.2.2.2.2.2.2.2.2.2.2.2.2.2.2.2.2.2.2.2.2.2.2.2.2.2.2.2.2.2.2.2.2.2.2.2.2.2.2.2.2.2.2.2.2.2.2.2.2.2.2.2.2.2.2.2.2.2.2.1, excB_ok q.2.2.2.2.2.2.2.2.2.2.2.2.2.2.2.2.2.2.2.2.2.2.2.2.2.2.2.2.2.2.2.2.2.2.2.2.2.2.2.2.2.2.2.2.2.2.2.2.2.2.2.2.2.2.2.2.2.2.2.1, excB_ok q.2.2.2.2.2.2.2.2.2.2.2.2.2.2.2.2.2.2.2.2.2.2.2.2.2.2.2.2.2.2.2.2.2.2.2.2.2.2.2.2.2.2.2.2.2.2.2.2.2.2.2.2.2.2.2.2.2.2.2.2.1, excB_ok q.2.2.2.2.2.2.2.2.2.2.2.2.2.2.2.2.2.2.2.2.2.2.2.2.2.2.2.2.2.2.2.2.2.2.2.2.2.2.2.2.2.2.2.2.2.2.2.2.2.2.2.2.2.2.2.2.2.2.2.2.2.1, excB_ok q.2.2.2.2.2.2.2.2.2.2.2.2.2.2.2.2.2.2.2.2.2.2.2.2.2.2.2.2.2.2.2.2.2.2.2.2.2.2.2.2.2.2.2.2.2.2.2.2.2.2.2.2.2.2.2.2.2.2.2.2.2.2.1, excB_ok q.2.2.2.2.2.2.2.2.2.2.2.2.2.2.2.2.2.2.2.2.2.2.2.2.2.2.2.2.2.2.2.2.2.2.2.2.2.2.2.2.2.2.2.2.2.2.2.2.2.2.2.2.2.2.2.2.2.2.2.2.2.2.2.1, excB_ok q.2.2.2.2.2.2.2.2.2.2.2.2.2.2.2.2.2.2.2.2.2.2.2.2.2.2.2.2.2.2.2.2.2.2.2.2.2.2.2.2.2.2.2.2.2.2.2.2.2.2.2.2.2.2.2.2.2.2.2.2.2.2.2.2.1, excB_ok q.2.2.2.2.2.2.2.2.2.2.2.2.2.2.2.2.2.2.2.2.2.2.2.2.2.2.2.2.2.2.2.2.2.2.2.2.2.2.2.2.2.2.2.2.2.2.2.2.2.2.2.2.2.2.2.2.2.2.2.2.2.2.2.2.2.1, excB_ok q.2.2.2.2.2.2.2.2.2.2.2.2.2.2.2.2.2.2.2.2.2.2.2.2.2.2.2.2.2.2.2.2.2.2.2.2.2.2.2.2.2.2.2.2.2.2.2.2.2.2.2.2.2.2.2.2.2.2.2.2.2.2.2.2.2.2.1, excB_ok q.2.2.2.2.2.2.2.2.2.2.2.2.2.2.2.2.2.2.2.2.2.2.2.2.2.2.2.2.2.2.2.2.2.2.2.2.2.2.2.2.2.2.2.2.2.2.2.2.2.2.2.2.2.2.2.2.2.2.2.2.2.2.2.2.2.2.2.1, excB_ok q.2.2.2.2.2.2.2.2.2.2.2.2.2.2.2.2.2.2.2.2.2.2.2.2.2.2.2.2.2.2.2.2.2.2.2.2.2.2.2.2.2.2.2.2.2.2.2.2.2.2.2.2.2.2.2.2.2.2.2.2.2.2.2.2.2.2.2.2.1, bltT_ok q.1 q.2.1 rfl, bltT_ok q.1 q.2.2.1 rfl, ownT_ok q.1 q.2.2.2.1 rfl, ownT_ok q.1 q.2.2.2.2.1 rfl, ownT_ok q.1 q.2.2.2.2.2.1 rfl, ownT_ok q.1 q.2.2.2.2.2.2.1 rfl, ownT_ok q.1 q.2.2.2.2.2.2.2.1 rfl, ownT_ok q.1 q.2.2.2.2.2.2.2.2.1 rfl, ownT_ok q.1 q.2.2.2.2.2.2.2.2.2.1 rfl, ownT_ok q.1 q.2.2.2.2.2.2.2.2.2.2.1 rfl, ownT_ok q.1 q.2.2.2.2.2.2.2.2.2.2.2.1 rfl, ownT_ok q.1 q.2.2.2.2.2.2.2.2.2.2.2.2.1 rfl, ownT_ok q.1 q.2.2.2.2.2.2.2.2.2.2.2.2.2.1 rfl, ownT_ok q.1 q.2.2.2.2.2.2.2.2.2.2.2.2.2.2.1 rfl, ownT_ok q.1 q.2.2.2.2.2.2.2.2.2.2.2.2.2.2.2.1 rfl, ownT_ok q.1 q.2.2.2.2.2.2.2.2.2.2.2.2.2.2.2.2.1 rfl, bltT_ok q.1 q.2.2.2.2.2.2.2.2.2.2.2.2.2.2.2.2.2.1 rfl, ownT_ok q.1 q.2.2.2.2.2.2.2.2.2.2.2.2.2.2.2.2.2.2.1 rfl, ownT_ok q.1 q.2.2.2.2.2.2.2.2.2.2.2.2.2.2.2.2.2.2.2.1 rfl, ownT_ok q.1 q.2.2.2.2.2.2.2.2.2.2.2.2.2.2.2.2.2.2.2.2.1 rfl, ownT_ok q.1 q.2.2.2.2.2.2.2.2.2.2.2.2.2.2.2.2.2.2.2.2.2.1 rfl, ownT_ok q.1 q.2.2.2.2.2.2.2.2.2.2.2.2.2.2.2.2.2.2.2.2.2.2.1 rfl, ownT_ok q.1 q.2.2.2.2.2.2.2.2.2.2.2.2.2.2.2.2.2.2.2.2.2.2.2.1 rfl, ownT_ok q.1 q.2.2.2.2.2.2.2.2.2.2.2.2.2.2.2.2.2.2.2.2.2.2.2.2.1 rfl, ownT_ok q.1 q.2.2.2.2.2.2.2.2.2.2.2.2.2.2.2.2.2.2.2.2.2.2.2.2.2.1 rfl, ownT_ok q.1 q.2.2.2.2.2.2.2.2.2.2.2.2.2.2.2.2.2.2.2.2.2.2.2.2.2.2.1 rfl, bltT_ok q.1 q.2.2.2.2.2.2.2.2.2.2.2.2.2.2.2.2.2.2.2.2.2.2.2.2.2.2.2.1 rfl, ownT_ok q.1 q.2.2.2.2.2.2.2.2.2.2.2.2.2.2.2.2.2.2.2.2.2.2.2.2.2.2.2.2.1 rfl, ownT_ok q.1 q.2.2.2.2.2.2.2.2.2.2.2.2.2.2.2.2.2.2.2.2.2.2.2.2.2.2.2.2.2.1 rfl, ownT_ok q.1 q.2.2.2.2.2.2.2.2.2.2.2.2.2.2.2.2.2.2.2.2.2.2.2.2.2.2.2.2.2.2.1 rfl, bltT_ok q.1 q.2.2.2.2.2.2.2.2.2.2.2.2.2.2.2.2.2.2.2.2.2.2.2.2.2.2.2.2.2.2.2.1 rfl, ownT_ok q.1 q.2.2.2.2.2.2.2.2.2.2.2.2.2.2.2.2.2.2.2.2.2.2.2.2.2.2.2.2.2.2.2.2.1 rfl, bltT_ok q.1 q.2.2.2.2.2.2.2.2.2.2.2.2.2.2.2.2.2.2.2.2.2.2.2.2.2.2.2.2.2.2.2.2.2.1 rfl, fldB_ok q.2.2.2.2.2.2.2.2.2.2.2.2.2.2.2.2.2.2.2.2.2.2.2.2.2.2.2.2.2.2.2.2.2.2.1, fldB_ok q.2.2.2.2.2.2.2.2.2.2.2.2.2.2.2.2.2.2.2.2.2.2.2.2.2.2.2.2.2.2.2.2.2.2.2.1, fldB_ok q.2.2.2.2.2.2.2.2.2.2.2.2.2.2.2.2.2.2.2.2.2.2.2.2.2.2.2.2.2.2.2.2.2.2.2.2.1, fldB_ok q.2.2.2.2.2.2.2.2.2.2.2.2.2.2.2.2.2.2.2.2.2.2.2.2.2.2.2.2.2.2.2.2.2.2.2.2.2.1, fldB_ok q.2.2.2.2.2.2.2.2.2.2.2.2.2.2.2.2.2.2.2.2.2.2.2.2.2.2.2.2.2.2.2.2.2.2.2.2.2.2.1, fldB_ok q.2.2.2.2.2.2.2.2.2.2.2.2.2.2.2.2.2.2.2.2.2.2.2.2.2.2.2.2.2.2.2.2.2.2.2.2.2.2.2.1, fldB_ok q.2.2.2.2.2.2.2.2.2.2.2.2.2.2.2.2.2.2.2.2.2.2.2.2.2.2.2.2.2.2.2.2.2.2.2.2.2.2.2.2.1, fldB_ok q.2.2.2.2.2.2.2.2.2.2.2.2.2.2.2.2.2.2.2.2.2.2.2.2.2.2.2.2.2.2.2.2.2.2.2.2.2.2.2.2.2.1, fldB_ok q.2.2.2.2.2.2.2.2.2.2.2.2.2.2.2.2.2.2.2.2.2.2.2.2.2.2.2.2.2.2.2.2.2.2.2.2.2.2.2.2.2.2.1, exc0B_ok q.2.2.2.2.2.2.2.2.2.2.2.2.2.2.2.2.2.2.2.2.2.2.2.2.2.2.2.2.2.2.2.2.2.2.2.2.2.2.2.2.2.2.2.1, d.def_ 12 (d := di_BadBook) rfl, d.def_ 13 (d := di_BadSaying) rfl, d.def_ 14 (d := di_BadLoose) rfl, d.def_ 15 (d := di_BadDeed) rfl, d.def_ 16 (d := di_BadRoom) rfl, d.def_ 17 (d := di_BadTalk) rfl, d.def_ 18 (d := di_BadPriced) rfl, d.def_ 19 (d := di_BadTie) rfl, d.def_ 20 (d := di_BadPlace) rfl, d.def_ 21 (d := di_BadNumbers) rfl, d.def_ 22 (d := di_BadTranslation) rfl, d.def_ 23 (d := di_BadTeller) rfl, d.def_ 24 (d := di_NoName) rfl, d.def_ 25 (d := di_NoWay) rfl, d.def_ 26 (d := di_NoScale) rfl, d.def_ 27 (d := di_NoLink) rfl, d.def_ 28 (d := di_NoWord) rfl, d.def_ 29 (d := di_NoThing) rfl, d.def_ 30 (d := di_TooMany) rfl, d.def_ 31 (d := di_NotLet) rfl, d.def_ 32 (d := di_Unlike) rfl, d.def_ 33 (d := di_Twice) rfl, d.def_ 34 (d := di_BadLine) rfl, d.def_ 35 (d := di_BadText) rfl, d.def_ 36 (d := di_Missing) rfl, d.def_ 0 (d := dd__law_jar) rfl, d.def_ 1 (d := dd__law_dip) rfl, d.def_ 2 (d := dd__law_some) rfl, d.def_ 3 (d := dd__law_kin) rfl, d.def_ 4 (d := dd__law_stands_right) rfl, d.def_ 5 (d := dd__law_fields) rfl, d.def_ 6 (d := dd__law_all_right) rfl, d.def_ 7 (d := dd__law_parts) rfl, d.def_ 8 (d := dd__law_others) rfl, d.def_ 9 (d := dd__law_parts_turned) rfl, d.def_ 10 (d := dd__law_others_named) rfl, d.def_ 11 (d := dd_law) rfl, He.glo_ok X G (d.fact 40 rfl), He.glo_ok X G (d.fact 41 rfl), He.glo_ok X G (d.fact 42 rfl), He.glo_ok X G (d.fact 43 rfl), He.glo_ok X G (d.fact 44 rfl), He.glo_ok X G (d.fact 45 rfl), He.glo_ok X G (d.fact 46 rfl), He.glo_ok X G (d.fact 47 rfl), He.glo_ok X G (d.fact 48 rfl), He.glo_ok X G (d.fact 49 rfl), He.glo_ok X G (d.fact 50 rfl), He.glo_ok X G (d.fact 51 rfl)⟩
def names : List Str := (["SayError", "BadRoom", "BadDeed", "BadLoose", "BadSaying", "BadBook", "BadPlace", "BadTie", "BadPriced", "BadTalk", "BadTeller", "BadTranslation", "BadNumbers", "Missing", "NoThing", "NoWord", "NoLink", "NoScale", "NoWay", "NoName", "NotLet", "Twice", "Unlike", "Nothing", "TooMany", "BadText", "BadLine", "_law_jar", "_law_dip", "_law_some"] : List Str) ++ (["_law_parts", "_law_parts_turned", "_law_others", "_law_others_named", "_law_fields", "_law_kin", "_law_stands_right", "_law_all_right"] : List Str)
abbrev qv : Program := PySem.W.view Rw.prog [40]
end K00

/-! k00: draws, what is shown. -/
namespace K00
open PySem DL JM
theorem nums : Nums 31259 1423 2147483549 2147483647 44111 := by constructor <;> decide
theorem dip_eq : f__law_dip = runD 6 (drawS 31259 1423 2147483549 2147483647 44111) := rfl
theorem dip_ok {k : Nat} {w : W} {m : Int} (J : Jar k w) (hk : k < 1048576) (h1 : 0 < m) (hm : m.natAbs.log2 < 9000) : ∃ i w', f__law_dip [.ptr 0, .int m] w = .ok (.int i) w' ∧ 0 ≤ i ∧ i < m ∧ Jar (k + 1) w' := by
  rw [dip_eq]
  exact draw_ok nums J hk h1 hm
theorem log_lt {i : Int} (h0 : 0 ≤ i) (h : i < 1152921504606846976) : i.natAbs.log2 < 9000 := by
  have := log_le (k := 60) h0 (by omega)
  omega
theorem some_lst {k : Nat} {w : W} {xs : List D} (J : Jar k w) (hk : k < 1048576) (h0 : 0 < xs.length) (hm : xs.length < 1152921504606846976) : ∃ (d : D) (w' : W), d ∈ xs ∧ f__law_some [.ptr 0, .lst xs] w = .ok d w' ∧ Jar (k + 1) w' := by
  obtain ⟨i, w', e, i0, i1, J'⟩ := dip_ok (m := (xs.length : Nat)) J hk (by omega) (log_lt (by omega) (by omega))
  refine ⟨xs[i.toNat]'(by omega), w', List.getElem_mem _, ?_, J'⟩
  have l : lenD (.lst xs) = some (.int (xs.length : Nat)) := rfl
  have q := ixD_lst i0 i1
  have st : startD 2 [.ptr 0, .lst xs] = [.dat (.ptr 0), .dat (.lst xs)] := rfl
  simp only [f__law_some, runD, s__law_some, st, seqS, retS, bin, var, callE, consA, nilA, un, op1, op2, R.bind, R.out, Val.d, List.getElem?_cons_succ, List.getElem?_cons_zero, l, e, q]
theorem jar_ok {ns : List Int} (h : ns.length ≤ 63) : f__law_jar [.scr ns] [] = .ok (.ptr 0) [jarC ns 0 0] := by
  have st : startD 2 [.scr ns] = [.dat (.scr ns), .non] := rfl
  have cut : cutD none (some 63) (.scr ns) = some (.lst (ns.map .int)) := by
    show some (D.lst (((ns.drop 0).take (HT.sIx ns.length ns.length (some ((63 : Nat) : Int)) - 0)).map .int)) = _
    rw [HT.sIx_nat, List.drop_zero, List.take_of_length_le (by omega)]
  have lc : lcL (nameG 1) yesT (un intF (var 1)) (wipeS [.dat (.scr ns), .non] [1]) (ns.map .int) [] [] = .ok ([] ++ (ns.map D.int).map id) [] :=
    lcL_pure (f := id) (ns.map .int) [] (fun d hd => by
      obtain ⟨i, _, rfl⟩ := List.mem_map.mp hd
      rfl) (by rw [List.length_map]; show 0 + ns.length ≤ 16777216; omega)
  rw [List.nil_append, List.map_id] at lc
  unfold f__law_jar runD
  rw [st]
  have i63 : part (cst (.int 63)) [.dat (.scr ns), .non] [] = .ok (some 63) [] := rfl
  have m3 : ((0 : Nat) + 1 + 1 + 1 ≤ most) := by decide
  simp only [s__law_jar, seqS, newW, lstO, lcE, walkI, slice, noPart, i63, op1, consA, nilA, cst, var, Val.d, R.bind, R.out, List.getElem?_cons_succ, List.getElem?_cons_zero, List.length_cons, List.length_nil, cut, walkD, lc, m3, if_true]
  rfl
/-! ### what is shown -/
theorem ok_app {a b : Str} (h : PyData.strOk a = true) (q : PyData.strOk b = true) : PyData.strOk (a ++ b) = true := by
  unfold PyData.strOk at *
  rw [Str.cps_append, Array.all_append, h, q]
  rfl
theorem ok_of (s : String) : PyData.strOk (Str.ofString s) = true := by
  unfold PyData.strOk
  rw [Str.ofString_eq_toList]
  simp only [List.all_toArray, List.all_map, List.all_eq_true, Function.comp, decide_eq_true_eq]
  intro c _
  have := c.valid
  rcases this with h | h
  · exact Nat.lt_trans h (by decide)
  · exact h.2
theorem eq_self {x : Str} (h : PyData.strOk x = true) : eqB (.str x) (.str x) = some true := by
  have h1 : SeqAt.shaped (.str x) = true := by simp [SeqAt.shaped, PyData.canLay0, PyData.depth, h]
  have h3 : PyData.eqv (.str x) (.str x) = true := by
    show (x == x) = true
    exact beq_self_eq_true x
  simp only [eqB, toPy, h1, h3, Bool.and_self, if_true]
structure Sh (k : Nat) (d : D) (p : PyData) : Prop where
  py : toPyY d = some p
  sh : p.showable = true
  dp : p.depth ≤ k
  ln : p.shown.length ≤ k * 100
  ok : PyData.strOk p.shown = true
theorem Sh.repr {k : Nat} {d : D} {p : PyData} (h : Sh k d p) (hk : k ≤ 60) : ∃ s, reprZ d = some (.str s) ∧ eqB (.str s) (.str s) = some true := by
  refine ⟨p.shown, ?_, eq_self h.ok⟩
  unfold reprZ
  have h1 : decide (p.depth ≤ 60) = true := decide_eq_true (Nat.le_trans h.dp hk)
  have h2 : decide (p.shown.length ≤ most) = true := decide_eq_true (by
    have := h.ln
    show p.shown.length ≤ 16777216
    omega)
  rw [h.py]
  simp only [h.sh, h1, h2, Bool.and_self, if_true]
theorem sh_nil : Sh 1 (.lst []) (.list []) := ⟨rfl, rfl, by decide, by decide +kernel, by decide +kernel⟩
theorem len2 : (("[" : Str).length = 1) ∧ (("]" : Str).length = 1) ∧ ((", " : Str).length = 2) ∧ (("" : Str).length = 0) := by decide +kernel
theorem sh_one {k : Nat} {d : D} {p : PyData} (h : Sh k d p) (hk : 1 ≤ k) : Sh (k + 1) (.lst [d]) (.list [p]) := by
  have e : (PyData.list [p]).shown = ("[" : Str) ++ ("" : Str) ++ p.shown ++ ("]" : Str) := rfl
  refine ⟨by simp [toPyY, toPyYA, h.py], by simp [PyData.showable, PyData.showableAll, h.sh], ?_, ?_, ?_⟩
  · have := h.dp
    simp only [PyData.depth, PyData.depthAll]
    omega
  · rw [e, Str.length_append, Str.length_append, Str.length_append]
    have := h.ln
    have := len2
    omega
  · rw [e]
    exact ok_app (ok_app (ok_app (ok_of _) (ok_of _)) h.ok) (ok_of _)
theorem sh_two {k : Nat} {d e : D} {p q : PyData} (h : Sh k d p) (g : Sh k e q) (hk : 1 ≤ k) : Sh (k + k + 1) (.lst [d, e]) (.list [p, q]) := by
  have e : (PyData.list [p, q]).shown = ("[" : Str) ++ ("" : Str) ++ p.shown ++ (", " : Str) ++ q.shown ++ ("]" : Str) := rfl
  refine ⟨by simp [toPyY, toPyYA, h.py, g.py], by simp [PyData.showable, PyData.showableAll, h.sh, g.sh], ?_, ?_, ?_⟩
  · have := h.dp
    have := g.dp
    simp only [PyData.depth, PyData.depthAll]
    omega
  · rw [e, Str.length_append, Str.length_append, Str.length_append, Str.length_append, Str.length_append]
    have := h.ln
    have := g.ln
    have := len2
    omega
  · rw [e]
    exact ok_app (ok_app (ok_app (ok_app (ok_app (ok_of _) (ok_of _)) h.ok) (ok_of _)) g.ok) (ok_of _)
theorem sh_int {i : Int} (h : i.natAbs < 10 ^ 61) : Sh 1 (.int i) (.int i) := by
  refine ⟨by simp [toPyY], ?_, by simp [PyData.depth], ?_, ?_⟩
  · unfold PyData.showable
    refine decide_eq_true ?_
    by_cases z : i.natAbs = 0
    · rw [z]; decide
    · exact (Nat.log2_lt z).mpr (Nat.lt_trans h (by decide +kernel))
  · show (Str.ofString (toString i)).length ≤ 100
    rw [ofString_length]
    have := int_text_length_le10 (a := i) (k := 61) (by decide) h
    omega
  · exact ok_of _
/-- the first value -/
theorem sh_a {n : Int} (h : n.natAbs < 10 ^ 61) {d : D} (m : d ∈ [D.non, .bl true, .int n, .str "part", .str "", .tup [.str "a", .int 1], .lst [.int n], .dct (mergeD [] [(.inr "a", .lst [.int 1])])]) : ∃ p, Sh 2 d p := by
  simp only [List.mem_cons, List.not_mem_nil, or_false] at m
  rcases m with rfl | rfl | rfl | rfl | rfl | rfl | rfl | rfl
  · exact ⟨.none, rfl, rfl, by decide, by decide +kernel, by decide +kernel⟩
  · exact ⟨.bool true, rfl, rfl, by decide, by decide +kernel, by decide +kernel⟩
  · obtain ⟨h1, h2, h3, h4, h5⟩ := sh_int h
    exact ⟨_, h1, h2, by omega, by omega, h5⟩
  · exact ⟨.str "part", rfl, rfl, by decide, by decide +kernel, by decide +kernel⟩
  · exact ⟨.str "", rfl, rfl, by decide, by decide +kernel, by decide +kernel⟩
  · exact ⟨.tuple [.str "a", .int 1], rfl, by decide +kernel, by decide, by decide +kernel, by decide +kernel⟩
  · exact ⟨_, sh_one (sh_int h) (by decide)⟩
  · exact ⟨.dict [(.str "a", .list [.int 1])], by rfl, by decide +kernel, by decide, by decide +kernel, by decide +kernel⟩
theorem sh_b {n : Int} (h : (n + 1).natAbs < 10 ^ 61) {d : D} (m : d ∈ [D.int 0, .bl false, .str "room", .lst [], .tup [], .dct (mergeD [] [(.inl 1, .int 2)]), .int (n + 1), .non]) : ∃ p, Sh 2 d p := by
  simp only [List.mem_cons, List.not_mem_nil, or_false] at m
  rcases m with rfl | rfl | rfl | rfl | rfl | rfl | rfl | rfl
  · exact ⟨.int 0, rfl, by decide +kernel, by decide, by decide +kernel, by decide +kernel⟩
  · exact ⟨.bool false, rfl, rfl, by decide, by decide +kernel, by decide +kernel⟩
  · exact ⟨.str "room", rfl, rfl, by decide, by decide +kernel, by decide +kernel⟩
  · exact ⟨.list [], rfl, rfl, by decide, by decide +kernel, by decide +kernel⟩
  · exact ⟨.tuple [], rfl, rfl, by decide, by decide +kernel, by decide +kernel⟩
  · exact ⟨.dict [(.int 1, .int 2)], by rfl, by decide +kernel, by decide, by decide +kernel, by decide +kernel⟩
  · obtain ⟨h1, h2, h3, h4, h5⟩ := sh_int h
    exact ⟨_, h1, h2, by omega, by omega, h5⟩
  · exact ⟨.none, rfl, rfl, by decide, by decide +kernel, by decide +kernel⟩
end K00

/-! k00: the errors. -/
namespace K00
open PySem DL JM
def partsL (a : D) : List D := [.exn "BadRoom" [("part", a)], .exn "BadDeed" [("part", a)], .exn "BadLoose" [("part", a)], .exn "BadSaying" [("part", a)], .exn "BadBook" [("part", a)], .exn "BadPlace" [("part", a)], .exn "BadTie" [("part", a)], .exn "BadPriced" [("part", a)], .exn "BadTalk" [("part", a)], .exn "BadTeller" [("part", a)], .exn "BadTranslation" [("part", a)], .exn "BadNumbers" [("part", a)]]
def othersL (a b : D) : List D := [.exn "NoThing" [("name", a)], .exn "NoWord" [("name", a)], .exn "NoLink" [("name", a)], .exn "NoScale" [("name", a)], .exn "NoWay" [("name", a)], .exn "NoName" [("name", a)], .exn "Twice" [("name", a)], .exn "Unlike" [("what", a)], .exn "NotLet" [("kind", b), ("way", a)], .exn "TooMany" [("most", b), ("what", a)], .exn "BadText" [("word", b), ("line", a)], .exn "BadLine" [("error", b), ("line", a)], .exn0 "Nothing"]
theorem parts_ok (a : D) (w : W) : f__law_parts [a] w = .ok (.lst (partsL a)) w := by kernel_rfl
theorem turned_ok (a : D) (w : W) : f__law_parts_turned [a] w = .ok (.lst (partsL a)) w := by kernel_rfl
theorem others_ok (a b : D) (w : W) : f__law_others [a, b] w = .ok (.lst (othersL a b)) w := by kernel_rfl
theorem named_ok (a b : D) (w : W) : f__law_others_named [a, b] w = .ok (.lst (othersL a b)) w := by kernel_rfl
theorem fields_0 (a b : D) (w : W) : f__law_fields [.exn "BadRoom" [("part", a)], .int 0] w = .ok (.lst [a]) w := by kernel_rfl
theorem stands_0 (a b : D) (w : W) : f__law_stands_right [.exn "BadRoom" [("part", a)], .int 0] w = .ok (.bl true) w := by kernel_rfl
theorem fields_1 (a b : D) (w : W) : f__law_fields [.exn "BadDeed" [("part", a)], .int 1] w = .ok (.lst [a]) w := by kernel_rfl
theorem stands_1 (a b : D) (w : W) : f__law_stands_right [.exn "BadDeed" [("part", a)], .int 1] w = .ok (.bl true) w := by kernel_rfl
theorem fields_2 (a b : D) (w : W) : f__law_fields [.exn "BadLoose" [("part", a)], .int 2] w = .ok (.lst [a]) w := by kernel_rfl
theorem stands_2 (a b : D) (w : W) : f__law_stands_right [.exn "BadLoose" [("part", a)], .int 2] w = .ok (.bl true) w := by kernel_rfl
theorem fields_3 (a b : D) (w : W) : f__law_fields [.exn "BadSaying" [("part", a)], .int 3] w = .ok (.lst [a]) w := by kernel_rfl
theorem stands_3 (a b : D) (w : W) : f__law_stands_right [.exn "BadSaying" [("part", a)], .int 3] w = .ok (.bl true) w := by kernel_rfl
theorem fields_4 (a b : D) (w : W) : f__law_fields [.exn "BadBook" [("part", a)], .int 4] w = .ok (.lst [a]) w := by kernel_rfl
theorem stands_4 (a b : D) (w : W) : f__law_stands_right [.exn "BadBook" [("part", a)], .int 4] w = .ok (.bl true) w := by kernel_rfl
theorem fields_5 (a b : D) (w : W) : f__law_fields [.exn "BadPlace" [("part", a)], .int 5] w = .ok (.lst [a]) w := by kernel_rfl
theorem stands_5 (a b : D) (w : W) : f__law_stands_right [.exn "BadPlace" [("part", a)], .int 5] w = .ok (.bl true) w := by kernel_rfl
theorem fields_6 (a b : D) (w : W) : f__law_fields [.exn "BadTie" [("part", a)], .int 6] w = .ok (.lst [a]) w := by kernel_rfl
theorem stands_6 (a b : D) (w : W) : f__law_stands_right [.exn "BadTie" [("part", a)], .int 6] w = .ok (.bl true) w := by kernel_rfl
theorem fields_7 (a b : D) (w : W) : f__law_fields [.exn "BadPriced" [("part", a)], .int 7] w = .ok (.lst [a]) w := by kernel_rfl
theorem stands_7 (a b : D) (w : W) : f__law_stands_right [.exn "BadPriced" [("part", a)], .int 7] w = .ok (.bl true) w := by kernel_rfl
theorem fields_8 (a b : D) (w : W) : f__law_fields [.exn "BadTalk" [("part", a)], .int 8] w = .ok (.lst [a]) w := by kernel_rfl
theorem stands_8 (a b : D) (w : W) : f__law_stands_right [.exn "BadTalk" [("part", a)], .int 8] w = .ok (.bl true) w := by kernel_rfl
theorem fields_9 (a b : D) (w : W) : f__law_fields [.exn "BadTeller" [("part", a)], .int 9] w = .ok (.lst [a]) w := by kernel_rfl
theorem stands_9 (a b : D) (w : W) : f__law_stands_right [.exn "BadTeller" [("part", a)], .int 9] w = .ok (.bl true) w := by kernel_rfl
theorem fields_10 (a b : D) (w : W) : f__law_fields [.exn "BadTranslation" [("part", a)], .int 10] w = .ok (.lst [a]) w := by kernel_rfl
theorem stands_10 (a b : D) (w : W) : f__law_stands_right [.exn "BadTranslation" [("part", a)], .int 10] w = .ok (.bl true) w := by kernel_rfl
theorem fields_11 (a b : D) (w : W) : f__law_fields [.exn "BadNumbers" [("part", a)], .int 11] w = .ok (.lst [a]) w := by kernel_rfl
theorem stands_11 (a b : D) (w : W) : f__law_stands_right [.exn "BadNumbers" [("part", a)], .int 11] w = .ok (.bl true) w := by kernel_rfl
theorem fields_12 (a b : D) (w : W) : f__law_fields [.exn "NoThing" [("name", a)], .int 12] w = .ok (.lst [a]) w := by kernel_rfl
theorem stands_12 (a b : D) (w : W) : f__law_stands_right [.exn "NoThing" [("name", a)], .int 12] w = .ok (.bl true) w := by kernel_rfl
theorem fields_13 (a b : D) (w : W) : f__law_fields [.exn "NoWord" [("name", a)], .int 13] w = .ok (.lst [a]) w := by kernel_rfl
theorem stands_13 (a b : D) (w : W) : f__law_stands_right [.exn "NoWord" [("name", a)], .int 13] w = .ok (.bl true) w := by kernel_rfl
theorem fields_14 (a b : D) (w : W) : f__law_fields [.exn "NoLink" [("name", a)], .int 14] w = .ok (.lst [a]) w := by kernel_rfl
theorem stands_14 (a b : D) (w : W) : f__law_stands_right [.exn "NoLink" [("name", a)], .int 14] w = .ok (.bl true) w := by kernel_rfl
theorem fields_15 (a b : D) (w : W) : f__law_fields [.exn "NoScale" [("name", a)], .int 15] w = .ok (.lst [a]) w := by kernel_rfl
theorem stands_15 (a b : D) (w : W) : f__law_stands_right [.exn "NoScale" [("name", a)], .int 15] w = .ok (.bl true) w := by kernel_rfl
theorem fields_16 (a b : D) (w : W) : f__law_fields [.exn "NoWay" [("name", a)], .int 16] w = .ok (.lst [a]) w := by kernel_rfl
theorem stands_16 (a b : D) (w : W) : f__law_stands_right [.exn "NoWay" [("name", a)], .int 16] w = .ok (.bl true) w := by kernel_rfl
theorem fields_17 (a b : D) (w : W) : f__law_fields [.exn "NoName" [("name", a)], .int 17] w = .ok (.lst [a]) w := by kernel_rfl
theorem stands_17 (a b : D) (w : W) : f__law_stands_right [.exn "NoName" [("name", a)], .int 17] w = .ok (.bl true) w := by kernel_rfl
theorem fields_18 (a b : D) (w : W) : f__law_fields [.exn "Twice" [("name", a)], .int 18] w = .ok (.lst [a]) w := by kernel_rfl
theorem stands_18 (a b : D) (w : W) : f__law_stands_right [.exn "Twice" [("name", a)], .int 18] w = .ok (.bl true) w := by kernel_rfl
theorem fields_19 (a b : D) (w : W) : f__law_fields [.exn "Unlike" [("what", a)], .int 19] w = .ok (.lst [a]) w := by kernel_rfl
theorem stands_19 (a b : D) (w : W) : f__law_stands_right [.exn "Unlike" [("what", a)], .int 19] w = .ok (.bl true) w := by kernel_rfl
theorem fields_20 (a b : D) (w : W) : f__law_fields [.exn "NotLet" [("kind", b), ("way", a)], .int 20] w = .ok (.lst [a, b]) w := by kernel_rfl
theorem stands_20 (a b : D) (w : W) : f__law_stands_right [.exn "NotLet" [("kind", b), ("way", a)], .int 20] w = .ok (.bl true) w := by kernel_rfl
theorem fields_21 (a b : D) (w : W) : f__law_fields [.exn "TooMany" [("most", b), ("what", a)], .int 21] w = .ok (.lst [a, b]) w := by kernel_rfl
theorem stands_21 (a b : D) (w : W) : f__law_stands_right [.exn "TooMany" [("most", b), ("what", a)], .int 21] w = .ok (.bl true) w := by kernel_rfl
theorem fields_22 (a b : D) (w : W) : f__law_fields [.exn "BadText" [("word", b), ("line", a)], .int 22] w = .ok (.lst [a, b]) w := by kernel_rfl
theorem stands_22 (a b : D) (w : W) : f__law_stands_right [.exn "BadText" [("word", b), ("line", a)], .int 22] w = .ok (.bl true) w := by kernel_rfl
theorem fields_23 (a b : D) (w : W) : f__law_fields [.exn "BadLine" [("error", b), ("line", a)], .int 23] w = .ok (.lst [a, b]) w := by kernel_rfl
theorem stands_23 (a b : D) (w : W) : f__law_stands_right [.exn "BadLine" [("error", b), ("line", a)], .int 23] w = .ok (.bl true) w := by kernel_rfl
theorem fields_24 (a b : D) (w : W) : f__law_fields [.exn0 "Nothing", .int 24] w = .ok (.lst []) w := by kernel_rfl
theorem stands_24 (a b : D) (w : W) : f__law_stands_right [.exn0 "Nothing", .int 24] w = .ok (.bl true) w := by kernel_rfl
end K00

/-! k00: the law. -/
namespace K00
open PySem DL JM
def bodyS : SemS := (seqS (setS 5 (ifE (asB (bin ltD (var 3) (cst (.int 20)))) (mkA (consA (var 0) nilA) lstF) (ifE (asB (bin ltD (var 3) (cst (.int 24)))) (mkA (consA (var 0) (consA (var 1) nilA)) lstF) (mkA nilA lstF))))
  (seqS (ifS (orT (asB (bin neD (un reprZ (callE f__law_fields (consA (var 4) (consA (var 3) nilA)))) (un reprZ (var 5)))) (notT (truE (callE f__law_stands_right (consA (var 4) (consA (var 3) nilA)))))) (seqS (retS (cst (.bl false)))
  nextS) nextS)
  nextS))
theorem all_eq : s__law_all_right = (seqS (forS (enumI (var 2)) (tupG 2 (consG (nameG 3) (consG (nameG 4) nilG))) bodyS) (seqS (retS (bin eqD (un lenD (var 2)) (cst (.int 25)))) nextS)) := rfl
def due (a b : D) (i : Nat) : List D := if i < 20 then [a] else if i < 24 then [a, b] else []
structure Good (a b : D) (w : W) (i : Nat) (e : D) : Prop where
  fields : f__law_fields [e, .int i] w = .ok (.lst (due a b i)) w
  stands : f__law_stands_right [e, .int i] w = .ok (.bl true) w
def AllG (a b : D) (w : W) : Nat → List D → Prop
  | _, [] => True
  | i, e :: r => Good a b w i e ∧ AllG a b w (i + 1) r
theorem body_ok {a b m e : D} {i : Nat} {x5 : Slot} {w : W} (g : Good a b w i e) (hr : ∃ s, reprZ (.lst (due a b i)) = some (.str s) ∧ eqB (.str s) (.str s) = some true) :
    bodyS [.dat a, .dat b, .dat m, .dat (.int i), .dat e, x5] w = .nx [.dat a, .dat b, .dat m, .dat (.int i), .dat e, .dat (.lst (due a b i))] w := by
  obtain ⟨s, r1, r2⟩ := hr
  have ne : neD (.str s) (.str s) = some (.bl false) := by unfold neD; rw [r2]; rfl
  have l1 : ∀ x : D, lstF [x] = some (.lst [x]) := fun _ => rfl
  have l2 : ∀ x y : D, lstF [x, y] = some (.lst [x, y]) := fun _ _ => rfl
  have l0 : lstF [] = some (.lst []) := rfl
  have m1 : ((0 : Nat) + 1 ≤ most) := by decide
  have m2 : ((0 : Nat) + 1 + 1 ≤ most) := by decide
  have m0 : ((0 : Nat) ≤ most) := by decide
  have h15 : (1 : Nat) ≤ 15 := by decide
  have hdue : (setS 5 (ifE (asB (bin ltD (var 3) (cst (.int 20)))) (mkA (consA (var 0) nilA) lstF) (ifE (asB (bin ltD (var 3) (cst (.int 24)))) (mkA (consA (var 0) (consA (var 1) nilA)) lstF) (mkA nilA lstF)))) [.dat a, .dat b, .dat m, .dat (.int i), .dat e, x5] w = .nx [.dat a, .dat b, .dat m, .dat (.int i), .dat e, .dat (.lst (due a b i))] w := by
    unfold due
    by_cases h1 : i < 20
    · have c1 : decide ((i : Int) < 20) = true := decide_eq_true (by omega)
      simp only [setS, ifE, asB, bin, var, cst, op2, Val.d, ltD, ordD, c1, h1, mkA, consA, nilA, l1, R.bind, R.out, List.getElem?_cons_succ, List.getElem?_cons_zero, List.set_cons_succ, List.set_cons_zero, List.length_cons, List.length_nil, m1, if_true]
    · have c1 : decide ((i : Int) < 20) = false := decide_eq_false (by omega)
      by_cases h2 : i < 24
      · have c2 : decide ((i : Int) < 24) = true := decide_eq_true (by omega)
        simp only [setS, ifE, asB, bin, var, cst, op2, Val.d, ltD, ordD, c1, c2, h1, h2, mkA, consA, nilA, l2, R.bind, R.out, List.getElem?_cons_succ, List.getElem?_cons_zero, List.set_cons_succ, List.set_cons_zero, List.length_cons, List.length_nil, m2, if_true, Bool.false_eq_true, if_false]
      · have c2 : decide ((i : Int) < 24) = false := decide_eq_false (by omega)
        simp only [setS, ifE, asB, bin, var, cst, op2, Val.d, ltD, ordD, c1, c2, h1, h2, mkA, consA, nilA, l0, R.bind, R.out, List.getElem?_cons_succ, List.getElem?_cons_zero, List.set_cons_succ, List.set_cons_zero, List.length_cons, List.length_nil, m0, if_true, Bool.false_eq_true, if_false]
  unfold bodyS
  unfold seqS
  rw [hdue]
  simp only [seqS, ifS, orT, notT, truE, truD, asB, bin, un, op1, op2, var, cst, callE, consA, nilA, Val.d, R.bind, R.out, List.getElem?_cons_succ, List.getElem?_cons_zero, g.fields, g.stands, r1, ne, Bool.not_true, Bool.false_eq_true, if_false, nextS]
def enumF : Nat → List D → List D
  | _, [] => []
  | i, d :: r => .tup [.int (i : Nat), d] :: enumF (i + 1) r
theorem loop_ok {a b m : D} {w : W} (hr : ∀ i, ∃ s, reprZ (.lst (due a b i)) = some (.str s) ∧ eqB (.str s) (.str s) = some true) : ∀ (es : List D) (i : Nat) (x3 x4 x5 : Slot), AllG a b w i es →
    ∃ y3 y4 y5, forL (tupG 2 (consG (nameG 3) (consG (nameG 4) nilG))) bodyS (enumF i es) [.dat a, .dat b, .dat m, x3, x4, x5] w = .nx [.dat a, .dat b, .dat m, y3, y4, y5] w
  | [], i, x3, x4, x5, _ => ⟨x3, x4, x5, rfl⟩
  | e :: r, i, x3, x4, x5, g => by
    obtain ⟨y3, y4, y5, h⟩ := loop_ok hr r (i + 1) (.dat (.int i)) (.dat e) (.dat (.lst (due a b i))) g.2
    refine ⟨y3, y4, y5, ?_⟩
    unfold enumF forL
    have t : tupG 2 (consG (nameG 3) (consG (nameG 4) nilG)) (.tup [.int (i : Nat), e]) [.dat a, .dat b, .dat m, x3, x4, x5] = some [.dat a, .dat b, .dat m, .dat (.int i), .dat e, x5] := rfl
    simp only [t, body_ok g.1 (hr i)]
    exact h
theorem made_ok (a b : D) (w : W) : AllG a b w 0 (partsL a ++ othersL a b) := ⟨⟨fields_0 a b w, stands_0 a b w⟩, ⟨fields_1 a b w, stands_1 a b w⟩, ⟨fields_2 a b w, stands_2 a b w⟩, ⟨fields_3 a b w, stands_3 a b w⟩, ⟨fields_4 a b w, stands_4 a b w⟩, ⟨fields_5 a b w, stands_5 a b w⟩, ⟨fields_6 a b w, stands_6 a b w⟩, ⟨fields_7 a b w, stands_7 a b w⟩, ⟨fields_8 a b w, stands_8 a b w⟩, ⟨fields_9 a b w, stands_9 a b w⟩, ⟨fields_10 a b w, stands_10 a b w⟩, ⟨fields_11 a b w, stands_11 a b w⟩, ⟨fields_12 a b w, stands_12 a b w⟩, ⟨fields_13 a b w, stands_13 a b w⟩, ⟨fields_14 a b w, stands_14 a b w⟩, ⟨fields_15 a b w, stands_15 a b w⟩, ⟨fields_16 a b w, stands_16 a b w⟩, ⟨fields_17 a b w, stands_17 a b w⟩, ⟨fields_18 a b w, stands_18 a b w⟩, ⟨fields_19 a b w, stands_19 a b w⟩, ⟨fields_20 a b w, stands_20 a b w⟩, ⟨fields_21 a b w, stands_21 a b w⟩, ⟨fields_22 a b w, stands_22 a b w⟩, ⟨fields_23 a b w, stands_23 a b w⟩, ⟨fields_24 a b w, stands_24 a b w⟩, trivial⟩
theorem enum_at : ∀ (ds : List D) (i : Nat), enumF i ds = ds.mapIdx fun j d => .tup [.int ((i + j : Nat) : Int), d]
  | [], i => rfl
  | d :: r, i => by
    rw [List.mapIdx_cons]
    unfold enumF
    rw [enum_at r (i + 1)]
    have e : ∀ j : Nat, i + 1 + j = i + (j + 1) := fun j => by omega
    simp only [e]
    rfl
theorem enum_eq (ds : List D) : enumD ds = enumF 0 ds := by
  rw [enum_at]
  unfold enumD
  simp only [Nat.zero_add]
theorem all_right {a b : D} {w : W} (L : List D) (hL : L.length = 25) (g : AllG a b w 0 L) (hr : ∀ i, ∃ s, reprZ (.lst (due a b i)) = some (.str s) ∧ eqB (.str s) (.str s) = some true) : f__law_all_right [a, b, .lst L] w = .ok (.bl true) w := by
  have st : startD 6 [a, b, .lst L] = [.dat a, .dat b, .dat (.lst L), .non, .non, .non] := rfl
  obtain ⟨y3, y4, y5, h⟩ := loop_ok (m := .lst L) (w := w) hr L 0 .non .non .non g
  have e : enumI (var 2) [.dat a, .dat b, .dat (.lst L), .non, .non, .non] w = .ok (enumD L) w := rfl
  have fs : (forS (enumI (var 2)) (tupG 2 (consG (nameG 3) (consG (nameG 4) nilG))) bodyS) [.dat a, .dat b, .dat (.lst L), .non, .non, .non] w = .nx [.dat a, .dat b, .dat (.lst L), y3, y4, y5] w := by
    unfold forS
    rw [e]
    show forL _ _ (enumD L) _ w = _
    rw [enum_eq]
    exact h
  have q : eqD (.int 25) (.int 25) = some (.bl true) := by kernel_rfl
  have l : lenD (.lst L) = some (.int 25) := by
    show some (D.int (L.length : Nat)) = _
    rw [hL]
    rfl
  unfold f__law_all_right runD
  rw [st, all_eq]
  unfold seqS
  rw [fs]
  simp only [retS, bin, un, op1, op2, cst, var, R.bind, R.out, List.getElem?_cons_succ, List.getElem?_cons_zero, Val.d, l, q]
theorem kin_missing (a : D) (w : W) : f__law_kin [.exn "Missing" [("name", a)]] w = .ok (.lst (List.replicate 25 (.bl false))) w := by kernel_rfl
def lastS : SemS := (seqS (ifS (orT (asB (bin neD (un reprZ (un (fldD cs_name "name") (var 4))) (un reprZ (var 5)))) (asB (bin (inD false) (cst (.bl true)) (callE f__law_kin (consA (var 4) nilA))))) (seqS (retS (cst (.bl false)))
  nextS) nextS)
  (seqS (ifS (orT (notT (truE (un (isWD tab_SayError) (var 4)))) (notT (truE (un (isWD tab_ValueError) (var 4))))) (seqS (retS (cst (.bl false)))
  nextS) nextS)
  nextS))
theorem d_of {d : D} {p : PyData} (h : toPyY d = some p) (w : W) : Val.d w (.dat d) = some d := by
  cases d with
  | ptr n => unfold toPyY at h; cases h
  | _ => rfl
theorem last_ok {a : D} {x0 x1 x2 x3 x6 : Slot} {w : W} (hd : Val.d w (.dat a) = some a) (hr : ∃ s, reprZ a = some (.str s) ∧ eqB (.str s) (.str s) = some true) : lastS [x0, x1, x2, x3, .dat (.exn "Missing" [("name", a)]), .dat a, x6] w = .nx [x0, x1, x2, x3, .dat (.exn "Missing" [("name", a)]), .dat a, x6] w := by
  obtain ⟨s, r1, r2⟩ := hr
  have ne : neD (.str s) (.str s) = some (.bl false) := by unfold neD; rw [r2]; rfl
  have f : fldD cs_name "name" (.exn "Missing" [("name", a)]) = some a := by kernel_rfl
  have t1 : isWD tab_SayError (.exn "Missing" [("name", a)]) = some (.bl true) := by kernel_rfl
  have t2 : isWD tab_ValueError (.exn "Missing" [("name", a)]) = some (.bl true) := by kernel_rfl
  have i : inD false (.bl true) (.lst (List.replicate 25 (.bl false))) = some (.bl false) := by kernel_rfl
  have dm : Val.d w (.dat (.exn "Missing" [("name", a)])) = some (.exn "Missing" [("name", a)]) := rfl
  have ds : Val.d w (.dat (.str s)) = some (.str s) := rfl
  have dt : Val.d w (.dat (.bl true)) = some (.bl true) := rfl
  have dk : Val.d w (.dat (.lst (List.replicate 25 (.bl false)))) = some (.lst (List.replicate 25 (.bl false))) := rfl
  have k := kin_missing a w
  simp only [lastS, seqS, ifS, orT, notT, truE, truD, asB, bin, un, op1, op2, var, cst, callE, consA, nilA, dm, hd, ds, dt, dk, R.bind, R.out, List.getElem?_cons_succ, List.getElem?_cons_zero, f, r1, ne, k, i, t1, t2, Bool.not_true, Bool.false_eq_true, if_false, nextS]
theorem num_lt : (10 : Int) ^ 60 < 2 ^ 200 ∧ (0 : Int) < 10 ^ 60 := by decide
theorem number_ok {k : Nat} {w : W} {x0 x2 x3 x4 x5 x6 : Slot} (J : Jar k w) (hk : k + 2 < 1048576) : ∃ (n : Int) (w' : W), n.natAbs ≤ 10 ^ 60 ∧ Jar (k + 2) w' ∧ (setS 2 (bin mulD (callE f__law_some (consA (var 1) (consA (mkA (consA (cst (.int 1)) (consA (un negF (cst (.int 1))) nilA)) lstF) nilA))) (callE f__law_dip (consA (var 1) (consA (bin powD (cst (.int 10)) (cst (.int 60))) nilA))))) [x0, .dat (.ptr 0), x2, x3, x4, x5, x6] w = .nx [x0, .dat (.ptr 0), .dat (.int n), x3, x4, x5, x6] w' := by
  obtain ⟨s, w1, ms, e1, J1⟩ := some_lst (xs := [.int 1, .int (-1)]) J (by omega) (by decide) (by decide)
  obtain ⟨i, w2, e2, i0, i1, J2⟩ := dip_ok (m := 10 ^ 60) J1 (by omega) num_lt.2 (by decide +kernel)
  have hs : ∃ t : Int, s = .int t ∧ t.natAbs = 1 := by
    simp only [List.mem_cons, List.not_mem_nil, or_false] at ms
    rcases ms with rfl | rfl
    · exact ⟨1, rfl, rfl⟩
    · exact ⟨-1, rfl, rfl⟩
  obtain ⟨t, rfl, ht⟩ := hs
  refine ⟨t * i, w2, ?_, J2, ?_⟩
  · rw [Int.natAbs_mul, ht, Nat.one_mul]
    omega
  · have p : powD (.int 10) (.int 60) = some (.int (10 ^ 60)) := by kernel_rfl
    have ng : negF (.int 1) = some (.int (-1)) := by kernel_rfl
    have l2 : lstF [.int 1, .int (-1)] = some (.lst [.int 1, .int (-1)]) := rfl
    have mm : mulD (.int t) (.int i) = some (.int (t * i)) := mulD_ok (by
      have := log_le (k := 200) i0 (Int.lt_trans i1 num_lt.1)
      rw [ht]
      have : Nat.log2 1 = 0 := by decide
      omega)
    have m2 : ((0 : Nat) + 1 + 1 ≤ most) := by decide
    have h15 : (1 : Nat) ≤ 15 := by decide
    simp only [setS, bin, callE, consA, nilA, mkA, un, op1, op2, cst, var, Val.d, R.bind, R.out, List.getElem?_cons_succ, List.getElem?_cons_zero, List.length_cons, List.length_nil, m2, if_true, ng, l2, e1, p, e2, mm, List.set_cons_succ, List.set_cons_zero]
theorem seq_go {s t : SemS} {ρ ρ1 : List Slot} {w w1 : W} (h : s ρ w = .nx ρ1 w1) : seqS s t ρ w = t ρ1 w1 := by
  unfold seqS
  rw [h]
theorem consA_ok {a : SemE} {r : SemA} {ρ : List Slot} {w w1 w2 : W} {d : D} {ds : List D} (h : a ρ w = .ok (.dat d) w1) (q : r ρ w1 = .ok ds w2) : consA a r ρ w = .ok (d :: ds) w2 := by
  unfold consA
  rw [h]
  show (r ρ w1).bind _ = _
  rw [q]
  rfl
theorem callE_ok {f : Sem} {sa : SemA} {ρ : List Slot} {w w1 w2 : W} {d : D} {ds : List D} (h : sa ρ w = .ok ds w1) (q : f ds w1 = .ok d w2) : callE f sa ρ w = .ok (.dat d) w2 := by
  unfold callE
  rw [h]
  show (f ds w1).bind _ = _
  rw [q]
  rfl
def plainS : SemS := (setS 3 (mkA (consA (cst .non) (consA (cst (.bl true)) (consA (var 2) (consA (cst (.str "part")) (consA (cst (.str "")) (consA (mkA (consA (cst (.str "a")) (consA (cst (.int 1)) nilA)) tupF) (consA (mkA (consA (var 2) nilA) lstF) (consA (dctE (consP (.inr "a") (mkA (consA (cst (.int 1)) nilA) lstF) nilP)) nilA)))))))) lstF))
def drawnS : SemS := (setsS [5, 6] (consA (callE f__law_some (consA (var 1) (consA (var 3) nilA))) (consA (callE f__law_some (consA (var 1) (consA (mkA (consA (cst (.int 0)) (consA (cst (.bl false)) (consA (cst (.str "room")) (consA (mkA nilA lstF) (consA (mkA nilA tupF) (consA (dctE (consP (.inl 1) (cst (.int 2)) nilP)) (consA (bin addD (var 2) (cst (.int 1))) (consA (cst .non) nilA)))))))) lstF) nilA))) nilA)))
def testS (f g : Sem) : SemS := (ifS (notT (truE (callE f__law_all_right (consA (var 5) (consA (var 6) (consA (bin addD (callE f (consA (var 5) nilA)) (callE g (consA (var 5) (consA (var 6) nilA)))) nilA)))))) (seqS (retS (cst (.bl false)))
  nextS) nextS)
def endS : SemS := (forS (walkI (mkA (consA (mkA (consA (var 5) nilA) (exnF "Missing" ["name"])) (consA (mkA (consA (var 5) nilA) fun ds => if ds.length = 1 then exnF "Missing" ["name"] (id ds) else none) nilA)) lstF)) (nameG 4) lastS)
def plainL (n : Int) : List D := [D.non, .bl true, .int n, .str "part", .str "", .tup [.str "a", .int 1], .lst [.int n], .dct (mergeD [] [(.inr "a", .lst [.int 1])])]
def otherL (n : Int) : List D := [D.int 0, .bl false, .str "room", .lst [], .tup [], .dct (mergeD [] [(.inl 1, .int 2)]), .int (n + 1), .non]
theorem plain_ok {x0 x3 x4 x5 x6 : Slot} {w : W} (n : Int) : plainS [x0, .dat (.ptr 0), .dat (.int n), x3, x4, x5, x6] w = .nx [x0, .dat (.ptr 0), .dat (.int n), .dat (.lst (plainL n)), x4, x5, x6] w := by kernel_rfl
theorem other_ok {x0 x3 x4 x5 x6 : Slot} {w : W} (n : Int) : (mkA (consA (cst (.int 0)) (consA (cst (.bl false)) (consA (cst (.str "room")) (consA (mkA nilA lstF) (consA (mkA nilA tupF) (consA (dctE (consP (.inl 1) (cst (.int 2)) nilP)) (consA (bin addD (var 2) (cst (.int 1))) (consA (cst .non) nilA)))))))) lstF) [x0, .dat (.ptr 0), .dat (.int n), x3, x4, x5, x6] w = .ok (.dat (.lst (otherL n))) w := by kernel_rfl
theorem drawn_ok {n : Int} {a b : D} {x0 x4 x5 x6 : Slot} {w1 w2 w3 : W} (e2 : f__law_some [.ptr 0, .lst (plainL n)] w1 = .ok a w2) (e3 : f__law_some [.ptr 0, .lst (otherL n)] w2 = .ok b w3) :
    drawnS [x0, .dat (.ptr 0), .dat (.int n), .dat (.lst (plainL n)), x4, x5, x6] w1 = .nx [x0, .dat (.ptr 0), .dat (.int n), .dat (.lst (plainL n)), x4, .dat a, .dat b] w3 := by
  have o := other_ok (x0 := x0) (x3 := .dat (.lst (plainL n))) (x4 := x4) (x5 := x5) (x6 := x6) (w := w2) n
  have c1 : (callE f__law_some (consA (var 1) (consA (var 3) nilA))) [x0, .dat (.ptr 0), .dat (.int n), .dat (.lst (plainL n)), x4, x5, x6] w1 = .ok (.dat a) w2 := by
    simp only [callE, consA, nilA, var, R.bind, List.getElem?_cons_succ, List.getElem?_cons_zero, e2]
  have c2 : (callE f__law_some (consA (var 1) (consA (mkA (consA (cst (.int 0)) (consA (cst (.bl false)) (consA (cst (.str "room")) (consA (mkA nilA lstF) (consA (mkA nilA tupF) (consA (dctE (consP (.inl 1) (cst (.int 2)) nilP)) (consA (bin addD (var 2) (cst (.int 1))) (consA (cst .non) nilA)))))))) lstF) nilA))) [x0, .dat (.ptr 0), .dat (.int n), .dat (.lst (plainL n)), x4, x5, x6] w2 = .ok (.dat b) w3 := by
    exact callE_ok (consA_ok rfl (consA_ok o rfl)) e3
  have c3 := consA_ok c1 (consA_ok c2 (rfl : nilA [x0, .dat (.ptr 0), .dat (.int n), .dat (.lst (plainL n)), x4, x5, x6] w3 = .ok [] w3))
  unfold drawnS setsS
  rw [c3]
  rfl
theorem test_ok {f g : Sem} {a b : D} {x0 x1 x2 x3 x4 : Slot} {w : W} (hr : ∀ i, ∃ s, reprZ (.lst (due a b i)) = some (.str s) ∧ eqB (.str s) (.str s) = some true) (hf : ∀ w, f [a] w = .ok (.lst (partsL a)) w) (hg : ∀ w, g [a, b] w = .ok (.lst (othersL a b)) w) :
    testS f g [x0, x1, x2, x3, x4, .dat a, .dat b] w = .nx [x0, x1, x2, x3, x4, .dat a, .dat b] w := by
  have ad : addD (.lst (partsL a)) (.lst (othersL a b)) = some (.lst (partsL a ++ othersL a b)) := rfl
  have al := all_right (w := w) (partsL a ++ othersL a b) rfl (made_ok a b w) hr
  have d1 : Val.d w (.dat (.lst (partsL a))) = some (.lst (partsL a)) := rfl
  have d2 : Val.d w (.dat (.lst (othersL a b))) = some (.lst (othersL a b)) := rfl
  simp only [testS, ifS, notT, truE, truD, callE, consA, nilA, bin, op2, var, R.bind, R.out, List.getElem?_cons_succ, List.getElem?_cons_zero, hf, hg, d1, d2, ad, al, show Val.d w (.dat (.bl true)) = some (.bl true) from rfl, Bool.not_true, Bool.false_eq_true, if_false, nextS]
theorem end_ok {a b : D} {x0 x1 x2 x3 x4 : Slot} {w : W} (hd : ∀ w, Val.d w (.dat a) = some a) (hr : ∃ s, reprZ a = some (.str s) ∧ eqB (.str s) (.str s) = some true) :
    endS [x0, x1, x2, x3, x4, .dat a, .dat b] w = .nx [x0, x1, x2, x3, .dat (.exn "Missing" [("name", a)]), .dat a, .dat b] w := by
  have i : (walkI (mkA (consA (mkA (consA (var 5) nilA) (exnF "Missing" ["name"])) (consA (mkA (consA (var 5) nilA) fun ds => if ds.length = 1 then exnF "Missing" ["name"] (id ds) else none) nilA)) lstF)) [x0, x1, x2, x3, x4, .dat a, .dat b] w = .ok [.exn "Missing" [("name", a)], .exn "Missing" [("name", a)]] w := by kernel_rfl
  unfold endS forS
  rw [i]
  have l := fun (x0 x1 x2 x3 x6 : Slot) => last_ok (x0 := x0) (x1 := x1) (x2 := x2) (x3 := x3) (x6 := x6) (w := w) (hd w) hr
  simp only [R.out]
  unfold forL
  simp only [nameG, List.set_cons_succ, List.set_cons_zero, l]
  unfold forL
  simp only [nameG, List.set_cons_succ, List.set_cons_zero, l]
  rfl
theorem law_true : ∀ ns : List Int, ns.length ≤ 63 → ∃ w1, f_law [.scr ns] [] = .ok (.bl true) w1 := fun ns h => by
  have st : startD 7 [.scr ns] = [.dat (.scr ns), .non, .non, .non, .non, .non, .non] := rfl
  have J : Jar 0 [jarC ns 0 0] := ⟨ns, 0, 0, rfl, h, by decide, by decide, by decide⟩
  have e0 := jar_ok h
  obtain ⟨n, w1, hn, J1, e1⟩ := number_ok (x0 := .dat (.scr ns)) (x2 := .non) (x3 := .non) (x4 := .non) (x5 := .non) (x6 := .non) J (by decide)
  obtain ⟨a, w2, ma, e2, J2⟩ := some_lst (xs := [D.non, .bl true, .int n, .str "part", .str "", .tup [.str "a", .int 1], .lst [.int n], .dct (mergeD [] [(.inr "a", .lst [.int 1])])]) J1 (by omega) (by simp) (by simp)
  obtain ⟨b, w3, mb, e3, J3⟩ := some_lst (xs := [D.int 0, .bl false, .str "room", .lst [], .tup [], .dct (mergeD [] [(.inl 1, .int 2)]), .int (n + 1), .non]) J2 (by omega) (by simp) (by simp)
  have big : (10 : Nat) ^ 60 + 1 < 10 ^ 61 := by decide
  obtain ⟨p, ha⟩ := sh_a (n := n) (by omega) ma
  obtain ⟨q, hb⟩ := sh_b (n := n) (by omega) mb
  have hr : ∀ i, ∃ s, reprZ (.lst (due a b i)) = some (.str s) ∧ eqB (.str s) (.str s) = some true := fun i => by
    unfold due
    by_cases h1 : i < 20
    · rw [if_pos h1]; exact (sh_one ha (by decide)).repr (by decide)
    · rw [if_neg h1]
      by_cases h2 : i < 24
      · rw [if_pos h2]; exact (sh_two ha hb (by decide)).repr (by decide)
      · rw [if_neg h2]; exact sh_nil.repr (by decide)
  have da := d_of ha.py
  refine ⟨w3, ?_⟩
  have es : s_law = seqS (setS 1 (callE f__law_jar (consA (var 0) nilA))) (seqS (setS 2 (bin mulD (callE f__law_some (consA (var 1) (consA (mkA (consA (cst (.int 1)) (consA (un negF (cst (.int 1))) nilA)) lstF) nilA))) (callE f__law_dip (consA (var 1) (consA (bin powD (cst (.int 10)) (cst (.int 60))) nilA)))))
    (seqS plainS (seqS drawnS (seqS (testS f__law_parts f__law_others) (seqS (testS f__law_parts_turned f__law_others_named) (seqS endS (seqS (retS (cst (.bl true))) nextS))))))) := rfl
  have step1 : (setS 1 (callE f__law_jar (consA (var 0) nilA))) [.dat (.scr ns), .non, .non, .non, .non, .non, .non] [] = .nx [.dat (.scr ns), .dat (.ptr 0), .non, .non, .non, .non, .non] [jarC ns 0 0] := by
    simp only [setS, callE, consA, nilA, var, R.bind, R.out, List.getElem?_cons_zero, e0, List.set_cons_succ, List.set_cons_zero]
  unfold f_law runD
  rw [st, es, seq_go step1, seq_go e1, seq_go (plain_ok n), seq_go (drawn_ok e2 e3), seq_go (test_ok hr (fun w => parts_ok a w) (fun w => others_ok a b w)), seq_go (test_ok hr (fun w => turned_ok a w) (fun w => named_ok a b w)), seq_go (end_ok da (ha.repr (by decide)))]
  rfl
end K00

namespace K00
open PySem PySem.Spec PyProof.Rows L2 DL
theorem run (w : World) : HandSHeadRun.RunEq Rw qv hk ob 20000 names w := by
  intro os
  kernel_rfl
end K00
open PySem PySem.W PySem.Calls PyProof.Rows
theorem PySem.Challenge.cw_sayable_k00_errors_keep_their_fields_holds : PySem.Challenge.rw_sayable_k00_errors_keep_their_fields.Holds := by
  w_on; o_law
  refine HandSHeadRun.head_any (r := PySem.W.OpenLaw.row PySem.Challenge.rw_sayable_k00_errors_keep_their_fields) (q := K00.qv) (H := K00.hk) (ob := K00.ob) (M := 20000) (loose := K00.names) (d := HandSHeadRun.topDef (PySem.W.OpenLaw.row PySem.Challenge.rw_sayable_k00_errors_keep_their_fields).prog 40) (kwd := []) K00.ob_eq
    (by kernel_rfl) (fun s => by kernel_rfl) K00.run (by kernel_rfl) (by kernel_rfl) (by kernel_rfl) (by rfl) (by first | assumption | decide +kernel) (by decide +kernel) ⟨rfl, rfl, rfl, rfl, rfl, by decide +kernel⟩ ?hw ?hc
  case hw => w_witness2
  case hc =>
    refine DL.walkS (l := PySem.Challenge.rw_sayable_k00_errors_keep_their_fields) (n := 63) (k := 4) (x := "_law_script") (g := K00.f_law) rfl (by decide) (by kernel_rfl) ⟨rfl, by decide, by decide⟩ rfl (fun w mg fa h Y G hmg0 => ?_) K00.law_true
    obtain ⟨⟨K, KX, c⟩, sd⟩ := Y
    have Z := K00.facts KX G c
    have named : (HandSHeadRun.topDef (PySem.W.OpenLaw.row PySem.Challenge.rw_sayable_k00_errors_keep_their_fields).prog 40).name = ("law" : PySem.Str) := by kernel_rfl
    have here : mg ("law" : PySem.Str) = some (.ref fa) := named ▸ hmg0
    obtain rfl : fa = He.ga K "law" := by
      have z := here.symm.trans Z.m_law
      cases z
      rfl
    obtain ⟨fd, F⟩ := Z.p_law
    exact ⟨K, fd, sd, KX, fun s v => (L2.FunD.bindsA (ps := ["_law_script"]) F (fun _ _ _ _ _ _ us hl => match us, hl with | [_], _ => rfl)) s [v] rfl, fun b _ _ hS => K00.d_law hS F Z⟩

