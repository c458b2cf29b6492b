import PyProof.Rows.All
import Wide.All
import OpenK.AllK
import Wide.FinOn
import HandS.ForMost
import HandS.Wide
import HandS.IsInst
import HandS.Style
import HandS.Conv
import HandS.SortInts
import HandS.More
import KE.SortData
import KE.DataMinMax
import HandS.TryOnly
import HandS.Flow
import HandS.Deep
import KE.KTupSum
import HandS.SetFor
import HandS.Strs
import HandS.DictComp
import PySem.Challenge.RW_bothdoors_k70_whole_great_tapes_judged
set_option Elab.async false
set_option linter.all false
set_option maxRecDepth 100000
/-! PLa: data trees with ownership, over the hand layer: D, Rep, freezing, environments. -/
namespace PL
open PySem L2

/-- the kinds of objects that may be changed (sq: a list that is only read, the script or one of the module's) -/
inductive Sh where
  | lst | sq | dK (ks : List Key) | dT (ks : List (List Key)) | ins (C : Addr) (ns : List Str)
/-- a value as a tree. o = true: an own object, that nothing else reaches; o = false: a frozen one, that is never written any more -/
inductive D where
  | sc (v : V)
  | tup (xs : List D)
  | obj (o : Bool) (sh : Sh) (xs : List D)
namespace D
abbrev non : D := .sc .non
abbrev bl (b : Bool) : D := .sc (.bl b)
abbrev int (i : Int) : D := .sc (.int i)
abbrev str (x : Str) : D := .sc (.str x)
abbrev lst (o : Bool) (xs : List D) : D := .obj o .lst xs
end D

mutual
def D.frz : D → D
  | .sc v => .sc v
  | .tup xs => .tup (D.frzL xs)
  | .obj _ sh xs => .obj false sh (D.frzL xs)
def D.frzL : List D → List D
  | [] => []
  | x :: xs => x.frz :: D.frzL xs
end
mutual
def D.fz : D → Bool
  | .sc _ => true
  | .tup xs => D.fzL xs
  | .obj o _ xs => !o && D.fzL xs
def D.fzL : List D → Bool
  | [] => true
  | x :: xs => x.fz && D.fzL xs
end
mutual
theorem D.frz_of_fz : ∀ {d : D}, d.fz = true → d.frz = d
  | .sc _, _ => rfl
  | .tup xs, h => by simp only [D.fz] at h; simp only [D.frz, D.frzL_of_fzL h]
  | .obj o ks xs, h => by simp only [D.fz, Bool.and_eq_true, Bool.not_eq_true'] at h; simp only [D.frz, D.frzL_of_fzL h.2, h.1]
theorem D.frzL_of_fzL : ∀ {xs : List D}, D.fzL xs = true → D.frzL xs = xs
  | [], _ => rfl
  | x :: xs, h => by simp only [D.fzL, Bool.and_eq_true] at h; simp only [D.frzL, D.frz_of_fz h.1, D.frzL_of_fzL h.2]
end
mutual
theorem D.fz_frz : ∀ d : D, d.frz.fz = true
  | .sc _ => rfl
  | .tup xs => by simp only [D.frz, D.fz, D.fzL_frzL xs]
  | .obj o ks xs => by simp only [D.frz, D.fz, D.fzL_frzL xs]; rfl
theorem D.fzL_frzL : ∀ xs : List D, D.fzL (D.frzL xs) = true
  | [] => rfl
  | x :: xs => by simp only [D.frzL, D.fzL, D.fz_frz x, D.fzL_frzL xs]; rfl
end
theorem D.frzL_map (xs : List D) : D.frzL xs = xs.map D.frz := by
  induction xs with
  | nil => rfl
  | cons x xs ih => simp only [D.frzL, List.map_cons, ih]
theorem D.fzL_all (xs : List D) : D.fzL xs = xs.all D.fz := by
  induction xs with
  | nil => rfl
  | cons x xs ih => simp only [D.fzL, List.all_cons, ih]
theorem D.frzL_length (xs : List D) : (D.frzL xs).length = xs.length := by rw [D.frzL_map, List.length_map]
theorem D.fzL_mem {xs : List D} (h : D.fzL xs = true) {x : D} (hx : x ∈ xs) : x.fz = true := by
  rw [D.fzL_all, List.all_eq_true] at h; exact h x hx
theorem D.fzL_of {xs : List D} (h : ∀ x ∈ xs, x.fz = true) : D.fzL xs = true := by
  rw [D.fzL_all, List.all_eq_true]; exact h

/-- an own object of that kind at p, its items vs -/
def CellO (H : Hp) (sh : Sh) (p : Addr) (vs : List V) : Prop :=
  match sh with
  | .lst => H p = some (.lst vs)
  | .sq => False
  | .dK ks => H p = some (.dK (ks.zip vs)) ∧ ks.length = vs.length
  | .dT ks => H p = some (.dT (ks.zip vs)) ∧ ks.length = vs.length
  | .ins C ns => ∃ dx, H p = some (.ins C dx (ns.zip vs)) ∧ ns.length = vs.length
/-- a frozen one (a list: perhaps the script, or one of the module's) -/
def CellF (K : PySem.W.Frag) (F : Hp) (sh : Sh) (p : Addr) (vs : List V) : Prop :=
  match sh with
  | .sq => SqL K F p vs
  | sh => CellO F sh p vs
theorem Same.sqT {K : PySem.W.Frag} {H H' : Hp} {a : Addr} {xs : List V} (e : Same H H') (h : SqT K H a xs) : SqT K H' a xs := by
  rcases h with (h | ⟨o, h⟩) | h
  · exact .inl (.inl (e _ _ h))
  · exact .inl (.inr ⟨o, e _ _ h⟩)
  · exact .inr h
theorem CellO.of_eq {H H' : Hp} {sh : Sh} {p : Addr} {vs : List V} (e : H' p = H p) (h : CellO H sh p vs) : CellO H' sh p vs := by
  cases sh with
  | lst => exact e.trans h
  | sq => exact h.elim
  | dK ks => exact ⟨e.trans h.1, h.2⟩
  | dT ks => exact ⟨e.trans h.1, h.2⟩
  | ins C ns => obtain ⟨dx, h, l⟩ := h; exact ⟨dx, e.trans h, l⟩
theorem CellO.there {H : Hp} {sh : Sh} {p : Addr} {vs : List V} (h : CellO H sh p vs) : ∃ o, H p = some o := by
  cases sh with
  | lst => exact ⟨_, h⟩
  | sq => exact h.elim
  | dK ks => exact ⟨_, h.1⟩
  | dT ks => exact ⟨_, h.1⟩
  | ins C ns => obtain ⟨dx, h, l⟩ := h; exact ⟨_, h⟩
theorem CellO.same {H H' : Hp} {sh : Sh} {p : Addr} {vs : List V} (e : Same H H') (h : CellO H sh p vs) : CellO H' sh p vs := by
  obtain ⟨o, z⟩ := h.there
  exact h.of_eq ((e _ _ z).trans z.symm)
theorem CellF.same {K : PySem.W.Frag} {F F' : Hp} {sh : Sh} {p : Addr} {vs : List V} (e : Same F F') (h : CellF K F sh p vs) : CellF K F' sh p vs := by
  cases sh with
  | sq => exact e.seq h
  | lst => exact CellO.same (sh := .lst) e h
  | dK ks => exact CellO.same (sh := .dK ks) e h
  | dT ks => exact CellO.same (sh := .dT ks) e h
  | ins C ns => exact CellO.same (sh := .ins C ns) e h
theorem CellF.of {K : PySem.W.Frag} {F : Hp} {sh : Sh} {p : Addr} {vs : List V} (h : CellO F sh p vs) : CellF K F sh p vs := by
  cases sh with
  | sq => exact h.elim
  | lst => exact h
  | dK ks => exact h
  | dT ks => exact h
  | ins C ns => exact h

section
variable (K : PySem.W.Frag) (F H : Hp)
mutual
/-- the tree d lies at v: its frozen part in F, its own objects at A in H -/
inductive Rep : D → V → List Addr → Prop
  | sc {v} : Rep (.sc v) v []
  | tup {p vs xs A} : SqT K F p vs → RepL xs vs A → Rep (.tup xs) (.ref p) A
  | own {sh p vs xs A} : CellO H sh p vs → RepL xs vs A → Rep (.obj true sh xs) (.ref p) (p :: A)
  | frz {sh p vs xs} : CellF K F sh p vs → RepL xs vs [] → Rep (.obj false sh xs) (.ref p) []
inductive RepL : List D → List V → List Addr → Prop
  | nil : RepL [] [] []
  | cons {d v A ds vs B} : Rep d v A → RepL ds vs B → RepL (d :: ds) (v :: vs) (A ++ B)
end
end

section
variable {K : PySem.W.Frag} {F F' H H' : Hp}
theorem Rep.ind {P : D → V → List Addr → Prop} {PL : List D → List V → List Addr → Prop}
    (sc : ∀ {v}, P (.sc v) v []) (tup : ∀ {p vs xs A}, SqT K F p vs → RepL K F H xs vs A → PL xs vs A → P (.tup xs) (.ref p) A)
    (own : ∀ {sh p vs xs A}, CellO H sh p vs → RepL K F H xs vs A → PL xs vs A → P (.obj true sh xs) (.ref p) (p :: A))
    (frz : ∀ {sh p vs xs}, CellF K F sh p vs → RepL K F H xs vs [] → PL xs vs [] → P (.obj false sh xs) (.ref p) [])
    (nil : PL [] [] []) (cons : ∀ {d v A ds vs B}, Rep K F H d v A → RepL K F H ds vs B → P d v A → PL ds vs B → PL (d :: ds) (v :: vs) (A ++ B)) :
    (∀ {d v A}, Rep K F H d v A → P d v A) ∧ (∀ {ds vs A}, RepL K F H ds vs A → PL ds vs A) :=
  ⟨fun {d v A} r => Rep.rec (motive_1 := fun d v A _ => P d v A) (motive_2 := fun ds vs A _ => PL ds vs A) sc tup own frz nil cons r,
   fun {ds vs A} r => RepL.rec (motive_1 := fun d v A _ => P d v A) (motive_2 := fun ds vs A _ => PL ds vs A) sc tup own frz nil cons r⟩
theorem Rep.frames (e : Same F F') : (∀ {d v A}, Rep K F H d v A → (∀ a ∈ A, H' a = H a) → Rep K F' H' d v A) ∧ (∀ {ds vs A}, RepL K F H ds vs A → (∀ a ∈ A, H' a = H a) → RepL K F' H' ds vs A) :=
  Rep.ind (P := fun d v A => (∀ a ∈ A, H' a = H a) → Rep K F' H' d v A) (PL := fun ds vs A => (∀ a ∈ A, H' a = H a) → RepL K F' H' ds vs A)
    (fun _ => .sc) (fun h _ ih k => .tup (Same.sqT e h) (ih k)) (fun h _ ih k => .own (h.of_eq (k _ (List.mem_cons_self ..))) (ih fun a ha => k a (List.mem_cons_of_mem _ ha)))
    (fun h _ ih k => .frz (h.same e) (ih k)) (fun _ => .nil) (fun _ _ i1 i2 k => .cons (i1 fun a ha => k a (List.mem_append_left _ ha)) (i2 fun a ha => k a (List.mem_append_right _ ha)))
theorem Rep.frame {d v A} (r : Rep K F H d v A) (e : Same F F') (k : ∀ a ∈ A, H' a = H a) : Rep K F' H' d v A := (Rep.frames e).1 r k
theorem RepL.frame {d v A} (r : RepL K F H d v A) (e : Same F F') (k : ∀ a ∈ A, H' a = H a) : RepL K F' H' d v A := (Rep.frames e).2 r k
end

/-- the frozen part, with the objects at A -/
def fzAt (F H : Hp) (A : List Addr) : Hp := fun a => if a ∈ A then H a else F a
theorem fzAt_in {F H : Hp} {A : List Addr} {a : Addr} (h : a ∈ A) : fzAt F H A a = H a := if_pos h
theorem fzAt_out {F H : Hp} {A : List Addr} {a : Addr} (h : a ∉ A) : fzAt F H A a = F a := if_neg h
theorem fzAt_same {F H : Hp} {A : List Addr} (h : ∀ a ∈ A, F a = none) : Same F (fzAt F H A) := fun b o e => by
  rw [fzAt_out (fun z => by rw [h b z] at e; cases e)]; exact e
theorem fzAt_sub {F H : Hp} {A : List Addr} (s : Same F H) : Same (fzAt F H A) H := fun b o e => by
  unfold fzAt at e
  split at e
  · exact e
  · exact s _ _ e
section
variable {K : PySem.W.Frag} {F F' H : Hp}
theorem Rep.freezes (e : Same F F') : (∀ {d v A}, Rep K F H d v A → (∀ a ∈ A, F' a = H a) → Rep K F' H d.frz v []) ∧ (∀ {ds vs A}, RepL K F H ds vs A → (∀ a ∈ A, F' a = H a) → RepL K F' H (D.frzL ds) vs []) :=
  Rep.ind (P := fun d v A => (∀ a ∈ A, F' a = H a) → Rep K F' H d.frz v []) (PL := fun ds vs A => (∀ a ∈ A, F' a = H a) → RepL K F' H (D.frzL ds) vs [])
    (fun _ => .sc) (fun h _ ih k => .tup (Same.sqT e h) (ih k)) (fun h _ ih k => .frz (CellF.of (h.of_eq (k _ (List.mem_cons_self ..)))) (ih fun a ha => k a (List.mem_cons_of_mem _ ha)))
    (fun h _ ih k => .frz (h.same e) (ih k)) (fun _ => .nil) (fun _ _ i1 i2 k => .cons (A := []) (B := []) (i1 fun a ha => k a (List.mem_append_left _ ha)) (i2 fun a ha => k a (List.mem_append_right _ ha)))
theorem Rep.freeze {d v A} (r : Rep K F H d v A) (e : Same F F') (k : ∀ a ∈ A, F' a = H a) : Rep K F' H d.frz v [] := (Rep.freezes e).1 r k
theorem RepL.freeze {d v A} (r : RepL K F H d v A) (e : Same F F') (k : ∀ a ∈ A, F' a = H a) : RepL K F' H (D.frzL d) v [] := (Rep.freezes e).2 r k
/-- every own object stands in the heap -/
theorem Rep.theres : (∀ {d v A}, Rep K F H d v A → ∀ a ∈ A, ∃ o, H a = some o) ∧ (∀ {ds vs A}, RepL K F H ds vs A → ∀ a ∈ A, ∃ o, H a = some o) :=
  Rep.ind (P := fun d v A => ∀ a ∈ A, ∃ o, H a = some o) (PL := fun ds vs A => ∀ a ∈ A, ∃ o, H a = some o)
    (fun a h => nomatch h) (fun _ _ ih => ih) (fun h _ ih a ha => (List.mem_cons.mp ha).elim (fun z => z ▸ h.there) (ih a)) (fun _ _ ih => ih) (fun a h => nomatch h)
    (fun _ _ i1 i2 a ha => (List.mem_append.mp ha).elim (i1 a) (i2 a))
theorem Rep.there {d v A} (r : Rep K F H d v A) : ∀ a ∈ A, ∃ o, H a = some o := Rep.theres.1 r
theorem RepL.there {d v A} (r : RepL K F H d v A) : ∀ a ∈ A, ∃ o, H a = some o := Rep.theres.2 r
theorem Rep.fzNils : (∀ {d v A}, Rep K F H d v A → d.fz = true → A = []) ∧ (∀ {ds vs A}, RepL K F H ds vs A → D.fzL ds = true → A = []) :=
  Rep.ind (P := fun d v A => d.fz = true → A = []) (PL := fun ds vs A => D.fzL ds = true → A = [])
    (fun _ => rfl) (fun _ _ ih z => ih z) (fun _ _ _ z => by simp [D.fz] at z) (fun _ _ _ _ => rfl) (fun _ => rfl)
    (fun _ _ i1 i2 z => by simp only [D.fzL, Bool.and_eq_true] at z; rw [i1 z.1, i2 z.2]; rfl)
theorem Rep.fzNil {d v A} (r : Rep K F H d v A) (z : d.fz = true) : A = [] := Rep.fzNils.1 r z
theorem RepL.fzNil {d v A} (r : RepL K F H d v A) (z : D.fzL d = true) : A = [] := Rep.fzNils.2 r z
theorem RepL.length {ds vs A} (r : RepL K F H ds vs A) : ds.length = vs.length :=
  (Rep.ind (P := fun d v A => True) (PL := fun ds vs A => ds.length = vs.length) trivial (fun _ _ _ => trivial) (fun _ _ _ => trivial) (fun _ _ _ => trivial) rfl (fun _ _ _ i => by simp only [List.length_cons, i])).2 r
theorem RepL.cons_inv {d ds vs A} (r : RepL K F H (d :: ds) vs A) : ∃ v us A1 A2, vs = v :: us ∧ A = A1 ++ A2 ∧ Rep K F H d v A1 ∧ RepL K F H ds us A2 := by
  cases r with
  | cons r s => exact ⟨_, _, _, _, rfl, rfl, r, s⟩
theorem RepL.nil_inv {vs A} (r : RepL K F H [] vs A) : vs = [] ∧ A = [] := by cases r; exact ⟨rfl, rfl⟩
/-- an item, with the others around it: another tree may be put in its place -/
theorem RepL.get {ds : List D} : ∀ {vs A} {i : Nat} {d}, RepL K F H ds vs A → ds[i]? = some d → ∃ v A1 A0 A2, vs[i]? = some v ∧ A = A1 ++ A0 ++ A2 ∧ Rep K F H d v A0 ∧
    ∀ {F' H' : Hp} {d' v' A0'}, Same F F' → (∀ a ∈ A1 ++ A2, H' a = H a) → Rep K F' H' d' v' A0' → RepL K F' H' (ds.set i d') (vs.set i v') (A1 ++ A0' ++ A2) := by
  induction ds with
  | nil => intro vs A i d r e; simp at e
  | cons x xs ih =>
    intro vs A i d r e
    obtain ⟨v, us, A1, A2, rfl, rfl, r1, r2⟩ := r.cons_inv
    cases i with
    | zero =>
      simp only [List.getElem?_cons_zero, Option.some.injEq] at e; subst e
      refine ⟨v, [], A1, A2, rfl, by simp, r1, fun {F' H' d' v' A0'} s k q => ?_⟩
      simp only [List.set_cons_zero, List.nil_append]
      exact .cons q (r2.frame s fun a ha => k a (by simpa using ha))
    | succ i =>
      simp only [List.getElem?_cons_succ] at e
      obtain ⟨v', B1, B0, B2, h1, h2, h3, h4⟩ := ih r2 e
      refine ⟨v', A1 ++ B1, B0, B2, by simpa using h1, by rw [h2]; simp, h3, fun {F' H' d' v' A0'} s k q => ?_⟩
      have := RepL.cons (r1.frame (H' := H') s fun a ha => k a (by simp [ha])) (h4 s (fun a ha => k a (by
        rcases List.mem_append.mp ha with z | z
        · simp [z]
        · simp [z])) q)
      simpa only [List.set_cons_succ, List.append_assoc] using this
theorem RepL.app {ds : List D} : ∀ {vs A es us B}, RepL K F H ds vs A → RepL K F H es us B → RepL K F H (ds ++ es) (vs ++ us) (A ++ B) := by
  induction ds with
  | nil => intro vs A es us B r s; obtain ⟨rfl, rfl⟩ := r.nil_inv; exact s
  | cons x xs ih =>
    intro vs A es us B r s
    obtain ⟨v, us, A1, A2, rfl, rfl, r1, r2⟩ := r.cons_inv
    have := RepL.cons r1 (ih r2 s)
    simpa only [List.cons_append, List.append_assoc] using this
theorem RepL.one {d v A} (r : Rep K F H d v A) : RepL K F H [d] [v] A := by
  have := RepL.cons r (.nil (K := K) (F := F) (H := H))
  rwa [List.append_nil] at this
theorem RepL.one_inv {d vs A} (r : RepL K F H [d] vs A) : ∃ v, vs = [v] ∧ Rep K F H d v A := by
  obtain ⟨v, us, A1, A2, rfl, rfl, r1, r2⟩ := r.cons_inv
  obtain ⟨rfl, rfl⟩ := r2.nil_inv
  exact ⟨v, rfl, by simpa using r1⟩
/-- a sublist of items -/
theorem RepL.fz_mem {ds : List D} {vs A} (r : RepL K F H ds vs A) (z : D.fzL ds = true) : RepL K F H ds vs [] := by
  have := r.fzNil z; subst this; exact r
theorem RepL.fz_get {ds : List D} {vs : List V} {i : Nat} {d : D} (r : RepL K F H ds vs []) (e : ds[i]? = some d) : ∃ v, vs[i]? = some v ∧ Rep K F H d v [] := by
  obtain ⟨v, A1, A0, A2, h1, h2, h3, _⟩ := r.get e
  have : A0 = [] := by
    have := congrArg List.length h2
    simp only [List.length_nil, List.length_append] at this
    exact List.eq_nil_of_length_eq_zero (by omega)
  subst this
  exact ⟨v, h1, h3⟩
end

/-! ### environments -/
abbrev En := List (Option D)
inductive EnvR (K : PySem.W.Frag) (F H : Hp) : En → St → List (List Addr) → Prop
  | nil : EnvR K F H [] [] []
  | emp {es σ As o} : EnvR K F H es σ As → EnvR K F H (none :: es) (o :: σ) ([] :: As)
  | val {d v A es σ As} : Rep K F H d v A → EnvR K F H es σ As → EnvR K F H (some d :: es) (some v :: σ) (A :: As)
section
variable {K : PySem.W.Frag} {F F' H H' : Hp} {es : En} {σ : St} {As : List (List Addr)}
theorem EnvR.frame (r : EnvR K F H es σ As) (e : Same F F') : (∀ a ∈ As.flatten, H' a = H a) → EnvR K F' H' es σ As := by
  induction r with
  | nil => intro _; exact .nil
  | emp r ih => intro k; exact .emp (ih fun a ha => k a (by simpa using ha))
  | val x r ih => intro k; exact .val (x.frame e fun a ha => k a (by simp [ha])) (ih fun a ha => k a (by rw [List.flatten_cons]; exact List.mem_append_right _ ha))
theorem EnvR.get (r : EnvR K F H es σ As) : ∀ {i : Nat} {d}, es[i]? = some (some d) → ∃ v A, σ[i]? = some (some v) ∧ As[i]? = some A ∧ Rep K F H d v A := by
  induction r with
  | nil => intro i d e; simp at e
  | emp r ih =>
    intro i d e
    cases i with
    | zero => simp at e
    | succ i => exact ih (by simpa using e)
  | val x r ih =>
    intro i d e
    cases i with
    | zero => simp at e; subst e; exact ⟨_, _, rfl, rfl, x⟩
    | succ i => exact ih (by simpa using e)
theorem EnvR.len (r : EnvR K F H es σ As) : es.length = σ.length ∧ es.length = As.length := by
  induction r with
  | nil => exact ⟨rfl, rfl⟩
  | emp r ih => simp [ih.1.symm, ih.2.symm]
  | val x r ih => simp [ih.1.symm, ih.2.symm]
/-- slot i given up -/
theorem EnvR.drop (r : EnvR K F H es σ As) : ∀ (i : Nat), EnvR K F H (es.set i none) σ (As.set i []) := by
  induction r with
  | nil => intro i; exact .nil
  | emp r ih =>
    intro i
    cases i with
    | zero => exact .emp r
    | succ i => exact .emp (ih i)
  | val x r ih =>
    intro i
    cases i with
    | zero => exact .emp r
    | succ i => exact .val x (ih i)
/-- slot i holds another value -/
theorem EnvR.set {d v A} (r : EnvR K F H es σ As) (x : Rep K F H d v A) : ∀ (i : Nat), EnvR K F H (es.set i (some d)) (σ.set i (some v)) (As.set i A) := by
  induction r with
  | nil => intro i; exact .nil
  | emp r ih =>
    intro i
    cases i with
    | zero => exact .val x r
    | succ i => exact .emp (ih i)
  | val y r ih =>
    intro i
    cases i with
    | zero => exact .val x r
    | succ i => exact .val y (ih i)
/-- what slot i holds is told otherwise -/
theorem EnvR.tell {d v A} (r : EnvR K F H es σ As) (x : Rep K F H d v A) : ∀ {i : Nat}, σ[i]? = some (some v) → EnvR K F H (es.set i (some d)) σ (As.set i A) := by
  induction r with
  | nil => intro i _; exact .nil
  | emp r ih =>
    intro i e
    cases i with
    | zero => simp at e; subst e; exact .val x r
    | succ i => exact .emp (ih (by simpa using e))
  | val y r ih =>
    intro i e
    cases i with
    | zero => simp at e; subst e; exact .val x r
    | succ i => exact .val y (ih (by simpa using e))
/-- a slot that is given up may hold anything -/
theorem EnvR.slot {o} (r : EnvR K F H es σ As) : ∀ {i : Nat}, es[i]? = some none → EnvR K F H es (σ.set i o) As := by
  induction r with
  | nil => intro i _; exact .nil
  | emp r ih =>
    intro i e
    cases i with
    | zero => exact .emp r
    | succ i => exact .emp (ih (by simpa using e))
  | val y r ih =>
    intro i e
    cases i with
    | zero => simp at e
    | succ i => exact .val y (ih (by simpa using e))
end
theorem flat_set : ∀ (As : List (List Addr)) (i : Nat) (A : List Addr), i < As.length → (As.set i A).flatten.Perm (A ++ (As.set i []).flatten)
  | [], _, _, h => absurd h (Nat.not_lt_zero _)
  | X :: As, 0, A, _ => by simp
  | X :: As, i + 1, A, h => by
    have ih := flat_set As i A (by simpa using h)
    simp only [List.set_cons_succ, List.flatten_cons]
    refine (List.Perm.append_left X ih).trans ?_
    rw [← List.append_assoc, ← List.append_assoc]
    exact List.Perm.append_right _ List.perm_append_comm
theorem set_self {α : Type} : ∀ (As : List α) (i : Nat) (A : α), As[i]? = some A → As.set i A = As
  | [], _, _, h => rfl
  | X :: As, 0, A, h => by simp at h; subst h; rfl
  | X :: As, i + 1, A, h => by simp only [List.set_cons_succ]; rw [set_self As i A (by simpa using h)]
theorem set_set {α : Type} : ∀ (As : List α) (i : Nat) (A B : α), (As.set i A).set i B = As.set i B
  | [], _, _, _ => rfl
  | X :: As, 0, _, _ => rfl
  | X :: As, i + 1, A, B => by simp only [List.set_cons_succ]; rw [set_set As i A B]
theorem flat_at (As : List (List Addr)) (i : Nat) (A : List Addr) (h : As[i]? = some A) : As.flatten.Perm (A ++ (As.set i []).flatten) := by
  have hl : i < As.length := (List.getElem?_eq_some_iff.mp h).1
  have := flat_set As i A hl
  rwa [set_self As i A h] at this
end PL

/-! PLb: states (frozen part F, heap H, what is another's B, own things As), the judgements DE (expressions), first rules. -/
namespace PL
open PySem L2

/-- the state of a def's run -/
structure SO (K : PySem.W.Frag) (F H : Hp) (B : Addr → Prop) (env : En) (σ : St) (As : List (List Addr)) : Prop where
  same : Same F H
  env : EnvR K F H env σ As
  nd : As.flatten.Nodup
  fr : ∀ a ∈ As.flatten, F a = none
  out : ∀ b, B b → F b = none ∧ (∃ o, H b = some o) ∧ b ∉ As.flatten
/-- a value at hand -/
structure TO (K : PySem.W.Frag) (F H : Hp) (B : Addr → Prop) (As : List (List Addr)) (d : D) (v : V) (a : List Addr) : Prop where
  rep : Rep K F H d v a
  nd : (a ++ As.flatten).Nodup
  fr : ∀ x ∈ a, F x = none
  nb : ∀ x ∈ a, ¬ B x
/-- several values at hand -/
structure TOL (K : PySem.W.Frag) (F H : Hp) (B : Addr → Prop) (As : List (List Addr)) (ds : List D) (vs : List V) (a : List Addr) : Prop where
  rep : RepL K F H ds vs a
  nd : (a ++ As.flatten).Nodup
  fr : ∀ x ∈ a, F x = none
  nb : ∀ x ∈ a, ¬ B x
/-- what an expression leaves -/
structure PostE (K : PySem.W.Frag) (p : Bool) (F H : Hp) (B : Addr → Prop) (env : En) (σ : St) (As : List (List Addr)) (F' H' : Hp) (env' : En) (As' : List (List Addr)) : Prop where
  ext : Same F F'
  so : SO K F' H' B env' σ As'
  keep : ∀ b, B b → H' b = H b
  pure : p = true → env' = env ∧ As' = As ∧ ∀ a ∈ As.flatten, H' a = H a
def Bx (B : Addr → Prop) (a : List Addr) : Addr → Prop := fun x => B x ∨ x ∈ a
section
variable {K : PySem.W.Frag} {p q : Bool} {F F' F2 H H' H2 : Hp} {B : Addr → Prop} {env env' env2 : En} {σ : St} {As As' As2 : List (List Addr)} {d d2 : D} {v v2 : V} {a a2 : List Addr} {ds : List D} {vs : List V}
theorem PostE.refl (s : SO K F H B env σ As) : PostE K p F H B env σ As F H env As := ⟨Same.refl _, s, fun _ _ => rfl, fun _ => ⟨rfl, rfl, fun _ _ => rfl⟩⟩
theorem PostE.trans (s : PostE K p F H B env σ As F' H' env' As') (t : PostE K p F' H' B env' σ As' F2 H2 env2 As2) : PostE K p F H B env σ As F2 H2 env2 As2 :=
  ⟨s.ext.trans t.ext, t.so, fun b hb => (t.keep b hb).trans (s.keep b hb), fun e => by
    obtain ⟨e1, e2, e3⟩ := s.pure e
    obtain ⟨f1, f2, f3⟩ := t.pure e
    subst e1 e2 f1 f2
    exact ⟨rfl, rfl, fun a ha => (f3 a ha).trans (e3 a ha)⟩⟩
theorem PostE.imp (h : q = true → p = true) (s : PostE K p F H B env σ As F' H' env' As') : PostE K q F H B env σ As F' H' env' As' := ⟨s.ext, s.so, s.keep, fun e => s.pure (h e)⟩
theorem SO.push (s : SO K F H B env σ As) (t : TO K F H B As d v a) : SO K F H (Bx B a) env σ As := by
  refine ⟨s.same, s.env, s.nd, s.fr, fun b hb => ?_⟩
  rcases hb with hb | hb
  · exact s.out b hb
  · exact ⟨t.fr b hb, t.rep.there b hb, fun z => (List.nodup_append.mp t.nd).2.2 b hb b z rfl⟩
theorem SO.pushL (s : SO K F H B env σ As) (t : TOL K F H B As ds vs a) : SO K F H (Bx B a) env σ As := by
  refine ⟨s.same, s.env, s.nd, s.fr, fun b hb => ?_⟩
  rcases hb with hb | hb
  · exact s.out b hb
  · exact ⟨t.fr b hb, t.rep.there b hb, fun z => (List.nodup_append.mp t.nd).2.2 b hb b z rfl⟩
theorem SO.pop (s : SO K F H (Bx B a) env σ As) : SO K F H B env σ As := ⟨s.same, s.env, s.nd, s.fr, fun b hb => s.out b (.inl hb)⟩
theorem PostE.pop (s : PostE K p F H (Bx B a) env σ As F' H' env' As') : PostE K p F H B env σ As F' H' env' As' := ⟨s.ext, s.so.pop, fun b hb => s.keep b (.inl hb), s.pure⟩
/-- a value at hand through another evaluation -/
theorem TO.keep (t : TO K F H B As d v a) (s : PostE K p F H (Bx B a) env σ As F' H' env' As') : TO K F' H' B As' d v a := by
  have o := fun x (hx : x ∈ a) => s.so.out x (.inr hx)
  refine ⟨t.rep.frame s.ext fun x hx => s.keep x (.inr hx), ?_, fun x hx => (o x hx).1, t.nb⟩
  exact List.nodup_append.mpr ⟨(List.nodup_append.mp t.nd).1, s.so.nd, fun x hx y hy e => (o x hx).2.2 (e ▸ hy)⟩
theorem TOL.keep (t : TOL K F H B As ds vs a) (s : PostE K p F H (Bx B a) env σ As F' H' env' As') : TOL K F' H' B As' ds vs a := by
  have o := fun x (hx : x ∈ a) => s.so.out x (.inr hx)
  refine ⟨t.rep.frame s.ext fun x hx => s.keep x (.inr hx), ?_, fun x hx => (o x hx).1, t.nb⟩
  exact List.nodup_append.mpr ⟨(List.nodup_append.mp t.nd).1, s.so.nd, fun x hx y hy e => (o x hx).2.2 (e ▸ hy)⟩
theorem TO.unx (t : TO K F H (Bx B a2) As d v a) : TO K F H B As d v a := ⟨t.rep, t.nd, t.fr, fun x hx hb => t.nb x hx (.inl hb)⟩
theorem TOL.unx (t : TOL K F H (Bx B a2) As ds vs a) : TOL K F H B As ds vs a := ⟨t.rep, t.nd, t.fr, fun x hx hb => t.nb x hx (.inl hb)⟩
theorem TO.apart (t : TO K F H (Bx B a2) As d v a) : ∀ x ∈ a, x ∉ a2 := fun x hx hb => t.nb x hx (.inr hb)
theorem TOL.nil (s : SO K F H B env σ As) : TOL K F H B As [] [] [] := ⟨.nil, by simpa using s.nd, (fun _ z => nomatch z), (fun _ z => nomatch z)⟩
theorem TOL.cons (t : TO K F H B As d v a) (u : TOL K F H B As ds vs a2) (h : ∀ x ∈ a2, x ∉ a) : TOL K F H B As (d :: ds) (v :: vs) (a ++ a2) := by
  refine ⟨.cons t.rep u.rep, ?_, fun x hx => (List.mem_append.mp hx).elim (t.fr x) (u.fr x), fun x hx => (List.mem_append.mp hx).elim (t.nb x) (u.nb x)⟩
  rw [List.append_assoc]
  have h1 := List.nodup_append.mp t.nd
  refine List.nodup_append.mpr ⟨h1.1, u.nd, fun x hx y hy e => ?_⟩
  subst e
  rcases List.mem_append.mp hy with hy | hy
  · exact h x hy hx
  · exact h1.2.2 x hx x hy rfl
/-- a scalar at hand -/
theorem TO.sc (s : SO K F H B env σ As) (v : V) : TO K F H B As (.sc v) v [] := ⟨.sc, by simpa using s.nd, (fun _ z => nomatch z), (fun _ z => nomatch z)⟩
theorem TO.fz (t : Rep K F H d v []) (s : SO K F H B env σ As) : TO K F H B As d v [] := ⟨t, by simpa using s.nd, (fun _ z => nomatch z), (fun _ z => nomatch z)⟩

/-! ### new objects -/
theorem SO.freeF (s : SO K F H B env σ As) {p : Addr} (h : H p = none) : F p = none := s.same.free h
theorem SO.notAs (s : SO K F H B env σ As) {p : Addr} (h : H p = none) : p ∉ As.flatten := fun z => by
  have : ∀ {es σ As}, EnvR K F H es σ As → ∀ a ∈ As.flatten, ∃ o, H a = some o := fun r => by
    induction r with
    | nil => intro a ha; simp at ha
    | emp r ih => intro a ha; exact ih a (by simpa using ha)
    | val x r ih =>
      intro a ha
      rw [List.flatten_cons] at ha
      rcases List.mem_append.mp ha with z | z
      · exact x.there a z
      · exact ih a z
  obtain ⟨o, e⟩ := this s.env p z
  rw [h] at e; cases e
theorem SO.notB (s : SO K F H B env σ As) {p : Addr} (h : H p = none) : ¬ B p := fun z => by
  obtain ⟨_, ⟨o, e⟩, _⟩ := s.out p z
  rw [h] at e; cases e
theorem same_upd {H : Hp} {p : Addr} {o : HO} (h : H p = none) : Same H (upd H p o) := fun b u e => by rw [upd_ne (ne_of_none e h)]; exact e
theorem upd_both {F H : Hp} {p : Addr} {o : HO} (s : Same F H) : Same (upd F p o) (upd H p o) := fun b u e => by
  by_cases z : b = p
  · subst z; rw [upd_same] at e ⊢; exact e
  · rw [upd_ne z] at e ⊢; exact s _ _ e
/-- a new own object -/
theorem SO.newO (s : SO K F H B env σ As) {p : Addr} {o : HO} (h : H p = none) : PostE K true F H B env σ As F (upd H p o) env As := by
  have nA := s.notAs h
  have k : ∀ a ∈ As.flatten, upd H p o a = H a := fun a ha => upd_ne fun z => nA (z ▸ ha)
  refine ⟨Same.refl _, ⟨s.same.trans (same_upd h), s.env.frame (Same.refl _) k, s.nd, s.fr, fun b hb => ?_⟩, fun b hb => upd_ne fun z => s.notB h (z ▸ hb), fun _ => ⟨rfl, rfl, k⟩⟩
  obtain ⟨h1, ⟨u, h2⟩, h3⟩ := s.out b hb
  have nb : b ≠ p := fun z => s.notB h (z ▸ hb)
  exact ⟨h1, ⟨u, (upd_ne nb).trans h2⟩, h3⟩
/-- a new frozen object -/
theorem SO.newF (s : SO K F H B env σ As) {p : Addr} {o : HO} (h : H p = none) : PostE K true F H B env σ As (upd F p o) (upd H p o) env As := by
  have nA := s.notAs h
  have nF := s.freeF h
  have k : ∀ a ∈ As.flatten, upd H p o a = H a := fun a ha => upd_ne fun z => nA (z ▸ ha)
  refine ⟨same_upd nF, ⟨upd_both s.same, s.env.frame (same_upd nF) k, s.nd, fun a ha => (upd_ne (fun z : a = p => nA (z ▸ ha))).trans (s.fr a ha), fun b hb => ?_⟩, fun b hb => upd_ne fun z => s.notB h (z ▸ hb), fun _ => ⟨rfl, rfl, k⟩⟩
  obtain ⟨h1, ⟨u, h2⟩, h3⟩ := s.out b hb
  have nb : b ≠ p := fun z => s.notB h (z ▸ hb)
  exact ⟨by rw [upd_ne nb]; exact h1, ⟨u, by rw [upd_ne nb]; exact h2⟩, h3⟩
/-- values at hand are frozen -/
theorem SO.freezeL (s : SO K F H B env σ As) (t : TOL K F H B As ds vs a) : PostE K true F H B env σ As (fzAt F H a) H env As ∧ RepL K (fzAt F H a) H (D.frzL ds) vs [] := by
  have e := fzAt_same (H := H) t.fr
  have nA : ∀ x ∈ As.flatten, x ∉ a := fun x hx z => (List.nodup_append.mp t.nd).2.2 x z x hx rfl
  refine ⟨⟨e, ⟨fzAt_sub s.same, s.env.frame e fun _ _ => rfl, s.nd, fun x hx => by rw [fzAt_out (nA x hx)]; exact s.fr x hx, fun b hb => ?_⟩, fun _ _ => rfl, fun _ => ⟨rfl, rfl, fun _ _ => rfl⟩⟩, t.rep.freeze e fun x hx => fzAt_in hx⟩
  obtain ⟨h1, h2, h3⟩ := s.out b hb
  exact ⟨by rw [fzAt_out (fun z => t.nb b z hb)]; exact h1, h2, h3⟩
theorem TO.one (t : TO K F H B As d v a) : TOL K F H B As [d] [v] a := ⟨.one t.rep, t.nd, t.fr, t.nb⟩
theorem SO.freeze (s : SO K F H B env σ As) (t : TO K F H B As d v a) : PostE K true F H B env σ As (fzAt F H a) H env As ∧ Rep K (fzAt F H a) H d.frz v [] := by
  obtain ⟨h1, h2⟩ := s.freezeL t.one
  obtain ⟨u, e, r⟩ := h2.one_inv
  cases e
  exact ⟨h1, r⟩
/-- what slot i holds, as a value at hand (the slot given up) -/
theorem SO.take (s : SO K F H B env σ As) {i : Nat} (e : env[i]? = some (some d)) : ∃ v a, σ[i]? = some (some v) ∧ As[i]? = some a ∧ SO K F H B (env.set i none) σ (As.set i []) ∧ TO K F H B (As.set i []) d v a := by
  obtain ⟨v, a, h1, h2, h3⟩ := s.env.get e
  have pm := flat_at As i a h2
  have nd : (a ++ (As.set i []).flatten).Nodup := pm.nodup_iff.mp s.nd
  have sub : ∀ x ∈ (As.set i []).flatten, x ∈ As.flatten := fun x hx => pm.mem_iff.mpr (List.mem_append_right _ hx)
  refine ⟨v, a, h1, h2, ⟨s.same, s.env.drop i, (List.nodup_append.mp nd).2.1, fun x hx => s.fr x (sub x hx), fun b hb => ?_⟩, h3, nd, fun x hx => s.fr x (pm.mem_iff.mpr (List.mem_append_left _ hx)), fun x hx hb => (s.out x hb).2.2 (pm.mem_iff.mpr (List.mem_append_left _ hx))⟩
  obtain ⟨k1, k2, k3⟩ := s.out b hb
  exact ⟨k1, k2, fun z => k3 (sub b z)⟩
/-- a value at hand is what slot i holds -/
theorem SO.put (s : SO K F H B env σ As) {i : Nat} (hA : As[i]? = some []) (t : TO K F H B As d v a) (e : σ[i]? = some (some v)) : SO K F H B (env.set i (some d)) σ (As.set i a) := by
  have hl : i < As.length := (List.getElem?_eq_some_iff.mp hA).1
  have pm := flat_set As i a hl
  rw [set_self As i [] hA] at pm
  refine ⟨s.same, s.env.tell t.rep e, pm.nodup_iff.mpr t.nd, fun x hx => (List.mem_append.mp (pm.mem_iff.mp hx)).elim (t.fr x) (s.fr x), fun b hb => ?_⟩
  obtain ⟨k1, k2, k3⟩ := s.out b hb
  exact ⟨k1, k2, fun z => (List.mem_append.mp (pm.mem_iff.mp z)).elim (fun y => t.nb b y hb) k3⟩
/-- a value at hand is stored in slot i, that holds nothing of its own -/
theorem SO.store (s : SO K F H B env σ As) {i : Nat} (hA : As[i]? = some []) (t : TO K F H B As d v a) : SO K F H B (env.set i (some d)) (σ.set i (some v)) (As.set i a) := by
  have hl : i < As.length := (List.getElem?_eq_some_iff.mp hA).1
  have pm := flat_set As i a hl
  rw [set_self As i [] hA] at pm
  refine ⟨s.same, s.env.set t.rep i, pm.nodup_iff.mpr t.nd, fun x hx => (List.mem_append.mp (pm.mem_iff.mp hx)).elim (t.fr x) (s.fr x), fun b hb => ?_⟩
  obtain ⟨k1, k2, k3⟩ := s.out b hb
  exact ⟨k1, k2, fun z => (List.mem_append.mp (pm.mem_iff.mp z)).elim (fun y => t.nb b y hb) k3⟩
/-- a slot given up -/
theorem SO.drop (s : SO K F H B env σ As) (i : Nat) : SO K F H B (env.set i none) σ (As.set i []) := by
  by_cases hl : i < As.length
  · have pm := flat_at As i As[i] (by simp [hl])
    have nd := pm.nodup_iff.mp s.nd
    have sub : ∀ x ∈ (As.set i []).flatten, x ∈ As.flatten := fun x hx => pm.mem_iff.mpr (List.mem_append_right _ hx)
    refine ⟨s.same, s.env.drop i, (List.nodup_append.mp nd).2.1, fun x hx => s.fr x (sub x hx), fun b hb => ?_⟩
    obtain ⟨k1, k2, k3⟩ := s.out b hb
    exact ⟨k1, k2, fun z => k3 (sub b z)⟩
  · have e1 : As.set i [] = As := List.set_eq_of_length_le (by omega)
    have e2 : env.set i none = env := List.set_eq_of_length_le (by have := s.env.len.2; omega)
    rw [e1, e2]; exact s
theorem SO.emptied (s : SO K F H B env σ As) {i : Nat} (hi : i < As.length) : (As.set i [])[i]? = some [] := by simp [hi]
theorem SO.lt (s : SO K F H B env σ As) {i : Nat} {o} (e : env[i]? = some o) : i < As.length := by
  have := (List.getElem?_eq_some_iff.mp e).1
  have := s.env.len.2
  omega
end

/-! ### expressions -/
/-- an expression by its data: env, and what is wanted of its value and of env behind it -/
abbrev WE := En → (D → En → Prop) → Prop
def liftE (K : PySem.W.Frag) (p : Bool) (w : WE) : TE := fun σ H Q => ∃ F B env As R, SO K F H B env σ As ∧ w env R ∧
  ∀ v H' F' As' a d env', PostE K p F H B env σ As F' H' env' As' → TO K F' H' B As' d v a → R d env' → Q v H'
structure DE (p : Bool) (X : Cx) (e : Expr) (w : WE) : Prop where
  pe : PE X e (liftE X.K p w)
theorem PEimp {X : Cx} {e : Expr} {t t' : TE} (h : PE X e t) (i : ∀ σ H Q, t' σ H Q → t σ H Q) : PE X e t' := ⟨fun pins s σ H Q I q => h.run pins s σ H Q I (i σ H Q q)⟩
theorem PTimp {X : Cx} {e : Expr} {t t' : TT} (h : PT X e t) (i : ∀ σ H Q, t' σ H Q → t σ H Q) : PT X e t' := ⟨fun pins s σ H Q I q => h.run pins s σ H Q I (i σ H Q q)⟩
theorem PAimp {X : Cx} {e : List Expr} {t t' : TA} (h : PA X e t) (i : ∀ σ H Q, t' σ H Q → t σ H Q) : PA X e t' := ⟨fun pos pins s σ H Q I q => h.run pos pins s σ H Q I (i σ H Q q)⟩
theorem PSimp {X : Cx} {e : Stmt} {t t' : TS} (h : PS X e t) (i : ∀ D σ H, t' D σ H → t D σ H) : PS X e t' := ⟨fun pins s σ H D I q => h.run pins s σ H D I (i D σ H q)⟩
theorem PSsimp {X : Cx} {e : List Stmt} {t t' : TS} (h : PSs X e t) (i : ∀ D σ H, t' D σ H → t D σ H) : PSs X e t' := ⟨fun pins s σ H D I q => h.run pins s σ H D I (i D σ H q)⟩
theorem PGimp {X : Cx} {e : Expr} {t t' : TG} (h : PG X e t) (i : ∀ v σ H Q, t' v σ H Q → t v σ H Q) : PG X e t' := ⟨fun pins s σ H v u Q I r q => h.run pins s σ H v u Q I r (i v σ H Q q)⟩
section
variable {X : Cx} {p : Bool} {e a b : Expr} {wa wb : WE} {pos : Pos}
theorem DE.weak {w : WE} (h : DE true X e w) : DE p X e w := ⟨PEimp h.pe fun σ H Q ⟨F, B, env, As, R, s, hw, k⟩ => ⟨F, B, env, As, R, s, hw, fun v H' F' As' a d env' po => k v H' F' As' a d env' (po.imp fun _ => rfl)⟩⟩

/-! constants and names -/
def wC (d : D) : WE := fun env R => R d env
theorem de_of_c {v : V} (h : PE X e (tC v)) : DE p X e (wC (.sc v)) := ⟨PEimp h fun σ H Q ⟨F, B, env, As, R, s, hw, k⟩ => k v H F As [] _ env (.refl s) (.sc s v) hw⟩
theorem de_int {i j} : DE p X (.Constant (.int i) j pos) (wC (.int i)) := de_of_c pe_int
theorem de_bl {i j} : DE p X (.Constant (.bool i) j pos) (wC (.bl i)) := de_of_c pe_bl
theorem de_non {j} : DE p X (.Constant .none j pos) (wC .non) := de_of_c pe_non
theorem de_str {x j} : DE p X (.Constant (.str x) j pos) (wC (.str x)) := de_of_c pe_str
/-- a name whose value is frozen (a number, a text ..) -/
def wVal (i : Nat) : WE := fun env R => ∃ d, env[i]? = some (some d) ∧ d.fz = true ∧ R d env
/-- a name: what it holds is frozen from now on -/
def wVar (i : Nat) : WE := fun env R => ∃ d, env[i]? = some (some d) ∧ R d.frz (env.set i (some d.frz))
/-- a name: what it holds is moved out -/
def wMove (i : Nat) : WE := fun env R => ∃ d, env[i]? = some (some d) ∧ R d (env.set i none)
theorem de_val {i : Nat} (h : PE X e (tVar i)) : DE p X e (wVal i) := by
  refine ⟨PEimp h fun σ H Q ⟨F, B, env, As, R, s, ⟨d, he, hz, hw⟩, k⟩ => ?_⟩
  obtain ⟨v, a, h1, h2, h3⟩ := s.env.get he
  have := h3.fzNil hz
  subst this
  exact ⟨v, h1, k v H F As [] d env (.refl s) (.fz h3 s) hw⟩
theorem de_var {i : Nat} (h : PE X e (tVar i)) : DE false X e (wVar i) := by
  refine ⟨PEimp h fun σ H Q ⟨F, B, env, As, R, s, ⟨d, he, hw⟩, k⟩ => ?_⟩
  obtain ⟨v, a, h1, h2, s1, t1⟩ := s.take he
  obtain ⟨po, r⟩ := s1.freeze t1
  have hl := s.lt he
  have s2 := po.so.put (i := i) (s.emptied hl) (.fz r po.so) h1
  rw [set_set, set_set] at s2
  exact ⟨v, h1, k v H _ _ [] d.frz _ ⟨po.ext, s2, po.keep, fun z => nomatch z⟩ (.fz r s2) hw⟩
theorem de_move {i : Nat} (h : PE X e (tVar i)) : DE false X e (wMove i) := by
  refine ⟨PEimp h fun σ H Q ⟨F, B, env, As, R, s, ⟨d, he, hw⟩, k⟩ => ?_⟩
  obtain ⟨v, a, h1, h2, s1, t1⟩ := s.take he
  exact ⟨v, h1, k v H F _ a d _ ⟨Same.refl _, s1, fun _ _ => rfl, fun z => nomatch z⟩ t1 hw⟩

/-! two values and an operation -/
abbrev RD2 := D → D → (D → Prop) → Prop
/-- the operation r on values is rd on data -/
def Snd2 (K : PySem.W.Frag) (r : R2) (rd : RD2) : Prop :=
  ∀ {F H : Hp} {B : Addr → Prop} {env : En} {σ : St} {As : List (List Addr)} {x y : D} {v u : V} {a b : List Addr} {R : D → Prop} {Q : VK}, SO K F H B env σ As → Rep K F H x v a → Rep K F H y u b → rd x y R →
    (∀ v' H' F' c z, PostE K true F H B env σ As F' H' env As → TO K F' H' B As z v' c → R z → Q v' H') → r v u H Q

/-! ### a value that is read where it lies -/
/-- a value that is there: own to a slot, or at hand -/
structure VO (K : PySem.W.Frag) (F H : Hp) (B : Addr → Prop) (As : List (List Addr)) (d : D) (v : V) (a : List Addr) : Prop where
  rep : Rep K F H d v a
  at_ : (∀ x ∈ a, x ∈ As.flatten) ∨ TO K F H B As d v a
abbrev WB := En → (D → Prop) → Prop
def liftB (K : PySem.W.Frag) (w : WB) : TE := fun σ H Q => ∃ F B env As R, SO K F H B env σ As ∧ w env R ∧
  ∀ v H' F' a d, PostE K true F H B env σ As F' H' env As → VO K F' H' B As d v a → R d → Q v H'
structure DB (X : Cx) (e : Expr) (w : WB) : Prop where
  pe : PE X e (liftB X.K w)
/-- through a pure evaluation -/
theorem VO.keep {K : PySem.W.Frag} {F F' H H' : Hp} {B : Addr → Prop} {env : En} {σ : St} {As : List (List Addr)} {d : D} {v : V} {a : List Addr} (s : SO K F H B env σ As) (t : VO K F H B As d v a) :
    ∃ B', (∀ b, B b → B' b) ∧ SO K F H B' env σ As ∧ ∀ F' H' env' As', PostE K true F H B' env σ As F' H' env' As' → VO K F' H' B As d v a ∧ PostE K true F H B env σ As F' H' env' As' ∧ ∀ x ∈ a, H' x = H x := by
  rcases t.at_ with h | h
  · refine ⟨B, fun _ z => z, s, fun F' H' env' As' po => ?_⟩
    obtain ⟨e1, e2, e3⟩ := po.pure rfl
    exact ⟨⟨t.rep.frame po.ext fun x hx => e3 x (h x hx), .inl h⟩, po, fun x hx => e3 x (h x hx)⟩
  · refine ⟨Bx B a, fun _ z => .inl z, s.push h, fun F' H' env' As' po => ?_⟩
    obtain ⟨e1, e2, e3⟩ := po.pure rfl
    have := h.keep po
    subst e2
    exact ⟨⟨this.rep, .inr this⟩, po.pop, fun x hx => po.keep x (.inr hx)⟩
/-- a name, read -/
def bName (i : Nat) : WB := fun env R => ∃ d, env[i]? = some (some d) ∧ R d
theorem db_name {i : Nat} (h : PE X e (tVar i)) : DB X e (bName i) := by
  refine ⟨PEimp h fun σ H Q ⟨F, B, env, As, R, s, ⟨d, he, hw⟩, k⟩ => ?_⟩
  obtain ⟨v, a, h1, h2, h3⟩ := s.env.get he
  exact ⟨v, h1, k v H F a d (.refl s) ⟨h3, .inl fun x hx => List.mem_flatten.mpr ⟨a, List.mem_of_getElem? h2, hx⟩⟩ hw⟩
/-- a value at hand, read (pure) -/
def bE (w : WE) : WB := fun env R => w env fun d _ => R d
theorem db_E {w : WE} (h : DE true X e w) : DB X e (bE w) := by
  refine ⟨PEimp h.pe fun σ H Q ⟨F, B, env, As, R, s, hw, k⟩ => ⟨F, B, env, As, _, s, hw, fun v H' F' As' a d env' po t h => ?_⟩⟩
  obtain ⟨e1, e2, e3⟩ := po.pure rfl
  subst e1 e2
  exact k v H' F' a d po ⟨t.rep, .inr t⟩ h

/-! ### two operands -/
def wBin (rd : RD2) (wa wb : WE) : WE := fun env R => wa env fun x e1 => wb e1 fun y e2 => rd x y fun z => R z e2
theorem bin_EE {r : R2} {rd : RD2} (hr : Snd2 X.K r rd) : ∀ σ H Q, liftE X.K p (wBin rd wa wb) σ H Q → tOp r (liftE X.K p wa) (liftE X.K p wb) σ H Q := by
  rintro σ H Q ⟨F, B, env, As, R, s, hw, k⟩
  refine ⟨F, B, env, As, _, s, hw, fun v H1 F1 As1 a x e1 po1 t1 h1 => ?_⟩
  refine ⟨F1, Bx B a, e1, As1, _, po1.so.push t1, h1, fun u H2 F2 As2 b y e2 po2 t2 h2 => ?_⟩
  refine hr po2.so.pop (t1.keep po2).rep t2.rep h2 fun v' H3 F3 c z po3 t3 h3 => ?_
  exact k v' H3 F3 As2 c z e2 ((po1.trans po2.pop).trans (po3.imp fun _ => rfl)) t3 h3
/-- the second one is read where it lies -/
def wBinEB (rd : RD2) (wa : WE) (wb : WB) : WE := fun env R => wa env fun x e1 => wb e1 fun y => rd x y fun z => R z e1
theorem bin_EB {r : R2} {rd : RD2} {wb : WB} (hr : Snd2 X.K r rd) : ∀ σ H Q, liftE X.K p (wBinEB rd wa wb) σ H Q → tOp r (liftE X.K p wa) (liftB X.K wb) σ H Q := by
  rintro σ H Q ⟨F, B, env, As, R, s, hw, k⟩
  refine ⟨F, B, env, As, _, s, hw, fun v H1 F1 As1 a x e1 po1 t1 h1 => ?_⟩
  refine ⟨F1, Bx B a, e1, As1, _, po1.so.push t1, h1, fun u H2 F2 b y po2 t2 h2 => ?_⟩
  refine hr po2.so.pop (t1.keep po2).rep t2.rep h2 fun v' H3 F3 c z po3 t3 h3 => ?_
  exact k v' H3 F3 As1 c z e1 ((po1.trans (po2.pop.imp fun _ => rfl)).trans (po3.imp fun _ => rfl)) t3 h3
/-- a name, then a value: the name is read behind it -/
def wBinNE (rd : RD2) (i : Nat) (wb : WE) : WE := fun env R => (∃ x, env[i]? = some (some x)) ∧ wb env fun y e2 => ∃ x, e2[i]? = some (some x) ∧ rd x y fun z => R z e2
theorem bin_NE {r : R2} {rd : RD2} {i : Nat} (hr : Snd2 X.K r rd) : ∀ σ H Q, liftE X.K p (wBinNE rd i wb) σ H Q → tOp r (tVar i) (liftE X.K p wb) σ H Q := by
  rintro σ H Q ⟨F, B, env, As, R, s, ⟨⟨x0, hx0⟩, hw⟩, k⟩
  obtain ⟨v, a, h1, _, _⟩ := s.env.get hx0
  refine ⟨v, h1, F, B, env, As, _, s, hw, fun u H2 F2 As2 b y e2 po2 t2 ⟨x, hx, h2⟩ => ?_⟩
  obtain ⟨v', a', h1', h3, h4⟩ := po2.so.env.get hx
  rw [h1] at h1'; cases h1'
  refine hr po2.so h4 t2.rep h2 fun v' H3 F3 c z po3 t3 h3 => ?_
  exact k v' H3 F3 As2 c z e2 (po2.trans (po3.imp fun _ => rfl)) t3 h3
/-- both read where they lie -/
def wBinBB (rd : RD2) (wa wb : WB) : WE := fun env R => wa env fun x => wb env fun y => rd x y fun z => R z env
theorem bin_BB {r : R2} {rd : RD2} {wa wb : WB} (hr : Snd2 X.K r rd) : ∀ σ H Q, liftE X.K p (wBinBB rd wa wb) σ H Q → tOp r (liftB X.K wa) (liftB X.K wb) σ H Q := by
  rintro σ H Q ⟨F, B, env, As, R, s, hw, k⟩
  refine ⟨F, B, env, As, _, s, hw, fun v H1 F1 a x po1 t1 h1 => ?_⟩
  obtain ⟨B', hB, s', kp⟩ := t1.keep po1.so (F' := F) (H' := H)
  refine ⟨F1, B', env, As, _, s', h1, fun u H2 F2 b y po2 t2 h2 => ?_⟩
  obtain ⟨t1', po2', _⟩ := kp _ _ _ _ po2
  refine hr po2'.so t1'.rep t2.rep h2 fun v' H3 F3 c z po3 t3 h3 => ?_
  exact k v' H3 F3 As c z env (((po1.trans po2').trans po3).imp fun _ => rfl) t3 h3
/-- the first one read where it lies, the second one at hand (pure) -/
def wBinBE (rd : RD2) (wa : WB) (wb : WE) : WE := wBinBB rd wa (bE wb)

/-- whole = a op b -/
def Bin2 (X : Cx) (whole a b : Expr) (r : R2) : Prop := ∀ ta tb, PE X a ta → PE X b tb → PE X whole (tOp r ta tb)
def Tst2 (X : Cx) (whole a b : Expr) (r : R2) : Prop := ∀ ta tb, PE X a ta → PE X b tb → PT X whole (tTest (tOp r ta tb))
theorem b2_op {op : Operator} {r : R2} (ho : OpR X (binaryOp op) r) : Bin2 X (.BinOp a op b pos) a b r := fun _ _ ha hb => pe_op ho ha hb
theorem b2_cmp {op : CmpOp} {r : R2} (ho : OpR X (compareOp op) r) (hm : behindInMarks op b = false) : Bin2 X (.Compare a [op] [b] pos) a b r := fun _ _ ha hb => pe_cmpR ho ha hb hm
theorem t2_cmp {op : CmpOp} {r : R2} (ho : OpR X (compareOp op) r) (hm : behindInMarks op b = false) : Tst2 X (.Compare a [op] [b] pos) a b r := fun _ _ ha hb => pt_cmpR ho ha hb hm
theorem b2_ix {r : R2} (hi : IxR X r) (hs : PlainIx b) : Bin2 X (.Subscript a b pos) a b r := fun _ _ ha hb => pe_ix hi ha hb hs
section
variable {r : R2} {rd : RD2} {whole : Expr} {ba bb : WB} {i : Nat}
theorem de_EE (sh : Bin2 X whole a b r) (hr : Snd2 X.K r rd) (ha : DE p X a wa) (hb : DE p X b wb) : DE p X whole (wBin rd wa wb) := ⟨PEimp (sh _ _ ha.pe hb.pe) (bin_EE hr)⟩
theorem de_EB (sh : Bin2 X whole a b r) (hr : Snd2 X.K r rd) (ha : DE p X a wa) (hb : DB X b bb) : DE p X whole (wBinEB rd wa bb) := ⟨PEimp (sh _ _ ha.pe hb.pe) (bin_EB hr)⟩
theorem de_NE (sh : Bin2 X whole a b r) (hr : Snd2 X.K r rd) (ha : PE X a (tVar i)) (hb : DE p X b wb) : DE p X whole (wBinNE rd i wb) := ⟨PEimp (sh _ _ ha hb.pe) (bin_NE hr)⟩
theorem de_BB (sh : Bin2 X whole a b r) (hr : Snd2 X.K r rd) (ha : DB X a ba) (hb : DB X b bb) : DE p X whole (wBinBB rd ba bb) := ⟨PEimp (sh _ _ ha.pe hb.pe) (bin_BB hr)⟩
theorem de_BE (sh : Bin2 X whole a b r) (hr : Snd2 X.K r rd) (ha : DB X a ba) (hb : DE true X b wb) : DE p X whole (wBinBE rd ba wb) := de_BB sh hr ha (db_E hb)
end

/-! ### tests -/
abbrev WT := En → (Bool → En → Prop) → Prop
def liftT (K : PySem.W.Frag) (p : Bool) (w : WT) : TT := fun σ H Q => ∃ F B env As R, SO K F H B env σ As ∧ w env R ∧
  ∀ b H' F' As' env', PostE K p F H B env σ As F' H' env' As' → R b env' → Q b H'
structure DT (p : Bool) (X : Cx) (e : Expr) (w : WT) : Prop where
  pt : PT X e (liftT X.K p w)
structure DW (p : Bool) (X : Cx) (e : Expr) (w : WT) : Prop where
  pw : PW X e (liftT X.K p w)
def asB : D → (Bool → Prop) → Prop
  | .sc (.bl b), k => k b
  | _, _ => False
theorem asB_inv {d : D} {k : Bool → Prop} (h : asB d k) : ∃ b, d = .bl b ∧ k b := by
  unfold asB at h
  split at h
  · exact ⟨_, rfl, h⟩
  · exact h.elim
def wTst (w : WE) : WT := fun env R => w env fun d e1 => asB d fun b => R b e1
theorem Rep.bl_inv {K : PySem.W.Frag} {F H : Hp} {w : V} {v : V} {a : List Addr} (r : Rep K F H (.sc w) v a) : v = w ∧ a = [] := by cases r; exact ⟨rfl, rfl⟩
theorem tst_lift {t : TE} {w : WE} (i : ∀ σ H Q, liftE X.K p w σ H Q → t σ H Q) : ∀ σ H Q, liftT X.K p (wTst w) σ H Q → tTest t σ H Q := by
  rintro σ H Q ⟨F, B, env, As, R, s, hw, k⟩
  refine i σ H _ ⟨F, B, env, As, _, s, hw, fun v H1 F1 As1 a x e1 po1 t1 h1 => ?_⟩
  obtain ⟨b, rfl, h⟩ := asB_inv h1
  obtain ⟨rfl, _⟩ := t1.rep.bl_inv
  exact ⟨b, rfl, k b H1 F1 As1 e1 po1 h⟩
theorem dt_val {w : WE} (h : DE p X e w) (he : ∀ whole, isTrue e X.env whole = (do let v ← whole; standAt e.pos; holding [v] (truthy v)) := by intro _; rfl) : DT p X e (wTst w) :=
  ⟨PTimp (pt_val h.pe he) (tst_lift fun _ _ _ h => h)⟩
section
variable {r : R2} {rd : RD2} {whole : Expr} {ba bb : WB} {i : Nat}
theorem dt_EE (sh : Tst2 X whole a b r) (hr : Snd2 X.K r rd) (ha : DE p X a wa) (hb : DE p X b wb) : DT p X whole (wTst (wBin rd wa wb)) := ⟨PTimp (sh _ _ ha.pe hb.pe) (tst_lift (bin_EE hr))⟩
theorem dt_EB (sh : Tst2 X whole a b r) (hr : Snd2 X.K r rd) (ha : DE p X a wa) (hb : DB X b bb) : DT p X whole (wTst (wBinEB rd wa bb)) := ⟨PTimp (sh _ _ ha.pe hb.pe) (tst_lift (bin_EB hr))⟩
theorem dt_NE (sh : Tst2 X whole a b r) (hr : Snd2 X.K r rd) (ha : PE X a (tVar i)) (hb : DE p X b wb) : DT p X whole (wTst (wBinNE rd i wb)) := ⟨PTimp (sh _ _ ha hb.pe) (tst_lift (bin_NE hr))⟩
theorem dt_BB (sh : Tst2 X whole a b r) (hr : Snd2 X.K r rd) (ha : DB X a ba) (hb : DB X b bb) : DT p X whole (wTst (wBinBB rd ba bb)) := ⟨PTimp (sh _ _ ha.pe hb.pe) (tst_lift (bin_BB hr))⟩
theorem dt_BE (sh : Tst2 X whole a b r) (hr : Snd2 X.K r rd) (ha : DB X a ba) (hb : DE true X b wb) : DT p X whole (wTst (wBinBE rd ba wb)) := dt_BB sh hr ha (db_E hb)
end
/-! and, or, not -/
def wAnd (wa wb : WT) : WT := fun env R => wa env fun c e1 => if c = true then wb e1 R else R false e1
def wOr (wa wb : WT) : WT := fun env R => wa env fun c e1 => if c = true then R true e1 else wb e1 R
def wNot (wa : WT) : WT := fun env R => wa env fun c e1 => R (!c) e1
section
variable {ta tb : WT} {rest : List Expr}
theorem DW.dt (h : DW p X e ta) : DT p X e ta := ⟨h.pw.pt⟩
theorem PWimp {e : Expr} {t t' : TT} (h : PW X e t) (i : ∀ σ H Q, t' σ H Q → t σ H Q) : PW X e t' := ⟨fun wh pins s σ H Q I q => h.run wh pins s σ H Q I (i σ H Q q)⟩
theorem dw_and1 (ha : DT p X a ta) : DW p X (.BoolOp .And [a] pos) ta := ⟨pw_and1 ha.pt⟩
theorem dw_or1 (ha : DT p X a ta) : DW p X (.BoolOp .Or [a] pos) ta := ⟨pw_or1 ha.pt⟩
theorem dw_and (ha : DT p X a ta) (hb : DW p X (.BoolOp .And (b :: rest) pos) tb) : DW p X (.BoolOp .And (a :: b :: rest) pos) (wAnd ta tb) := by
  refine ⟨PWimp (pw_and ha.pt hb.pw) ?_⟩
  rintro σ H Q ⟨F, B, env, As, R, s, hw, k⟩
  refine ⟨F, B, env, As, _, s, hw, fun c H1 F1 As1 e1 po1 h1 => ?_⟩
  cases c with
  | true => exact ⟨F1, B, e1, As1, R, po1.so, h1, fun b H2 F2 As2 e2 po2 h2 => k b H2 F2 As2 e2 (po1.trans po2) h2⟩
  | false => exact k false H1 F1 As1 e1 po1 h1
theorem dw_or (ha : DT p X a ta) (hb : DW p X (.BoolOp .Or (b :: rest) pos) tb) : DW p X (.BoolOp .Or (a :: b :: rest) pos) (wOr ta tb) := by
  refine ⟨PWimp (pw_or ha.pt hb.pw) ?_⟩
  rintro σ H Q ⟨F, B, env, As, R, s, hw, k⟩
  refine ⟨F, B, env, As, _, s, hw, fun c H1 F1 As1 e1 po1 h1 => ?_⟩
  cases c with
  | false => exact ⟨F1, B, e1, As1, R, po1.so, h1, fun b H2 F2 As2 e2 po2 h2 => k b H2 F2 As2 e2 (po1.trans po2) h2⟩
  | true => exact k true H1 F1 As1 e1 po1 h1
theorem dt_not (ha : DT p X a ta) : DT p X (.UnaryOp .Not a pos) (wNot ta) := by
  refine ⟨PTimp (pt_not ha.pt) ?_⟩
  rintro σ H Q ⟨F, B, env, As, R, s, hw, k⟩
  exact ⟨F, B, env, As, _, s, hw, fun c H1 F1 As1 e1 po1 h1 => k _ H1 F1 As1 e1 po1 h1⟩
end
/-- a if t else b -/
def wIf (t : WT) (wa wb : WE) : WE := fun env R => t env fun c e1 => if c = true then wa e1 R else wb e1 R
theorem de_if {c : Expr} {t : WT} (hc : DT p X c t) (ha : DE p X a wa) (hb : DE p X b wb) : DE p X (.IfExp c a b pos) (wIf t wa wb) := by
  refine ⟨PEimp (pe_ifExp hc.pt ha.pe hb.pe) ?_⟩
  rintro σ H Q ⟨F, B, env, As, R, s, hw, k⟩
  refine ⟨F, B, env, As, _, s, hw, fun c H1 F1 As1 e1 po1 h1 => ?_⟩
  cases c with
  | true => exact ⟨F1, B, e1, As1, R, po1.so, h1, fun v H2 F2 As2 a d e2 po2 t2 h2 => k v H2 F2 As2 a d e2 (po1.trans po2) t2 h2⟩
  | false => exact ⟨F1, B, e1, As1, R, po1.so, h1, fun v H2 F2 As2 a d e2 po2 t2 h2 => k v H2 F2 As2 a d e2 (po1.trans po2) t2 h2⟩
end
end PL

/-! PLc: operations on data. -/
namespace PL
open PySem L2
section
variable {K : PySem.W.Frag} {p q : Bool} {F F' F2 H H' H2 : Hp} {B : Addr → Prop} {env env' env2 : En} {σ : St} {As As' As2 : List (List Addr)} {d d2 : D} {v v2 : V} {a a2 : List Addr} {ds : List D} {vs : List V}
theorem Rep.lst_inv {o : Bool} {xs : List D} (r : Rep K F H (.obj o .lst xs) v a) (s : Same F H) : ∃ p vs a', v = .ref p ∧ H p = some (.lst vs) ∧ RepL K F H xs vs a' := by
  cases r with
  | own h r => exact ⟨_, _, _, rfl, h, r⟩
  | frz h r => exact ⟨_, _, _, rfl, s _ _ h, r⟩
/-- a list that may be read -/
def isSeq : Sh → Bool
  | .lst => true
  | .sq => true
  | _ => false
theorem Rep.seq_inv {o : Bool} {sh : Sh} {xs : List D} (h : isSeq sh = true) (r : Rep K F H (.obj o sh xs) v a) (s : Same F H) : ∃ p vs a', v = .ref p ∧ SqL K H p vs ∧ RepL K F H xs vs a' := by
  cases sh with
  | lst => obtain ⟨p, vs, a', e, h, r⟩ := r.lst_inv s; exact ⟨p, vs, a', e, .of h, r⟩
  | sq =>
    cases r with
    | own h r => exact h.elim
    | frz h r => exact ⟨_, _, _, rfl, s.seq h, r⟩
  | _ => cases h
theorem Rep.tup_inv {xs : List D} (r : Rep K F H (.tup xs) v a) (s : Same F H) : ∃ p vs, v = .ref p ∧ SqT K H p vs ∧ RepL K F H xs vs a := by
  cases r with
  | tup h r => exact ⟨_, _, rfl, Same.sqT s h, r⟩
theorem Rep.sc_inv {w : V} (r : Rep K F H (.sc w) v a) : v = w ∧ a = [] := by cases r; exact ⟨rfl, rfl⟩
theorem RepL.sc_inv {ws : List V} : ∀ {vs a}, RepL K F H (ws.map D.sc) vs a → vs = ws ∧ a = [] := by
  induction ws with
  | nil => intro vs a r; exact r.nil_inv
  | cons w ws ih =>
    intro vs a r
    obtain ⟨v, us, A1, A2, rfl, rfl, r1, r2⟩ := r.cons_inv
    obtain ⟨rfl, rfl⟩ := r1.sc_inv
    obtain ⟨rfl, rfl⟩ := ih r2
    exact ⟨rfl, rfl⟩
theorem RepL.sc_of : ∀ (ws : List V), RepL K F H (ws.map D.sc) ws []
  | [] => .nil
  | w :: ws => .cons (A := []) (B := []) .sc (RepL.sc_of ws)

/-! results -/
/-- a scalar comes out -/
theorem out_sc {R : D → Prop} {Q : VK} {w : V} (s : SO K F H B env σ As) (h : R (.sc w)) (k : ∀ v' H' F' c z, PostE K true F H B env σ As F' H' env As → TO K F' H' B As z v' c → R z → Q v' H') : Q w H :=
  k w H F [] (.sc w) (.refl s) (.sc s w) h
/-- a frozen value that stands there comes out -/
theorem out_old {R : D → Prop} {Q : VK} {z : D} (s : SO K F H B env σ As) (r : Rep K F H z v []) (h : R z) (k : ∀ v' H' F' c z, PostE K true F H B env σ As F' H' env As → TO K F' H' B As z v' c → R z → Q v' H') : Q v H :=
  k v H F [] z (.refl s) (.fz r s) h
theorem not_mem_of_none {H : Hp} {p : Addr} {A : List Addr} (h : H p = none) (t : ∀ a ∈ A, ∃ o, H a = some o) : p ∉ A := fun z => by
  obtain ⟨o, e⟩ := t p z
  rw [h] at e; cases e
/-- a new own list of frozen items comes out -/
theorem out_lst {R : D → Prop} {Q : VK} {xs : List D} {vs : List V} (s : SO K F H B env σ As) (r : RepL K F H xs vs []) (h : R (.lst true xs)) (k : ∀ v' H' F' c z, PostE K true F H B env σ As F' H' env As → TO K F' H' B As z v' c → R z → Q v' H') :
    ∀ p, H p = none → Q (.ref p) (upd H p (.lst vs)) := fun p hp => by
  refine k _ _ F [p] _ (s.newO hp) ⟨.own (show CellO (upd H p (.lst vs)) .lst p vs from upd_same) (r.frame (Same.refl _) fun _ z => nomatch z), ?_, ?_, ?_⟩ h
  · exact List.nodup_cons.mpr ⟨s.notAs hp, s.nd⟩
  · intro x hx; rw [List.mem_singleton.mp hx]; exact s.freeF hp
  · intro x hx; rw [List.mem_singleton.mp hx]; exact s.notB hp
/-- a new tuple of frozen items comes out -/
theorem out_tup {R : D → Prop} {Q : VK} {xs : List D} {vs : List V} (s : SO K F H B env σ As) (r : RepL K F H xs vs []) (h : R (.tup xs)) (k : ∀ v' H' F' c z, PostE K true F H B env σ As F' H' env As → TO K F' H' B As z v' c → R z → Q v' H') :
    ∀ p, H p = none → Q (.ref p) (upd H p (.tup vs)) := fun p hp => by
  have po := s.newF (o := .tup vs) hp
  exact k _ _ _ [] _ po (.fz (.tup (SqT.of upd_same) (r.frame po.ext fun _ z => nomatch z)) po.so) h
end

/-! ### arithmetic -/
def rdAdd : RD2
  | .sc (.int i), .sc (.int j), R => R (.int (i + j))
  | .sc (.str x), .sc (.str y), R => x.length + y.length ≤ sizeLine ∧ R (.str (x ++ y))
  | .obj _ .lst xs, .obj _ .lst ys, R => D.fzL xs = true ∧ D.fzL ys = true ∧ xs.length + ys.length ≤ sizeLine ∧ R (.lst true (xs ++ ys))
  | .tup (x :: xs), .tup (y :: ys), R => D.fzL (x :: xs) = true ∧ D.fzL (y :: ys) = true ∧ (x :: xs).length + (y :: ys).length ≤ sizeLine ∧ R (.tup ((x :: xs) ++ (y :: ys)))
  | _, _, _ => False
section
variable {X : Cx}
def rAddAll (K : PySem.W.Frag) : R2 := fun x y H Q => (rI0 fun i j => .int (i + j)) x y H Q ∨ (∃ i j, x = .str i ∧ y = .str j ∧ i.length + j.length ≤ sizeLine ∧ Q (.str (i ++ j)) H) ∨ rCat x y H Q ∨ rCatT K x y H Q
theorem opAdd : OpR X (binaryOp .Add) (rAddAll X.K) := op_add.or (op_add_str.or (op_cat.or op_catT))
theorem sAdd {K : PySem.W.Frag} : Snd2 K (rAddAll K) rdAdd := by
  intro F H B env σ As x y v u a b R Q s rx ry h k
  unfold rdAdd at h
  split at h
  · obtain ⟨rfl, _⟩ := rx.sc_inv
    obtain ⟨rfl, _⟩ := ry.sc_inv
    exact .inl ⟨_, _, rfl, rfl, out_sc s h k⟩
  · obtain ⟨rfl, _⟩ := rx.sc_inv
    obtain ⟨rfl, _⟩ := ry.sc_inv
    exact .inr (.inl ⟨_, _, rfl, rfl, h.1, out_sc s h.2 k⟩)
  · obtain ⟨z1, z2, hl, h⟩ := h
    obtain ⟨p, vs, a', rfl, e1, r1⟩ := rx.lst_inv s.same
    obtain ⟨p2, us, b', rfl, e2, r2⟩ := ry.lst_inv s.same
    refine .inr (.inr (.inl ⟨p, p2, vs, us, rfl, rfl, e1, e2, ?_, out_lst s ((r1.fz_mem z1).app (r2.fz_mem z2)) h k⟩))
    rw [← r1.length, ← r2.length]; exact hl
  · obtain ⟨z1, z2, hl, h⟩ := h
    obtain ⟨p, vs, rfl, e1, r1⟩ := rx.tup_inv s.same
    obtain ⟨p2, us, rfl, e2, r2⟩ := ry.tup_inv s.same
    refine .inr (.inr (.inr ⟨p, p2, vs, us, rfl, rfl, e1, e2, ?_, ?_, ?_, ?_⟩))
    · intro z; subst z; have := r1.length; simp at this
    · rw [← r1.length, ← r2.length]; exact hl
    · intro z; subst z; have := r2.length; simp at this
    · intro _; exact out_tup s ((r1.fz_mem z1).app (r2.fz_mem z2)) h k
  · exact h.elim

/-- two ints -/
def rdI (C : Int → Int → Prop) (g : Int → Int → V) : RD2
  | .sc (.int i), .sc (.int j), R => C i j ∧ R (.sc (g i j))
  | _, _, _ => False
def rdI0 (g : Int → Int → V) : RD2
  | .sc (.int i), .sc (.int j), R => R (.sc (g i j))
  | _, _, _ => False
theorem sI {K : PySem.W.Frag} {C : Int → Int → Prop} {g : Int → Int → V} : Snd2 K (rI C g) (rdI C g) := by
  intro F H B env σ As x y v u a b R Q s rx ry h k
  unfold rdI at h
  split at h
  · obtain ⟨rfl, _⟩ := rx.sc_inv
    obtain ⟨rfl, _⟩ := ry.sc_inv
    exact ⟨_, _, rfl, rfl, h.1, out_sc s h.2 k⟩
  · exact h.elim
theorem sI0 {K : PySem.W.Frag} {g : Int → Int → V} : Snd2 K (rI0 g) (rdI0 g) := by
  intro F H B env σ As x y v u a b R Q s rx ry h k
  unfold rdI0 at h
  split at h
  · obtain ⟨rfl, _⟩ := rx.sc_inv
    obtain ⟨rfl, _⟩ := ry.sc_inv
    exact ⟨_, _, rfl, rfl, out_sc s h k⟩
  · exact h.elim
abbrev rdSub : RD2 := rdI0 fun i j => .int (i - j)
abbrev rdFdiv : RD2 := rdI CDivW fun i j => .int (i / j)
abbrev rdMod : RD2 := rdI (fun _ j => 0 < j) fun i j => .int (i % j)
def CPowW (i j : Int) : Prop := 0 ≤ j ∧ (Builtin.Int.intBits i : Int) * j ≤ 2 ^ 27
abbrev rdPow : RD2 := rdI CPowW fun i j => .int (i ^ j.toNat)
abbrev rdShl : RD2 := rdI CPow fun i j => .int (i * 2 ^ j.toNat)
abbrev rdShr : RD2 := rdI (fun _ j => 0 ≤ j) fun i j => .int (i / 2 ^ j.toNat)
abbrev rdAnd : RD2 := rdI0 fun i j => .int (Builtin.bitAnd i j)
theorem opPow : OpR X (binaryOp .Pow) (rI CPowW fun i j => .int (i ^ j.toNat)) := opI fun _ _ _ _ _ _ _ hc q => PyProof.Rows.pow_int hc.1 hc.2 q
def rdMul : RD2
  | .sc (.int i), .sc (.int j), R => PySem.IntMulOk i j ∧ R (.int (i * j))
  | .obj _ .lst xs, .sc (.int j), R => D.fzL xs = true ∧ -(2 ^ 63) ≤ j ∧ j < 2 ^ 63 ∧ xs.length * j.toNat ≤ sizeLine ∧ R (.lst true (List.replicate j.toNat xs).flatten)
  | _, _, _ => False
theorem opMul : OpR X (binaryOp .Mult) (fun x y H Q => (rI PySem.IntMulOk fun i j => .int (i * j)) x y H Q ∨ rRep x y H Q) := (opI fun _ _ _ _ _ _ _ hc q => PyProof.Rows.mul_int q hc).or op_rep
theorem RepL.rep {K : PySem.W.Frag} {F H : Hp} {xs : List D} {vs : List V} (r : RepL K F H xs vs []) : ∀ n : Nat, RepL K F H (List.replicate n xs).flatten (List.replicate n vs).flatten []
  | 0 => .nil
  | n + 1 => by simpa [List.replicate_succ] using r.app (RepL.rep r n)
theorem sMul {K : PySem.W.Frag} : Snd2 K (fun x y H Q => (rI PySem.IntMulOk fun i j => .int (i * j)) x y H Q ∨ rRep x y H Q) rdMul := by
  intro F H B env σ As x y v u a b R Q s rx ry h k
  unfold rdMul at h
  split at h
  · obtain ⟨rfl, _⟩ := rx.sc_inv
    obtain ⟨rfl, _⟩ := ry.sc_inv
    exact .inl ⟨_, _, rfl, rfl, h.1, out_sc s h.2 k⟩
  · obtain ⟨z1, h1, h2, hl, h⟩ := h
    obtain ⟨p, vs, a', rfl, e1, r1⟩ := rx.lst_inv s.same
    obtain ⟨rfl, _⟩ := ry.sc_inv
    exact .inr ⟨p, _, vs, rfl, rfl, e1, h1, h2, by rw [← r1.length]; exact hl, out_lst s ((r1.fz_mem z1).rep _) h k⟩
  · exact h.elim

/-! ### comparisons -/
abbrev rdLt : RD2 := rdI0 fun i j => .bl (decide (i < j))
abbrev rdLe : RD2 := rdI0 fun i j => .bl (decide (i ≤ j))
abbrev rdGt : RD2 := rdI0 fun i j => .bl (decide (j < i))
abbrev rdGe : RD2 := rdI0 fun i j => .bl (decide (j ≤ i))
end
mutual
/-- a tree as plain data (what is no such data: a dict, that nothing equals) -/
def D.py : D → PyData
  | .sc .non => .none
  | .sc (.bl b) => .bool b
  | .sc (.int i) => .int i
  | .sc (.str x) => .str x
  | .sc _ => .dict []
  | .tup xs => .tuple (D.pyL xs)
  | .obj _ .lst xs => .list (D.pyL xs)
  | .obj _ .sq xs => .list (D.pyL xs)
  | .obj _ _ _ => .dict []
def D.pyL : List D → List PyData
  | [] => []
  | x :: xs => x.py :: D.pyL xs
end
theorem D.pyL_map (xs : List D) : D.pyL xs = xs.map D.py := by
  induction xs with
  | nil => rfl
  | cons x xs ih => simp only [D.pyL, List.map_cons, ih]
section
variable {K : PySem.W.Frag} {F H : Hp}
theorem Rep.dps (s : Same F H) : (∀ {d v A}, Rep K F H d v A → d.py.canLay0 = true → Dp K H v d.py) ∧ (∀ {ds vs A}, RepL K F H ds vs A → PyData.canLayAll0 (D.pyL ds) = true → DpAll K H vs (D.pyL ds)) := by
  refine Rep.ind (P := fun d v A => d.py.canLay0 = true → Dp K H v d.py) (PL := fun ds vs A => PyData.canLayAll0 (D.pyL ds) = true → DpAll K H vs (D.pyL ds)) ?_ ?_ ?_ ?_ ?_ ?_
  · intro v h
    cases v with
    | non => exact .non
    | bl b => exact .bl b
    | int i => exact .int i
    | str x => exact .str x
    | _ => simp [D.py, PyData.canLay0] at h
  · intro p vs xs A h r ih z
    exact .tup (Same.sqT s h) (ih (by simpa [D.py, PyData.canLay0] using z))
  · intro sh p vs xs A h r ih z
    cases sh with
    | lst => exact .lst (.of h) (ih (by simpa [D.py, PyData.canLay0] using z))
    | sq => exact h.elim
    | _ => simp [D.py, PyData.canLay0] at z
  · intro sh p vs xs h r ih z
    cases sh with
    | lst => exact .lst (.of (s _ _ h)) (ih (by simpa [D.py, PyData.canLay0] using z))
    | sq => exact .lst (s.seq h) (ih (by simpa [D.py, PyData.canLay0] using z))
    | _ => simp [D.py, PyData.canLay0] at z
  · intro _; exact .nil
  · intro d v A ds vs B r1 r2 i1 i2 z
    simp only [D.pyL, PyData.canLayAll0, Bool.and_eq_true] at z
    exact .cons (i1 z.1) (i2 z.2)
theorem Rep.dp {d v A} (r : Rep K F H d v A) (s : Same F H) (h : SeqAt.shaped d.py = true) : Dp K H v d.py := (Rep.dps s).1 r (SeqAt.canLay_of_shaped h)
end
/-- equal, as Python compares data -/
def deq (x y : D) : Bool := PyData.eqv x.py y.py
def D.shp (d : D) : Bool := SeqAt.shaped d.py
def rdEq : RD2 := fun x y R => x.shp = true ∧ y.shp = true ∧ R (.bl (deq x y))
def rdNe : RD2 := fun x y R => x.shp = true ∧ y.shp = true ∧ R (.bl (!deq x y))
theorem sEq {K : PySem.W.Frag} : Snd2 K (rEqD K) rdEq := by
  rintro F H B env σ As x y v u a b R Q s rx ry ⟨h1, h2, h⟩ k
  exact ⟨_, _, rx.dp s.same h1, ry.dp s.same h2, h1, h2, out_sc s h k⟩
theorem sNe {K : PySem.W.Frag} : Snd2 K (rNeD K) rdNe := by
  rintro F H B env σ As x y v u a b R Q s rx ry ⟨h1, h2, h⟩ k
  exact ⟨_, _, rx.dp s.same h1, ry.dp s.same h2, h1, h2, out_sc s h k⟩
def D.isNon : D → Bool
  | .sc .non => true
  | _ => false
theorem Rep.isNon {K : PySem.W.Frag} {F H : Hp} {d : D} {v : V} {a : List Addr} (r : Rep K F H d v a) : decide (v = .non) = d.isNon := by
  cases r with
  | sc => cases v <;> simp [D.isNon]
  | tup _ _ => simp [D.isNon]
  | own _ _ => simp [D.isNon]
  | frz _ _ => simp [D.isNon]
def rdIs : RD2
  | x, .sc .non, R => R (.bl x.isNon)
  | _, _, _ => False
def rdIsN : RD2
  | x, .sc .non, R => R (.bl (!x.isNon))
  | _, _, _ => False
theorem sIs {K : PySem.W.Frag} : Snd2 K (fun x y H Q => y = .non ∧ Q (.bl (decide (x = .non))) H) rdIs := by
  intro F H B env σ As x y v u a b R Q s rx ry h k
  unfold rdIs at h
  split at h
  · obtain ⟨rfl, _⟩ := ry.sc_inv
    rw [← rx.isNon] at h
    exact ⟨rfl, out_sc s h k⟩
  · exact h.elim
theorem sIsN {K : PySem.W.Frag} : Snd2 K (fun x y H Q => y = .non ∧ Q (.bl (!decide (x = .non))) H) rdIsN := by
  intro F H B env σ As x y v u a b R Q s rx ry h k
  unfold rdIsN at h
  split at h
  · obtain ⟨rfl, _⟩ := ry.sc_inv
    rw [← rx.isNon] at h
    exact ⟨rfl, out_sc s h k⟩
  · exact h.elim
/-- a scalar in a list or a tuple of scalars -/
def D.scs : List D → Option (List V)
  | [] => some []
  | .sc v :: xs => (D.scs xs).map (v :: ·)
  | _ :: _ => none
theorem D.scs_some : ∀ {xs : List D} {ws : List V}, D.scs xs = some ws → xs = ws.map D.sc
  | [], ws, h => by simp [D.scs] at h; subst h; rfl
  | .sc v :: xs, ws, h => by
    simp only [D.scs, Option.map_eq_some_iff] at h
    obtain ⟨us, h1, rfl⟩ := h
    rw [D.scs_some h1]; rfl
  | .tup _ :: xs, ws, h => by simp [D.scs] at h
  | .obj _ _ _ :: xs, ws, h => by simp [D.scs] at h
theorem D.scs_map : ∀ ws : List V, D.scs (ws.map D.sc) = some ws
  | [] => rfl
  | w :: ws => by simp [D.scs, D.scs_map ws]
def dIn (x : D) (xs : List D) (k : Bool → Prop) : Prop := ∃ v ws, x = .sc v ∧ xs = ws.map D.sc ∧ flatV v = true ∧ ws.all flatV = true ∧ k (inV v ws)
def rdIn (neg : Bool) : RD2
  | x, .obj _ sh xs, R => isSeq sh = true ∧ dIn x xs fun c => R (.bl (if neg then !c else c))
  | x, .tup xs, R => dIn x xs fun c => R (.bl (if neg then !c else c))
  | _, _, _ => False
theorem sIn {K : PySem.W.Frag} {neg : Bool} : Snd2 K (rIn K neg) (rdIn neg) := by
  intro F H B env σ As x y v u a b R Q s rx ry h k
  unfold rdIn at h
  split at h
  · obtain ⟨hs, w, ws, rfl, rfl, f1, f2, h⟩ := h
    obtain ⟨p, vs, a', rfl, e1, r1⟩ := ry.seq_inv hs s.same
    obtain ⟨rfl, _⟩ := rx.sc_inv
    obtain ⟨rfl, _⟩ := r1.sc_inv
    exact ⟨p, _, rfl, .inl e1, f1, f2, out_sc s h k⟩
  · obtain ⟨w, ws, rfl, rfl, f1, f2, h⟩ := h
    obtain ⟨p, vs, rfl, e1, r1⟩ := ry.tup_inv s.same
    obtain ⟨rfl, _⟩ := rx.sc_inv
    obtain ⟨rfl, _⟩ := r1.sc_inv
    exact ⟨p, _, rfl, .inr e1, f1, f2, out_sc s h k⟩
  · exact h.elim
/-! ### items -/
def rdIx : RD2
  | .obj _ sh xs, .sc (.int i), R => isSeq sh = true ∧ ∃ x, atI xs i = some x ∧ x.fz = true ∧ R x
  | .tup xs, .sc (.int i), R => ∃ x, atI xs i = some x ∧ x.fz = true ∧ R x
  | .sc (.str z), .sc (.int i), R => z.length ≤ sizeLine ∧ ∃ c, atI z.cps.toList i = some c ∧ R (.str ⟨#[c]⟩)
  | _, _, _ => False
theorem RepL.atI {K : PySem.W.Frag} {F H : Hp} {xs : List D} {vs : List V} {a : List Addr} {i : Int} {x : D} (r : RepL K F H xs vs a) (e : L2.atI xs i = some x) : ∃ v a', L2.atI vs i = some v ∧ Rep K F H x v a' := by
  unfold L2.atI at e ⊢
  rw [← r.length]
  cases h : L2.ixN xs.length i with
  | none => rw [h] at e; cases e
  | some j =>
    rw [h] at e
    obtain ⟨v, A1, A0, A2, h1, h2, h3, _⟩ := r.get e
    exact ⟨v, A0, h1, h3⟩
theorem sIx {K : PySem.W.Frag} : Snd2 K (rIx K) rdIx := by
  intro F H B env σ As x y v u a b R Q s rx ry h k
  unfold rdIx at h
  split at h
  · obtain ⟨hs, x, e, z, h⟩ := h
    obtain ⟨p, vs, a', rfl, e1, r1⟩ := rx.seq_inv hs s.same
    obtain ⟨rfl, _⟩ := ry.sc_inv
    obtain ⟨w, a2, e2, r2⟩ := r1.atI e
    have := r2.fzNil z; subst this
    exact .inl ⟨p, _, _, w, rfl, rfl, e1, e2, out_old s r2 h k⟩
  · obtain ⟨x, e, z, h⟩ := h
    obtain ⟨p, vs, rfl, e1, r1⟩ := rx.tup_inv s.same
    obtain ⟨rfl, _⟩ := ry.sc_inv
    obtain ⟨w, a2, e2, r2⟩ := r1.atI e
    have := r2.fzNil z; subst this
    exact .inr (.inl ⟨p, _, _, w, rfl, rfl, e1, e2, out_old s r2 h k⟩)
  · obtain ⟨hl, c, e, h⟩ := h
    obtain ⟨rfl, _⟩ := rx.sc_inv
    obtain ⟨rfl, _⟩ := ry.sc_inv
    exact .inr (.inr ⟨_, _, c, rfl, rfl, hl, e, out_sc s h k⟩)
  · exact h.elim
end PL

/-! PLd: argument lists, displays, built-ins, slices, statements, targets. -/
namespace PL
open PySem L2

abbrev WA := En → (List D → En → Prop) → Prop
def liftA (K : PySem.W.Frag) (p : Bool) (w : WA) : TA := fun σ H Q => ∃ F B env As R, SO K F H B env σ As ∧ w env R ∧
  ∀ vs H' F' As' a ds env', PostE K p F H B env σ As F' H' env' As' → TOL K F' H' B As' ds vs a → R ds env' → Q vs H'
structure DA (p : Bool) (X : Cx) (es : List Expr) (w : WA) : Prop where
  pa : PA X es (liftA X.K p w)
/-- read where they lie -/
abbrev WAB := En → (List D → Prop) → Prop
def liftAB (K : PySem.W.Frag) (w : WAB) : TA := fun σ H Q => ∃ F B env As R, SO K F H B env σ As ∧ w env R ∧
  ∀ vs H' F' a ds, PostE K true F H B env σ As F' H' env As → RepL K F' H' ds vs a → R ds → Q vs H'
structure DAB (X : Cx) (es : List Expr) (w : WAB) : Prop where
  pa : PA X es (liftAB X.K w)
section
variable {X : Cx} {p : Bool} {e : Expr} {es : List Expr} {we : WE} {wa : WA} {wb : WB} {wab : WAB} {pos : Pos}
def aNil : WA := fun env R => R [] env
def aCons (we : WE) (wa : WA) : WA := fun env R => we env fun d e1 => wa e1 fun ds e2 => R (d :: ds) e2
theorem da_nil : DA p X [] aNil := ⟨PAimp pa_nil fun σ H Q ⟨F, B, env, As, R, s, hw, k⟩ => k [] H F As [] [] env (.refl s) (.nil s) hw⟩
theorem da_cons (h : DE p X e we) (hs : DA p X es wa) (st : starEach (e :: es) X.env = (false, eval e X.env) :: starEach es X.env := by rfl) : DA p X (e :: es) (aCons we wa) := by
  refine ⟨PAimp (pa_cons h.pe hs.pa st) ?_⟩
  rintro σ H Q ⟨F, B, env, As, R, s, hw, k⟩
  refine ⟨F, B, env, As, _, s, hw, fun v H1 F1 As1 a d e1 po1 t1 h1 => ?_⟩
  refine ⟨F1, Bx B a, e1, As1, _, po1.so.push t1, h1, fun vs H2 F2 As2 b ds e2 po2 t2 h2 => ?_⟩
  exact k _ H2 F2 As2 (a ++ b) (d :: ds) e2 (po1.trans po2.pop) (.cons (t1.keep po2) t2.unx fun x hx hb => t2.nb x hx (.inr hb)) h2
def bNil : WAB := fun env R => R []
def bCons (wb : WB) (wab : WAB) : WAB := fun env R => wb env fun d => wab env fun ds => R (d :: ds)
theorem dab_nil : DAB X [] bNil := ⟨PAimp pa_nil fun σ H Q ⟨F, B, env, As, R, s, hw, k⟩ => k [] H F [] [] (.refl s) .nil hw⟩
theorem dab_cons (h : DB X e wb) (hs : DAB X es wab) (st : starEach (e :: es) X.env = (false, eval e X.env) :: starEach es X.env := by rfl) : DAB X (e :: es) (bCons wb wab) := by
  refine ⟨PAimp (pa_cons h.pe hs.pa st) ?_⟩
  rintro σ H Q ⟨F, B, env, As, R, s, hw, k⟩
  refine ⟨F, B, env, As, _, s, hw, fun v H1 F1 a d po1 t1 h1 => ?_⟩
  obtain ⟨B', hB, s', kp⟩ := t1.keep po1.so (F' := F) (H' := H)
  refine ⟨F1, B', env, As, _, s', h1, fun vs H2 F2 b ds po2 t2 h2 => ?_⟩
  obtain ⟨t1', po2', _⟩ := kp _ _ _ _ po2
  exact k _ H2 F2 (a ++ b) (d :: ds) (po1.trans po2') (.cons t1'.rep t2) h2

/-! ### displays -/
def wTup (wa : WA) : WE := fun env R => wa env fun ds e1 => ds.length ≤ sizeLine ∧ R (.tup (D.frzL ds)) e1
theorem de_tup {x1} (h : DA p X es wa) : DE p X (.Tuple es x1 pos) (wTup wa) := by
  refine ⟨PEimp (pe_tup h.pa) ?_⟩
  rintro σ H Q ⟨F, B, env, As, R, s, hw, k⟩
  refine ⟨F, B, env, As, _, s, hw, fun vs H1 F1 As1 a ds e1 po1 t1 ⟨hl, h1⟩ => ⟨by rw [← t1.rep.length]; exact hl, ?_⟩⟩
  obtain ⟨po2, r2⟩ := po1.so.freezeL t1
  exact out_tup (R := fun z => R z e1) po2.so r2 h1 fun v' H3 F3 c z po3 t3 h3 => k v' H3 F3 As1 c z e1 ((po1.trans (po2.imp fun _ => rfl)).trans (po3.imp fun _ => rfl)) t3 h3
def wLst (wa : WA) : WE := fun env R => wa env fun ds e1 => ds.length ≤ sizeLine ∧ R (.lst true (D.frzL ds)) e1
theorem de_lst (h : DA p X es wa) : DE p X (.List es pos) (wLst wa) := by
  refine ⟨PEimp (pe_lst h.pa) ?_⟩
  rintro σ H Q ⟨F, B, env, As, R, s, hw, k⟩
  refine ⟨F, B, env, As, _, s, hw, fun vs H1 F1 As1 a ds e1 po1 t1 ⟨hl, h1⟩ => ⟨by rw [← t1.rep.length]; exact hl, ?_⟩⟩
  obtain ⟨po2, r2⟩ := po1.so.freezeL t1
  exact out_lst (R := fun z => R z e1) po2.so r2 h1 fun v' H3 F3 c z po3 t3 h3 => k v' H3 F3 As1 c z e1 ((po1.trans (po2.imp fun _ => rfl)).trans (po3.imp fun _ => rfl)) t3 h3
/-- a list whose items stay own -/
def wLstK (wa : WA) : WE := fun env R => wa env fun ds e1 => ds.length ≤ sizeLine ∧ R (.lst true ds) e1
theorem de_lstK (h : DA p X es wa) : DE p X (.List es pos) (wLstK wa) := by
  refine ⟨PEimp (pe_lst h.pa) ?_⟩
  rintro σ H Q ⟨F, B, env, As, R, s, hw, k⟩
  refine ⟨F, B, env, As, _, s, hw, fun vs H1 F1 As1 a ds e1 po1 t1 ⟨hl, h1⟩ => ⟨by rw [← t1.rep.length]; exact hl, fun q hq => ?_⟩⟩
  have po2 := po1.so.newO (o := .lst vs) hq
  have nq := not_mem_of_none hq t1.rep.there
  refine k _ _ F1 As1 (q :: a) _ e1 (po1.trans (po2.imp fun _ => rfl)) ⟨.own (show CellO (upd H1 q (.lst vs)) .lst q vs from upd_same) (t1.rep.frame (Same.refl _) fun x hx => upd_ne fun z => nq (z ▸ hx)), ?_, fun x hx => ?_, fun x hx => ?_⟩ h1
  · refine List.nodup_cons.mpr ⟨fun z => ?_, t1.nd⟩
    rcases List.mem_append.mp z with z | z
    · exact nq z
    · exact po1.so.notAs hq z
  · rcases List.mem_cons.mp hx with rfl | hx
    · exact po1.so.freeF hq
    · exact t1.fr x hx
  · rcases List.mem_cons.mp hx with rfl | hx
    · exact po1.so.notB hq
    · exact t1.nb x hx

/-! ### built-ins -/
abbrev RDA := List D → (D → Prop) → Prop
def SndA (K : PySem.W.Frag) (r : List V → Hp → VK → Prop) (rd : RDA) : Prop :=
  ∀ {F H : Hp} {B : Addr → Prop} {env : En} {σ : St} {As : List (List Addr)} {ds : List D} {vs : List V} {a : List Addr} {R : D → Prop} {Q : VK}, SO K F H B env σ As → RepL K F H ds vs a → rd ds R →
    (∀ v' H' F' c z, PostE K true F H B env σ As F' H' env As → TO K F' H' B As z v' c → R z → Q v' H') → r vs H Q
def CallS (X : Cx) (whole : Expr) (es : List Expr) (r : List V → Hp → VK → Prop) : Prop := ∀ t, PA X es t → PE X whole (tCB r t)
def wCB (rd : RDA) (wa : WA) : WE := fun env R => wa env fun ds e1 => rd ds fun z => R z e1
def wCBB (rd : RDA) (wa : WAB) : WE := fun env R => wa env fun ds => rd ds fun z => R z env
section
variable {r : List V → Hp → VK → Prop} {rd : RDA} {whole : Expr} {x : Str} {q : Pos} {id T : String}
theorem de_cb (sh : CallS X whole es r) (hr : SndA X.K r rd) (h : DA p X es wa) : DE p X whole (wCB rd wa) := by
  refine ⟨PEimp (sh _ h.pa) ?_⟩
  rintro σ H Q ⟨F, B, env, As, R, s, hw, k⟩
  refine ⟨F, B, env, As, _, s, hw, fun vs H1 F1 As1 a ds e1 po1 t1 h1 => ?_⟩
  exact hr po1.so t1.rep h1 fun v' H3 F3 c z po3 t3 h3 => k v' H3 F3 As1 c z e1 (po1.trans (po3.imp fun _ => rfl)) t3 h3
theorem de_cbB (sh : CallS X whole es r) (hr : SndA X.K r rd) (h : DAB X es wab) : DE p X whole (wCBB rd wab) := by
  refine ⟨PEimp (sh _ h.pa) ?_⟩
  rintro σ H Q ⟨F, B, env, As, R, s, hw, k⟩
  refine ⟨F, B, env, As, _, s, hw, fun vs H1 F1 a ds po1 t1 h1 => ?_⟩
  exact hr po1.so t1 h1 fun v' H3 F3 c z po3 t3 h3 => k v' H3 F3 As c z env ((po1.trans po3).imp fun _ => rfl) t3 h3
theorem cs_B (hc : CallR X (.builtin id) r) (hg : Gl X x) (hm : X.mg x = none) (hv : bootBuiltins x = some (.builtin id)) (hn : x ≠ "__name__" := by decide) (hdb : (x == ("__debug__" : Str)) = false := by decide)
    (he : starEach (e :: es) X.env = (false, eval e X.env) :: starEach es X.env := by rfl) (hpl : (backTo pos (starEach es X.env)).any (·.1) = false := by rfl) : CallS X (.Call (.Name x q) (e :: es) [] pos) (e :: es) r :=
  fun t h => pe_callB hc hg hm hv h hn hdb he hpl
theorem cs_T (hc : CallR X (.type T) r) (hg : Gl X x) (hm : X.mg x = none) (hv : bootBuiltins x = some (.type T)) (hn : x ≠ "__name__" := by decide) (hdb : (x == ("__debug__" : Str)) = false := by decide)
    (he : starEach (e :: es) X.env = (false, eval e X.env) :: starEach es X.env := by rfl) (hpl : (backTo pos (starEach es X.env)).any (·.1) = false := by rfl) : CallS X (.Call (.Name x q) (e :: es) [] pos) (e :: es) r :=
  fun t h => pe_callTy hc hg hm hv h hn hdb he hpl
end
end

/-! the built-ins by data -/
def rdLen : RDA
  | [.obj _ sh xs], R => isSeq sh = true ∧ R (.int xs.length)
  | [.tup xs], R => R (.int xs.length)
  | [.sc (.str z)], R => z.length ≤ sizeLine ∧ R (.int z.length)
  | _, _ => False
section
variable {K : PySem.W.Frag} {F F' H H' : Hp}
theorem RepL.one_inv' {d : D} {vs : List V} {a : List Addr} (r : RepL K F H [d] vs a) : ∃ v, vs = [v] ∧ ∃ a', Rep K F H d v a' := by
  obtain ⟨v, e, r⟩ := r.one_inv; exact ⟨v, e, _, r⟩
theorem RepL.two_inv {d d2 : D} {vs : List V} {a : List Addr} (r : RepL K F H [d, d2] vs a) : ∃ v v2, vs = [v, v2] ∧ (∃ a', Rep K F H d v a') ∧ ∃ a', Rep K F H d2 v2 a' := by
  obtain ⟨v, us, A1, A2, rfl, rfl, r1, r2⟩ := r.cons_inv
  obtain ⟨v2, e, r3⟩ := r2.one_inv
  subst e
  exact ⟨v, v2, rfl, ⟨_, r1⟩, ⟨_, r3⟩⟩
end
theorem sLen {X : Cx} : SndA X.K (fun xs H Q => ∃ x n, xs = [x] ∧ LenV X.K x H n ∧ Q (.int n) H) rdLen := by
  intro F H B env σ As ds vs a R Q s r h k
  unfold rdLen at h
  split at h
  · obtain ⟨v, rfl, a', r⟩ := r.one_inv'
    obtain ⟨p, us, a2, rfl, e1, r1⟩ := r.seq_inv h.1 s.same
    exact ⟨.ref p, _, rfl, .inl ⟨us, e1, rfl⟩, out_sc s (by rw [← r1.length]; exact h.2) k⟩
  · obtain ⟨v, rfl, a', r⟩ := r.one_inv'
    obtain ⟨p, us, rfl, e1, r1⟩ := r.tup_inv s.same
    exact ⟨.ref p, _, rfl, .inr ⟨us, e1, rfl⟩, out_sc s (by rw [← r1.length]; exact h) k⟩
  · obtain ⟨v, rfl, a', r⟩ := r.one_inv'
    obtain ⟨rfl, _⟩ := r.sc_inv
    exact ⟨_, _, rfl, ⟨h.1, rfl⟩, out_sc s h.2 k⟩
  · exact h.elim
def rdI1 (g : Int → V) : RDA
  | [.sc (.int i)], R => R (.sc (g i))
  | _, _ => False
theorem sI1 {K : PySem.W.Frag} {g : Int → V} : SndA K (fun xs H Q => ∃ i, xs = [.int i] ∧ Q (g i) H) (rdI1 g) := by
  intro F H B env σ As ds vs a R Q s r h k
  unfold rdI1 at h
  split at h
  · obtain ⟨v, rfl, a', r⟩ := r.one_inv'
    obtain ⟨rfl, _⟩ := r.sc_inv
    exact ⟨_, rfl, out_sc s h k⟩
  · exact h.elim
def rdI2 (g : Int → Int → V) : RDA
  | [.sc (.int i), .sc (.int j)], R => R (.sc (g i j))
  | _, _ => False
theorem sI2 {K : PySem.W.Frag} {g : Int → Int → V} : SndA K (fun xs H Q => ∃ i j, xs = [.int i, .int j] ∧ Q (g i j) H) (rdI2 g) := by
  intro F H B env σ As ds vs a R Q s r h k
  unfold rdI2 at h
  split at h
  · obtain ⟨v, v2, rfl, ⟨_, r1⟩, ⟨_, r2⟩⟩ := r.two_inv
    obtain ⟨rfl, _⟩ := r1.sc_inv
    obtain ⟨rfl, _⟩ := r2.sc_inv
    exact ⟨_, _, rfl, out_sc s h k⟩
  · exact h.elim
abbrev rdAbs : RDA := rdI1 fun i => .int (if i < 0 then -i else i)
abbrev rdMax2 : RDA := rdI2 fun i j => .int (if j > i then j else i)
abbrev rdMin2 : RDA := rdI2 fun i j => .int (if j < i then j else i)
def rdSum : RDA
  | [.obj _ sh xs], R => isSeq sh = true ∧ ∃ ns : List Int, xs = ns.map (fun n => D.sc (V.int n)) ∧ R (.int ns.sum)
  | _, _ => False
theorem map_sc (ns : List Int) : ns.map (fun n => D.sc (V.int n)) = (ns.map V.int).map D.sc := by rw [List.map_map]; rfl
theorem map_scB (ns : List Bool) : ns.map (fun n => D.sc (V.bl n)) = (ns.map V.bl).map D.sc := by rw [List.map_map]; rfl
theorem sSum {K : PySem.W.Frag} : SndA K (rSum K) rdSum := by
  intro F H B env σ As ds vs a R Q s r h k
  unfold rdSum at h
  split at h
  · obtain ⟨hs, ns, rfl, h⟩ := h
    obtain ⟨v, rfl, a', r⟩ := r.one_inv'
    obtain ⟨p, us, a2, rfl, e1, r1⟩ := r.seq_inv hs s.same
    rw [map_sc] at r1
    obtain ⟨rfl, _⟩ := r1.sc_inv
    exact ⟨p, ns, rfl, e1, out_sc s h k⟩
  · exact h.elim
def rdMaxL : RDA
  | [.obj _ sh xs], R => isSeq sh = true ∧ ∃ ns : List Int, xs = ns.map (fun n => D.sc (V.int n)) ∧ 0 < ns.length ∧ ∀ m, m ∈ ns → (∀ y, y ∈ ns → y ≤ m) → R (.int m)
  | _, _ => False
def rdMinL : RDA
  | [.obj _ sh xs], R => isSeq sh = true ∧ ∃ ns : List Int, xs = ns.map (fun n => D.sc (V.int n)) ∧ 0 < ns.length ∧ ∀ m, m ∈ ns → (∀ y, y ∈ ns → m ≤ y) → R (.int m)
  | _, _ => False
theorem sMaxL {K : PySem.W.Frag} : SndA K (rMax K) rdMaxL := by
  intro F H B env σ As ds vs a R Q s r h k
  unfold rdMaxL at h
  split at h
  · obtain ⟨hs, ns, rfl, h0, h⟩ := h
    obtain ⟨v, rfl, a', r⟩ := r.one_inv'
    obtain ⟨p, us, a2, rfl, e1, r1⟩ := r.seq_inv hs s.same
    rw [map_sc] at r1
    obtain ⟨rfl, _⟩ := r1.sc_inv
    exact ⟨p, ns, rfl, e1, h0, fun m h1 h2 => out_sc s (h m h1 h2) k⟩
  · exact h.elim
theorem sMinL {K : PySem.W.Frag} : SndA K (rMin K) rdMinL := by
  intro F H B env σ As ds vs a R Q s r h k
  unfold rdMinL at h
  split at h
  · obtain ⟨hs, ns, rfl, h0, h⟩ := h
    obtain ⟨v, rfl, a', r⟩ := r.one_inv'
    obtain ⟨p, us, a2, rfl, e1, r1⟩ := r.seq_inv hs s.same
    rw [map_sc] at r1
    obtain ⟨rfl, _⟩ := r1.sc_inv
    exact ⟨p, ns, rfl, e1, h0, fun m h1 h2 => out_sc s (h m h1 h2) k⟩
  · exact h.elim
def rdBs (g : List Bool → Bool) : RDA
  | [.obj _ sh xs], R => isSeq sh = true ∧ ∃ bs : List Bool, xs = bs.map (fun n => D.sc (V.bl n)) ∧ R (.bl (g bs))
  | _, _ => False
theorem sBs {K : PySem.W.Frag} {g : List Bool → Bool} : SndA K (fun vs H Q => ∃ (a : Addr) (bs : List Bool), vs = [V.ref a] ∧ SqL K H a (bs.map V.bl) ∧ Q (.bl (g bs)) H) (rdBs g) := by
  intro F H B env σ As ds vs a R Q s r h k
  unfold rdBs at h
  split at h
  · obtain ⟨hs, ns, rfl, h⟩ := h
    obtain ⟨v, rfl, a', r⟩ := r.one_inv'
    obtain ⟨p, us, a2, rfl, e1, r1⟩ := r.seq_inv hs s.same
    rw [map_scB] at r1
    obtain ⟨rfl, _⟩ := r1.sc_inv
    exact ⟨p, ns, rfl, e1, out_sc s h k⟩
  · exact h.elim
abbrev rdAny : RDA := rdBs fun bs => bs.any id
abbrev rdAll : RDA := rdBs fun bs => bs.all id
def rdList : RDA
  | [.obj _ sh xs], R => isSeq sh = true ∧ D.fzL xs = true ∧ R (.lst true xs)
  | [.tup xs], R => D.fzL xs = true ∧ R (.lst true xs)
  | _, _ => False
theorem sList {X : Cx} : SndA X.K (fun xs H Q => ∃ p ys, xs = [.ref p] ∧ (SqL X.K H p ys ∨ SqT X.K H p ys) ∧ ∀ l, H l = none → Q (.ref l) (upd H l (.lst ys))) rdList := by
  intro F H B env σ As ds vs a R Q s r h k
  unfold rdList at h
  split at h
  · obtain ⟨v, rfl, a', r⟩ := r.one_inv'
    obtain ⟨p, us, a2, rfl, e1, r1⟩ := r.seq_inv h.1 s.same
    exact ⟨p, us, rfl, .inl e1, out_lst s (r1.fz_mem h.2.1) h.2.2 k⟩
  · obtain ⟨v, rfl, a', r⟩ := r.one_inv'
    obtain ⟨p, us, rfl, e1, r1⟩ := r.tup_inv s.same
    exact ⟨p, us, rfl, .inr e1, out_lst s (r1.fz_mem h.1) h.2 k⟩
  · exact h.elim
def rdTuple : RDA
  | [.obj _ sh xs], R => isSeq sh = true ∧ D.fzL xs = true ∧ R (.tup xs)
  | [.tup xs], R => D.fzL xs = true ∧ R (.tup xs)
  | _, _ => False
theorem sTuple {X : Cx} : SndA X.K (fun xs H Q => ∃ p ys, xs = [.ref p] ∧ ((SqL X.K H p ys ∧ ∀ l, H l = none → Q (.ref l) (upd H l (.tup ys))) ∨ (SqT X.K H p ys ∧ Q (.ref p) H))) rdTuple := by
  intro F H B env σ As ds vs a R Q s r h k
  unfold rdTuple at h
  split at h
  · obtain ⟨v, rfl, a', r⟩ := r.one_inv'
    obtain ⟨p, us, a2, rfl, e1, r1⟩ := r.seq_inv h.1 s.same
    exact ⟨p, us, rfl, .inl ⟨e1, out_tup s (r1.fz_mem h.2.1) h.2.2 k⟩⟩
  · obtain ⟨v, rfl, a', r⟩ := r.one_inv'
    have := r.fzNil (show (D.tup _).fz = true from h.1); subst this
    obtain ⟨p, us, e, e1, r1⟩ := r.tup_inv s.same
    subst e
    exact ⟨p, us, rfl, .inr ⟨e1, out_old s r h.2 k⟩⟩
  · exact h.elim
def rdInt1 : RDA
  | [.sc (.int i)], R => R (.int i)
  | [.sc (.bl b)], R => R (.int (if b then 1 else 0))
  | _, _ => False
theorem sInt1 {K : PySem.W.Frag} : SndA K (fun xs H Q => (∃ i, xs = [.int i] ∧ Q (.int i) H) ∨ ∃ k, xs = [.bl k] ∧ Q (.int (if k then 1 else 0)) H) rdInt1 := by
  intro F H B env σ As ds vs a R Q s r h k
  unfold rdInt1 at h
  split at h
  · obtain ⟨v, rfl, a', r⟩ := r.one_inv'
    obtain ⟨rfl, _⟩ := r.sc_inv
    exact .inl ⟨_, rfl, out_sc s h k⟩
  · obtain ⟨v, rfl, a', r⟩ := r.one_inv'
    obtain ⟨rfl, _⟩ := r.sc_inv
    exact .inr ⟨_, rfl, out_sc s h k⟩
  · exact h.elim

/-! ### slices -/
abbrev WO := En → (Option Int → En → Prop) → Prop
def liftO (K : PySem.W.Frag) (p : Bool) (w : WO) : L2.TO := fun σ H Q => ∃ F B env As R, SO K F H B env σ As ∧ w env R ∧
  ∀ o H' F' As' env', PostE K p F H B env σ As F' H' env' As' → R o env' → Q o H'
structure DO (p : Bool) (X : Cx) (e : Option Expr) (w : WO) : Prop where
  po : PO X e (liftO X.K p w)
theorem POimp {X : Cx} {e : Option Expr} {t t' : L2.TO} (h : PO X e t) (i : ∀ σ H Q, t' σ H Q → t σ H Q) : PO X e t' := ⟨fun pins s σ H Q I q => h.run pins s σ H Q I (i σ H Q q)⟩
def asI : D → (Int → Prop) → Prop
  | .sc (.int b), k => k b
  | _, _ => False
theorem asI_inv {d : D} {k : Int → Prop} (h : asI d k) : ∃ b, d = .int b ∧ k b := by
  unfold asI at h
  split at h
  · exact ⟨_, rfl, h⟩
  · exact h.elim
def oNo : WO := fun env R => R none env
def oSo (w : WE) : WO := fun env R => w env fun d e1 => asI d fun i => R (some i) e1
/-- the items of a slice -/
def cutD {α : Type} (xs : List α) (lo hi : Option Int) : List α := (xs.drop (HT.sIx xs.length 0 lo)).take (HT.sIx xs.length xs.length hi - HT.sIx xs.length 0 lo)
abbrev RDS := D → Option Int → Option Int → (D → Prop) → Prop
def rdSl : RDS
  | .obj _ sh xs, lo, hi, R => isSeq sh = true ∧ D.fzL xs = true ∧ R (.lst true (cutD xs lo hi))
  | .sc (.str z), lo, hi, R => z.length ≤ sizeLine ∧ R (.str (cutS z lo hi))
  | .tup xs, lo, hi, R => D.fzL xs = true ∧ ¬ (HT.sIx xs.length 0 lo = 0 ∧ HT.sIx xs.length xs.length hi = xs.length) ∧ R (.tup (cutD xs lo hi))
  | _, _, _, _ => False
theorem RepL.cut {K : PySem.W.Frag} {F H : Hp} {xs : List D} {vs : List V} (r : RepL K F H xs vs []) (n m : Nat) : RepL K F H ((xs.drop n).take m) ((vs.drop n).take m) [] := by
  have dr : ∀ (n : Nat) (xs : List D) (vs : List V), RepL K F H xs vs [] → RepL K F H (xs.drop n) (vs.drop n) [] := by
    intro n
    induction n with
    | zero => intro xs vs r; exact r
    | succ n ih =>
      intro xs vs r
      cases xs with
      | nil => obtain ⟨rfl, _⟩ := r.nil_inv; exact .nil
      | cons x xs =>
        obtain ⟨v, us, A1, A2, rfl, e, r1, r2⟩ := r.cons_inv
        obtain ⟨rfl, rfl⟩ := List.append_eq_nil_iff.mp e.symm
        exact ih _ _ r2
  have tk : ∀ (n : Nat) (xs : List D) (vs : List V), RepL K F H xs vs [] → RepL K F H (xs.take n) (vs.take n) [] := by
    intro n
    induction n with
    | zero => intro xs vs r; exact .nil
    | succ n ih =>
      intro xs vs r
      cases xs with
      | nil => obtain ⟨rfl, _⟩ := r.nil_inv; exact .nil
      | cons x xs =>
        obtain ⟨v, us, A1, A2, rfl, e, r1, r2⟩ := r.cons_inv
        obtain ⟨rfl, rfl⟩ := List.append_eq_nil_iff.mp e.symm
        exact .cons (A := []) (B := []) r1 (ih _ _ r2)
  exact tk m _ _ (dr n _ _ r)
section
variable {X : Cx} {p : Bool} {e : Expr} {we : WE} {wb : WB} {lo hi : Option Expr} {wl wh : WO} {p2 pos : Pos}
theorem do_no : DO p X none oNo := ⟨POimp po_none fun σ H Q ⟨F, B, env, As, R, s, hw, k⟩ => k none H F As env (.refl s) hw⟩
theorem do_so (h : DE p X e we) : DO p X (some e) (oSo we) := by
  refine ⟨POimp (po_some h.pe) ?_⟩
  rintro σ H Q ⟨F, B, env, As, R, s, hw, k⟩
  refine ⟨F, B, env, As, _, s, hw, fun v H1 F1 As1 a d e1 po1 t1 h1 => ?_⟩
  obtain ⟨i, rfl, h1⟩ := asI_inv h1
  obtain ⟨rfl, _⟩ := t1.rep.sc_inv
  exact ⟨i, rfl, k _ H1 F1 As1 e1 po1 h1⟩
def rSlAll (K : PySem.W.Frag) : V → Option Int → Option Int → Hp → VK → Prop := fun x lo hi H Q => rSlL K x lo hi H Q ∨ (rSlS x lo hi H Q ∨ rSlT K x lo hi H Q)
theorem sl_all : SlR X (rSlAll X.K) := sl_list.or (sl_str.or sl_tup)
def SndS (K : PySem.W.Frag) (r : V → Option Int → Option Int → Hp → VK → Prop) (rd : RDS) : Prop :=
  ∀ {F H : Hp} {B : Addr → Prop} {env : En} {σ : St} {As : List (List Addr)} {x : D} {v : V} {a : List Addr} {lo hi : Option Int} {R : D → Prop} {Q : VK}, SO K F H B env σ As → Rep K F H x v a → rd x lo hi R →
    (∀ v' H' F' c z, PostE K true F H B env σ As F' H' env As → TO K F' H' B As z v' c → R z → Q v' H') → r v lo hi H Q
theorem sSl {K : PySem.W.Frag} : SndS K (rSlAll K) rdSl := by
  intro F H B env σ As x v a lo hi R Q s r h k
  unfold rdSl at h
  split at h
  · obtain ⟨hs, z, h⟩ := h
    obtain ⟨p, us, a2, rfl, e1, r1⟩ := r.seq_inv hs s.same
    refine .inl ⟨p, us, rfl, e1, ?_⟩
    have := (r1.fz_mem z).cut (HT.sIx us.length 0 lo) (HT.sIx us.length us.length hi - HT.sIx us.length 0 lo)
    refine out_lst s this ?_ k
    rw [← r1.length]; exact h
  · obtain ⟨rfl, _⟩ := r.sc_inv
    exact .inr (.inl ⟨_, rfl, h.1, out_sc s h.2 k⟩)
  · obtain ⟨z, hn, h⟩ := h
    obtain ⟨p, us, rfl, e1, r1⟩ := r.tup_inv s.same
    refine .inr (.inr ⟨p, us, rfl, e1, by rw [← r1.length]; exact hn, ?_⟩)
    have := (r1.fz_mem z).cut (HT.sIx us.length 0 lo) (HT.sIx us.length us.length hi - HT.sIx us.length 0 lo)
    refine out_tup s this ?_ k
    rw [← r1.length]; exact h
  · exact h.elim
def wSl (we : WE) (wl wh : WO) : WE := fun env R => we env fun d e1 => wl e1 fun l e2 => wh e2 fun h e3 => rdSl d l h fun z => R z e3
theorem de_slice (he : DE p X e we) (hl : DO p X lo wl) (hh : DO p X hi wh) : DE p X (.Subscript e (.Slice lo hi none p2) pos) (wSl we wl wh) := by
  refine ⟨PEimp (pe_slice sl_all he.pe hl.po hh.po) ?_⟩
  rintro σ H Q ⟨F, B, env, As, R, s, hw, k⟩
  refine ⟨F, B, env, As, _, s, hw, fun v H1 F1 As1 a d e1 po1 t1 h1 => ?_⟩
  refine ⟨F1, Bx B a, e1, As1, _, po1.so.push t1, h1, fun l H2 F2 As2 e2 po2 h2 => ?_⟩
  refine ⟨F2, Bx B a, e2, As2, _, po2.so, h2, fun h H3 F3 As3 e3 po3 h3 => ?_⟩
  have po23 := po2.trans po3
  exact sSl po3.so.pop (t1.keep po23).rep h3 fun v' H4 F4 c z po4 t4 h4 => k v' H4 F4 As3 c z e3 ((po1.trans po23.pop).trans (po4.imp fun _ => rfl)) t4 h4
/-- of a value that is read where it lies, by pure parts -/
def wSlB (wb : WB) (wl wh : WO) : WE := fun env R => wb env fun d => wl env fun l e2 => wh e2 fun h e3 => rdSl d l h fun z => R z e3
theorem de_sliceB (he : DB X e wb) (hl : DO true X lo wl) (hh : DO true X hi wh) : DE p X (.Subscript e (.Slice lo hi none p2) pos) (wSlB wb wl wh) := by
  refine ⟨PEimp (pe_slice sl_all he.pe hl.po hh.po) ?_⟩
  rintro σ H Q ⟨F, B, env, As, R, s, hw, k⟩
  refine ⟨F, B, env, As, _, s, hw, fun v H1 F1 a d po1 t1 h1 => ?_⟩
  obtain ⟨B', hB, s', kp⟩ := t1.keep po1.so (F' := F) (H' := H)
  refine ⟨F1, B', env, As, _, s', h1, fun l H2 F2 As2 e2 po2 h2 => ?_⟩
  refine ⟨F2, B', e2, As2, _, po2.so, h2, fun h H3 F3 As3 e3 po3 h3 => ?_⟩
  have po23 := po2.trans po3
  obtain ⟨e1, e4, _⟩ := po23.pure rfl
  subst e1 e4
  obtain ⟨t1', po2', _⟩ := kp _ _ _ _ po23
  exact sSl po2'.so t1'.rep h3 fun v' H4 F4 c z po4 t4 h4 => k v' H4 F4 _ c z _ (((po1.trans po2').trans po4).imp fun _ => rfl) t4 h4
end
end PL

/-! PLe: statements, targets, places that are changed. -/
namespace PL
open PySem L2

/-- what a statement leaves; kp: the slots that it never stores -/
structure PostS (K : PySem.W.Frag) (kp : List Nat) (F H : Hp) (B : Addr → Prop) (σ : St) (F' H' : Hp) (env' : En) (σ' : St) (As' : List (List Addr)) : Prop where
  ext : Same F F'
  so : SO K F' H' B env' σ' As'
  keep : ∀ b, B b → H' b = H b
  kp : ∀ i ∈ kp, σ'[i]? = σ[i]?
  len : σ'.length = σ.length
section
variable {K : PySem.W.Frag} {p : Bool} {kp : List Nat} {F F' F2 H H' H2 : Hp} {B : Addr → Prop} {env env' env2 : En} {σ σ' σ2 : St} {As As' As2 : List (List Addr)} {d d' d2 : D} {v v2 v0 : V} {a a2 : List Addr} {ds : List D} {vs : List V}
theorem PostE.ps (s : PostE K p F H B env σ As F' H' env' As') : PostS K kp F H B σ F' H' env' σ As' := ⟨s.ext, s.so, s.keep, fun _ _ => rfl, rfl⟩
theorem PostS.refl (s : SO K F H B env σ As) : PostS K kp F H B σ F H env σ As := ⟨Same.refl _, s, fun _ _ => rfl, fun _ _ => rfl, rfl⟩
theorem PostS.trans (s : PostS K kp F H B σ F' H' env' σ' As') (t : PostS K kp F' H' B σ' F2 H2 env2 σ2 As2) : PostS K kp F H B σ F2 H2 env2 σ2 As2 :=
  ⟨s.ext.trans t.ext, t.so, fun b hb => (t.keep b hb).trans (s.keep b hb), fun i hi => (t.kp i hi).trans (s.kp i hi), t.len.trans s.len⟩
theorem PostS.pop (s : PostS K kp F H (Bx B a) σ F' H' env' σ' As') : PostS K kp F H B σ F' H' env' σ' As' := ⟨s.ext, s.so.pop, fun b hb => s.keep b (.inl hb), s.kp, s.len⟩
theorem TO.keepS (t : TO K F H B As d v a) (s : PostS K kp F H (Bx B a) σ F' H' env' σ' As') : TO K F' H' B As' d v a := by
  have o := fun x (hx : x ∈ a) => s.so.out x (.inr hx)
  refine ⟨t.rep.frame s.ext fun x hx => s.keep x (.inr hx), ?_, fun x hx => (o x hx).1, t.nb⟩
  exact List.nodup_append.mpr ⟨(List.nodup_append.mp t.nd).1, s.so.nd, fun x hx y hy e => (o x hx).2.2 (e ▸ hy)⟩
theorem TOL.keepS (t : TOL K F H B As ds vs a) (s : PostS K kp F H (Bx B a) σ F' H' env' σ' As') : TOL K F' H' B As' ds vs a := by
  have o := fun x (hx : x ∈ a) => s.so.out x (.inr hx)
  refine ⟨t.rep.frame s.ext fun x hx => s.keep x (.inr hx), ?_, fun x hx => (o x hx).1, t.nb⟩
  exact List.nodup_append.mpr ⟨(List.nodup_append.mp t.nd).1, s.so.nd, fun x hx y hy e => (o x hx).2.2 (e ▸ hy)⟩
theorem TOL.uncons (t : TOL K F H B As (d :: ds) vs a) : ∃ v us a1 a2, vs = v :: us ∧ a = a1 ++ a2 ∧ TO K F H (Bx B a2) As d v a1 ∧ TOL K F H B As ds us a2 ∧ ∀ x ∈ a1, x ∉ a2 := by
  obtain ⟨v, us, a1, a2, rfl, rfl, r1, r2⟩ := t.rep.cons_inv
  have nd := t.nd
  rw [List.append_assoc] at nd
  have n1 := List.nodup_append.mp nd
  have n2 := List.nodup_append.mp n1.2.1
  have ap : ∀ x ∈ a1, x ∉ a2 := fun x hx hy => n1.2.2 x hx x (List.mem_append_left _ hy) rfl
  refine ⟨v, us, a1, a2, rfl, rfl, ⟨r1, ?_, fun x hx => t.fr x (List.mem_append_left _ hx), fun x hx hb => ?_⟩, ⟨r2, n1.2.1, fun x hx => t.fr x (List.mem_append_right _ hx), fun x hx => t.nb x (List.mem_append_right _ hx)⟩, ap⟩
  · exact List.nodup_append.mpr ⟨n1.1, n2.2.1, fun x hx y hy => n1.2.2 x hx y (List.mem_append_right _ hy)⟩
  · rcases hb with hb | hb
    · exact t.nb x (List.mem_append_left _ hx) hb
    · exact ap x hx hb
/-- a value at hand goes into slot i -/
theorem SO.assign (s : SO K F H B env σ As) (t : TO K F H B As d v a) (i : Nat) : SO K F H B (env.set i (some d)) (σ.set i (some v)) (As.set i a) := by
  by_cases hl : i < As.length
  · have s1 := s.drop i
    have pm := flat_at As i As[i] (by simp [hl])
    have t1 : TO K F H B (As.set i []) d v a := by
      refine ⟨t.rep, ?_, t.fr, t.nb⟩
      have n := List.nodup_append.mp t.nd
      exact List.nodup_append.mpr ⟨n.1, s1.nd, fun x hx y hy => n.2.2 x hx y (pm.mem_iff.mpr (List.mem_append_right _ hy))⟩
    have := s1.store (i := i) (s.emptied hl) t1
    rwa [set_set, set_set] at this
  · have e1 : As.set i a = As := List.set_eq_of_length_le (by omega)
    have e2 : env.set i (some d) = env := List.set_eq_of_length_le (by have := s.env.len.2; omega)
    have e3 : σ.set i (some v) = σ := List.set_eq_of_length_le (by have := s.env.len; omega)
    rw [e1, e2, e3]; exact s
theorem SO.assignS (s : SO K F H B env σ As) (t : TO K F H B As d v a) {i : Nat} (h : i ∉ kp) : PostS K kp F H B σ F H (env.set i (some d)) (σ.set i (some v)) (As.set i a) :=
  ⟨Same.refl _, s.assign t i, fun _ _ => rfl, fun j hj => List.getElem?_set_ne (fun e : i = j => h (e ▸ hj)), List.length_set ..⟩
end

/-! ### statements -/
structure EN where
  nx : En → Prop
  rt : D → En → Prop
  bk : En → Prop := fun _ => False
  ct : En → Prop := fun _ => False
abbrev WS := En → EN → Prop
def liftS (K : PySem.W.Frag) (kp : List Nat) (w : WS) : TS := fun D σ H => ∃ F B env As RD, SO K F H B env σ As ∧ w env RD ∧
  (∀ σ' H' F' As' env', PostS K kp F H B σ F' H' env' σ' As' → RD.nx env' → D.nx σ' H') ∧
  (∀ σ' H' F' As' env', PostS K kp F H B σ F' H' env' σ' As' → RD.bk env' → D.bk σ' H') ∧
  (∀ σ' H' F' As' env', PostS K kp F H B σ F' H' env' σ' As' → RD.ct env' → D.ct σ' H') ∧
  (∀ v σ' H' F' As' a d env', PostS K kp F H B σ F' H' env' σ' As' → TO K F' H' B As' d v a → RD.rt d env' → D.rt v H')
structure DS (kp : List Nat) (X : Cx) (st : Stmt) (w : WS) : Prop where
  ps : PS X st (liftS X.K kp w)
structure DSs (kp : List Nat) (X : Cx) (st : List Stmt) (w : WS) : Prop where
  ps : PSs X st (liftS X.K kp w)
section
variable {X : Cx} {p : Bool} {kp : List Nat} {e c : Expr} {st : Stmt} {rest sa sb : List Stmt} {we : WE} {ws wr wa wb : WS} {wt : WT} {pos : Pos}
def sNext : WS := fun env RD => RD.nx env
def sSeq (w1 w2 : WS) : WS := fun env RD => w1 env { RD with nx := fun e1 => w2 e1 RD }
theorem dss_nil : DSs kp X [] sNext := ⟨PSsimp pss_nil fun D σ H ⟨F, B, env, As, RD, s, hw, k1, k2, k3, k4⟩ => k1 σ H F As env (.refl s) hw⟩
theorem dss_cons (h : DS kp X st ws) (hs : DSs kp X rest wr) : DSs kp X (st :: rest) (sSeq ws wr) := by
  refine ⟨PSsimp (pss_cons h.ps hs.ps) ?_⟩
  rintro D σ H ⟨F, B, env, As, RD, s, hw, k1, k2, k3, k4⟩
  refine ⟨F, B, env, As, _, s, hw, fun σ1 H1 F1 As1 e1 po1 h1 => ?_, k2, k3, k4⟩
  exact ⟨F1, B, e1, As1, RD, po1.so, h1, fun σ2 H2 F2 As2 e2 po2 => k1 σ2 H2 F2 As2 e2 (po1.trans po2), fun σ2 H2 F2 As2 e2 po2 => k2 σ2 H2 F2 As2 e2 (po1.trans po2), fun σ2 H2 F2 As2 e2 po2 => k3 σ2 H2 F2 As2 e2 (po1.trans po2),
    fun v σ2 H2 F2 As2 a d e2 po2 => k4 v σ2 H2 F2 As2 a d e2 (po1.trans po2)⟩
theorem dss_one (h : DS kp X st ws) : DSs kp X [st] ws := ⟨pss_one h.ps⟩
theorem ds_pass : DS kp X (.Pass pos) sNext := ⟨PSimp ps_pass fun D σ H ⟨F, B, env, As, RD, s, hw, k1, k2, k3, k4⟩ => k1 σ H F As env (.refl s) hw⟩
def sBreak : WS := fun env RD => RD.bk env
def sCont : WS := fun env RD => RD.ct env
theorem ds_break : DS kp X (.Break pos) sBreak := ⟨PSimp ps_break fun D σ H ⟨F, B, env, As, RD, s, hw, k1, k2, k3, k4⟩ => k2 σ H F As env (.refl s) hw⟩
theorem ds_cont : DS kp X (.Continue pos) sCont := ⟨PSimp ps_continue fun D σ H ⟨F, B, env, As, RD, s, hw, k1, k2, k3, k4⟩ => k3 σ H F As env (.refl s) hw⟩
def sDrop (we : WE) : WS := fun env RD => we env fun _ e1 => RD.nx e1
theorem ds_expr (h : DE p X e we) (hs : swapsWith e none pos.line X.env = pure false := by rfl) : DS kp X (.Expr e pos) (sDrop we) := by
  refine ⟨PSimp (ps_expr h.pe hs) ?_⟩
  rintro D σ H ⟨F, B, env, As, RD, s, hw, k1, k2, k3, k4⟩
  exact ⟨F, B, env, As, _, s, hw, fun v H1 F1 As1 a d e1 po1 t1 h1 => k1 σ H1 F1 As1 e1 po1.ps h1⟩
def sRet (we : WE) : WS := fun env RD => we env RD.rt
theorem ds_ret (h : DE p X e we) : DS kp X (.Return (some e) pos) (sRet we) := by
  refine ⟨PSimp (ps_ret h.pe) ?_⟩
  rintro D σ H ⟨F, B, env, As, RD, s, hw, k1, k2, k3, k4⟩
  exact ⟨F, B, env, As, _, s, hw, fun v H1 F1 As1 a d e1 po1 t1 h1 => k4 v σ H1 F1 As1 a d e1 po1.ps t1 h1⟩
def sRetN : WS := fun env RD => RD.rt .non env
theorem ds_retN : DS kp X (.Return none pos) sRetN := ⟨PSimp ps_retN fun D σ H ⟨F, B, env, As, RD, s, hw, k1, k2, k3, k4⟩ => k4 .non σ H F As [] .non env (.refl s) (.sc s .non) hw⟩
def sIf (wt : WT) (wa wb : WS) : WS := fun env RD => wt env fun b e1 => if b = true then wa e1 RD else wb e1 RD
theorem ds_if (hc : DT p X c wt) (ha : DSs kp X sa wa) (hb : DSs kp X sb wb) : DS kp X (.If c sa sb pos) (sIf wt wa wb) := by
  refine ⟨PSimp (ps_if hc.pt ha.ps hb.ps) ?_⟩
  rintro D σ H ⟨F, B, env, As, RD, s, hw, k1, k2, k3, k4⟩
  refine ⟨F, B, env, As, _, s, hw, fun b H1 F1 As1 e1 po1 h1 => ?_⟩
  have go : ∀ w : WS, w e1 RD → liftS X.K kp w D σ H1 := fun w h => ⟨F1, B, e1, As1, RD, po1.so, h, fun σ2 H2 F2 As2 e2 po2 => k1 σ2 H2 F2 As2 e2 (po1.ps.trans po2), fun σ2 H2 F2 As2 e2 po2 => k2 σ2 H2 F2 As2 e2 (po1.ps.trans po2), fun σ2 H2 F2 As2 e2 po2 => k3 σ2 H2 F2 As2 e2 (po1.ps.trans po2),
    fun v σ2 H2 F2 As2 a d e2 po2 => k4 v σ2 H2 F2 As2 a d e2 (po1.ps.trans po2)⟩
  cases b with
  | true => exact go wa h1
  | false => exact go wb h1
/-- a name, a tuple of targets -/
abbrev WG := D → En → (En → Prop) → Prop
abbrev WGs := List D → En → (En → Prop) → Prop
def liftG (K : PySem.W.Frag) (kp : List Nat) (g : WG) : TG := fun v σ H Q => ∃ F B env As d a R, SO K F H B env σ As ∧ TO K F H B As d v a ∧ g d env R ∧
  ∀ σ' H' F' As' env', PostS K kp F H B σ F' H' env' σ' As' → R env' → Q σ' H'
def liftGs (K : PySem.W.Frag) (kp : List Nat) (g : WGs) : TGs := fun vs σ H Q => ∃ F B env As ds a R, SO K F H B env σ As ∧ TOL K F H B As ds vs a ∧ g ds env R ∧
  ∀ σ' H' F' As' env', PostS K kp F H B σ F' H' env' σ' As' → R env' → Q σ' H'
structure DG (kp : List Nat) (X : Cx) (e : Expr) (g : WG) : Prop where
  pg : PG X e (liftG X.K kp g)
structure DGs (kp : List Nat) (X : Cx) (es : List Expr) (g : WGs) : Prop where
  pg : PGs X es (liftGs X.K kp g)
theorem PGsimp {X : Cx} {e : List Expr} {t t' : TGs} (h : PGs X e t) (i : ∀ v σ H Q, t' v σ H Q → t v σ H Q) : PGs X e t' := ⟨fun pins s σ H v u Q I r q => h.run pins s σ H v u Q I r (i v σ H Q q)⟩
def gNm (i : Nat) : WG := fun d env R => R (env.set i (some d))
theorem dg_name {i : Nat} (h : PG X e (gName i)) (hi : i ∉ kp) : DG kp X e (gNm i) :=
  ⟨PGimp h fun v σ H Q ⟨F, B, env, As, d, a, R, s, t, hw, k⟩ => k _ H F _ _ (s.assignS t hi) hw⟩
def gsNil : WGs := fun ds env R => ds = [] ∧ R env
def gsCons (g : WG) (gs : WGs) : WGs
  | d :: ds, env, R => g d env fun e1 => gs ds e1 R
  | [], _, _ => False
variable {es : List Expr} {g : WG} {gs : WGs}
theorem dgs_nil : DGs kp X [] gsNil := ⟨PGsimp pgs_nil fun vs σ H Q ⟨F, B, env, As, ds, a, R, s, t, ⟨e, hw⟩, k⟩ => by
  subst e
  obtain ⟨rfl, _⟩ := t.rep.nil_inv
  exact ⟨rfl, k σ H F As env (.refl s) hw⟩⟩
theorem dgs_cons (h : DG kp X e g) (hs : DGs kp X es gs) (st : (assignEach (e :: es) X.env).map (·.2) = assign e X.env :: (assignEach es X.env).map (·.2) := by rfl) : DGs kp X (e :: es) (gsCons g gs) := by
  refine ⟨PGsimp (pgs_cons h.pg hs.pg st) ?_⟩
  rintro vs σ H Q ⟨F, B, env, As, ds, a, R, s, t, hw, k⟩
  cases ds with
  | nil => exact hw.elim
  | cons d ds =>
    obtain ⟨v, us, a1, a2, rfl, rfl, t1, t2, ap⟩ := t.uncons
    refine ⟨v, us, rfl, F, Bx B a2, env, As, d, a1, _, s.pushL t2, t1, hw, fun σ1 H1 F1 As1 e1 po1 h1 => ?_⟩
    exact ⟨F1, B, e1, As1, ds, a2, R, po1.so.pop, t2.keepS po1, h1, fun σ2 H2 F2 As2 e2 po2 => k σ2 H2 F2 As2 e2 (po1.pop.trans po2)⟩
def gTp (n : Nat) (gs : WGs) : WG
  | .tup ds, env, R => ds.length = n ∧ gs ds env R
  | _, _, _ => False
theorem dg_tup {k n : Nat} (hc : X.calm = true) (h : DGs kp X es gs) (hn : (assignEach es X.env).length = n := by rfl) (hst : (assignEach es X.env).findIdx? (·.1) = none := by rfl) : DG kp X (.Tuple es k pos) (gTp n gs) := by
  refine ⟨PGimp (pg_tup hc h.pg hn hst) ?_⟩
  rintro v σ H Q ⟨F, B, env, As, d, a, R, s, t, hw, k⟩
  unfold gTp at hw
  split at hw
  · obtain ⟨q, vs, rfl, e1, r1⟩ := t.rep.tup_inv s.same
    exact ⟨q, vs, rfl, e1, by rw [← r1.length]; exact hw.1, F, B, env, As, _, a, R, s, ⟨r1, t.nd, t.fr, t.nb⟩, hw.2, k⟩
  · exact hw.elim
def sAsg (we : WE) (g : WG) : WS := fun env RD => we env fun d e1 => g d e1 RD.nx
theorem asg_lift {te : TE} {tg : TG} (i : ∀ σ H Q, liftE X.K p we σ H Q → te σ H Q) (j : ∀ v σ H Q, liftG X.K kp g v σ H Q → tg v σ H Q) : ∀ D σ H, liftS X.K kp (sAsg we g) D σ H → tAsg te tg D σ H := by
  rintro D σ H ⟨F, B, env, As, RD, s, hw, k1, k2, k3, k4⟩
  refine i σ H _ ⟨F, B, env, As, _, s, hw, fun v H1 F1 As1 a d e1 po1 t1 h1 => ?_⟩
  exact j v σ H1 _ ⟨F1, B, e1, As1, d, a, _, po1.so, t1, h1, fun σ2 H2 F2 As2 e2 po2 h2 => k1 σ2 H2 F2 As2 e2 (po1.ps.trans po2) h2⟩
theorem ds_asg {tg : Expr} (h : DE p X e we) (hg : DG kp X tg g) (hs : swapsWithSole [tg] e pos.line X.env = pure false := by rfl) (hw : swappedStores [tg] e X.env = pure none := by rfl)
    (h1 : (assignEach [tg] X.env).map (·.2) = [assign tg X.env] := by rfl) : DS kp X (.Assign [tg] e pos) (sAsg we g) :=
  ⟨PSimp (ps_asg h.pe hg.pg hs hw h1) (asg_lift (fun _ _ _ h => h) fun _ _ _ _ h => h)⟩
theorem ds_set {i : Nat} {x : Str} {pos' : Pos} (hN : X.N.Nodup) (hi : X.N[i]? = some x) (hx : Loc X.env.scope x) (h : DE p X e we) (hk : i ∉ kp) (hs : swapsWith e (some (.Name x pos')) pos.line X.env = pure false := by rfl) (hf : X.fn x = true ∨ X.env.scope.names.lookup x = some .local := by first | exact .inl rfl | exact .inr rfl | assumption) :
    DS kp X (.Assign [.Name x pos'] e pos) (sAsg we (gNm i)) :=
  ⟨PSimp (ps_set hN hi hx h.pe hs hf) (asg_lift (fun _ _ _ h => h) fun v σ H Q ⟨F, B, env, As, d, a, R, s, t, hw, k⟩ => k _ H F _ _ (s.assignS t hk) hw)⟩
/-- x op= e, x a scalar -/
def sAug (i : Nat) (rd : RD2) (we : WE) : WS := fun env RD => ∃ x, env[i]? = some (some x) ∧ x.fz = true ∧ we env fun y e1 => rd x y fun z => RD.nx (e1.set i (some z))
theorem ds_aug {i : Nat} {x : Str} {op : Operator} {r : R2} {rd : RD2} {pos' : Pos} (hN : X.N.Nodup) (hi : X.N[i]? = some x) (hx : Loc X.env.scope x) (h : DE p X e we) (ho : OpR X (inplaceOp op) r) (hr : Snd2 X.K r rd) (hk : i ∉ kp)
    (hf : X.fn x = true ∨ X.env.scope.names.lookup x = some .local := by first | exact .inl rfl | exact .inr rfl | assumption) : DS kp X (.AugAssign (.Name x pos') op e pos) (sAug i rd we) := by
  refine ⟨PSimp (ps_aug hN hi hx h.pe (show PIp X op r from ho) hf) ?_⟩
  rintro D σ H ⟨F, B, env, As, RD, s, ⟨d, hd, hz, hw⟩, k1, k2, k3, k4⟩
  obtain ⟨v, a, h1, h2, h3⟩ := s.env.get hd
  have := h3.fzNil hz; subst this
  refine ⟨v, h1, F, B, env, As, _, s, hw, fun u H1 F1 As1 b y e1 po1 t1 g1 => ?_⟩
  refine hr po1.so (h3.frame po1.ext fun _ z => nomatch z) t1.rep g1 fun v' H3 F3 c z po3 t3 g3 => ?_
  exact k1 _ H3 F3 _ _ (po1.ps.trans (po3.ps.trans (po3.so.assignS t3 hk))) g3
end
end PL

/-! PLf: own things that are changed where they lie. -/
namespace PL
open PySem L2

/-- within the tree d at v (own things A) lies d' at v' (own things A'); u puts another tree there -/
def Foc (K : PySem.W.Frag) (F H : Hp) (d : D) (v : V) (A : List Addr) (u : D → D) (d' : D) (v' : V) (A' : List Addr) : Prop :=
  ∃ A1 A2, A = A1 ++ A' ++ A2 ∧ Rep K F H d' v' A' ∧ ∀ (F' H' : Hp) (e : D) (A'' : List Addr), Same F F' → (∀ a ∈ A1 ++ A2, H' a = H a) → Rep K F' H' e v' A'' → Rep K F' H' (u e) v (A1 ++ A'' ++ A2)
section
variable {K : PySem.W.Frag} {p : Bool} {kp : List Nat} {F F' F2 H H' H2 : Hp} {B : Addr → Prop} {env env' env2 : En} {σ σ' σ2 : St} {As As' As2 : List (List Addr)} {d d' d2 : D} {v v' v2 v0 : V} {A A' a a2 : List Addr} {ds : List D} {vs : List V} {u : D → D}
theorem Foc.root (r : Rep K F H d v A) : Foc K F H d v A id d v A := ⟨[], [], by simp, r, fun F' H' e A'' _ _ q => by simpa using q⟩
/-- an item of an own list -/
theorem Foc.item {xs : List D} {j : Nat} {x : D} (f : Foc K F H d v A u (.obj true .lst xs) v' A') (e : xs[j]? = some x) :
    ∃ p vs w A0, v' = .ref p ∧ H p = some (.lst vs) ∧ vs[j]? = some w ∧ xs.length = vs.length ∧ Foc K F H d v A (fun y => u (.lst true (xs.set j y))) x w A0 := by
  obtain ⟨A1, A2, rfl, r, up⟩ := f
  cases r with
  | @own _ p vs _ A3 h r =>
    obtain ⟨w, B1, B0, B2, h1, h2, h3, h4⟩ := r.get e
    subst h2
    refine ⟨p, vs, w, B0, rfl, h, h1, r.length, A1 ++ p :: B1, B2 ++ A2, by simp, h3, fun F' H' y A'' sm k q => ?_⟩
    have q2 := h4 (F' := F') (H' := H') (d' := y) (v' := w) sm (fun a ha => k a (by
      rcases List.mem_append.mp ha with z | z
      · simp [z]
      · simp [z])) q
    have e2 : vs.set j w = vs := by
      refine List.ext_getElem? fun i => ?_
      by_cases hi : j = i
      · subst hi
        rw [List.getElem?_set_self (List.getElem?_eq_some_iff.mp h1).1]; exact h1.symm
      · rw [List.getElem?_set_ne hi]
    rw [e2] at q2
    have hp : H' p = H p := k p (by simp)
    have := up F' H' (.lst true (xs.set j y)) (p :: (B1 ++ A'' ++ B2)) sm (fun a ha => k a (by
      rcases List.mem_append.mp ha with z | z
      · simp [z]
      · simp [z])) (.own (show CellO H' .lst p vs from hp.trans h) q2)
    simpa using this
/-- through a state that keeps the own things -/
theorem Foc.frame (f : Foc K F H d v A u d' v' A') (e : Same F F') (k : ∀ a ∈ A, H' a = H a) : Foc K F' H' d v A u d' v' A' := by
  obtain ⟨A1, A2, rfl, r, up⟩ := f
  refine ⟨A1, A2, rfl, r.frame e fun a ha => k a (by simp [ha]), fun F2 H2 y A'' sm k2 q => up F2 H2 y A'' (e.trans sm) (fun a ha => (k2 a ha).trans (k a ?_)) q⟩
  rcases List.mem_append.mp ha with z | z
  · simp [z]
  · simp [z]
theorem mem_of_slot {As : List (List Addr)} {i : Nat} {A : List Addr} (h : As[i]? = some A) {x : Addr} (hx : x ∈ A) : x ∈ As.flatten := List.mem_flatten.mpr ⟨A, List.mem_of_getElem? h, hx⟩
/-- THE WRITE: the own thing at p, within what slot i holds, is changed; a: own things that come in -/
theorem SO.write {i : Nat} {o : HO} {p : Addr} {A'' : List Addr} {d'' : D} (s : SO K F H B env σ As) (hσ : σ[i]? = some (some v0)) (hA : As[i]? = some A) (f : Foc K F H d v0 A u d' v' A') (hp : p ∈ A')
    (ha : (a ++ As.flatten).Nodup) (fr : ∀ x ∈ a, F x = none) (nb : ∀ x ∈ a, ¬ B x) (sub : ∀ x ∈ A'', x ∈ A' ∨ x ∈ a) (nd : A''.Nodup) (r : Rep K F (upd H p o) d'' v' A'') :
    ∃ As', SO K F (upd H p o) B (env.set i (some (u d''))) σ As' ∧ (∀ b, B b → upd H p o b = H b) ∧ (∀ x ∈ As'.flatten, x ∈ As.flatten ∨ x ∈ a) := by
  obtain ⟨A1, A2, rfl, r0, up⟩ := f
  have pm := flat_at As i _ hA
  have ndA := List.nodup_append.mp (pm.nodup_iff.mp s.nd)
  have n1 := ndA.1
  rw [List.append_assoc] at n1
  have n2 := List.nodup_append.mp n1
  have n3 := List.nodup_append.mp n2.2.1
  have pA : p ∈ As.flatten := mem_of_slot hA (by simp [hp])
  have hn := List.nodup_append.mp ha
  have ain : ∀ x ∈ a, x ∉ As.flatten := fun x hx z => hn.2.2 x hx x z rfl
  have rest : ∀ x ∈ (As.set i []).flatten, x ∈ As.flatten := fun x hx => pm.mem_iff.mpr (List.mem_append_right _ hx)
  have A1f : ∀ x ∈ A1, x ∈ As.flatten := fun x hx => mem_of_slot hA (by simp [hx])
  have A2f : ∀ x ∈ A2, x ∈ As.flatten := fun x hx => mem_of_slot hA (by simp [hx])
  have A'f : ∀ x ∈ A', x ∈ As.flatten := fun x hx => mem_of_slot hA (by simp [hx])
  have Xf : ∀ x ∈ A1 ++ A'' ++ A2, x ∈ A1 ++ A' ++ A2 ∨ x ∈ a := fun x hx => by
    rcases List.mem_append.mp hx with z | z
    · rcases List.mem_append.mp z with z | z
      · exact .inl (by simp [z])
      · rcases sub x z with y | y
        · exact .inl (by simp [y])
        · exact .inr y
    · exact .inl (by simp [z])
  have hl : i < As.length := (List.getElem?_eq_some_iff.mp hA).1
  have pm2 := flat_set As i (A1 ++ A'' ++ A2) hl
  have nX : (A1 ++ A'' ++ A2).Nodup := by
    rw [List.append_assoc]
    refine List.nodup_append.mpr ⟨n2.1, List.nodup_append.mpr ⟨nd, n3.2.1, fun x hx y hy e => ?_⟩, fun x hx y hy e => ?_⟩
    · subst e
      rcases sub x hx with z | z
      · exact n3.2.2 x z x hy rfl
      · exact ain x z (A2f x hy)
    · subst e
      rcases List.mem_append.mp hy with z | z
      · rcases sub x z with z | z
        · exact n2.2.2 x hx x (List.mem_append_left _ z) rfl
        · exact ain x z (A1f x hx)
      · exact n2.2.2 x hx x (List.mem_append_right _ z) rfl
  have kr : ∀ x ∈ (As.set i []).flatten, upd H p o x = H x := fun x hx => upd_ne fun e => ndA.2.2 p (by simp [hp]) x hx e.symm
  have k12 : ∀ x ∈ A1 ++ A2, upd H p o x = H x := fun x hx => upd_ne fun e => by
    subst e
    rcases List.mem_append.mp hx with z | z
    · exact n2.2.2 x z x (List.mem_append_left _ hp) rfl
    · exact n3.2.2 x hp x z rfl
  have keepB : ∀ b, B b → upd H p o b = H b := fun b hb => upd_ne fun e => (s.out b hb).2.2 (e ▸ pA)
  refine ⟨As.set i (A1 ++ A'' ++ A2), ⟨fun b w e => ?_, ?_, ?_, fun x hx => ?_, fun b hb => ?_⟩, keepB, fun x hx => ?_⟩
  · rw [upd_ne fun z => by rw [z, s.fr p pA] at e; cases e]; exact s.same b w e
  · have e1 := (s.env.drop i).frame (H' := upd H p o) (Same.refl F) kr
    have e2 := e1.tell (up F (upd H p o) d'' A'' (Same.refl F) k12 r) hσ
    rwa [set_set, set_set] at e2
  · refine pm2.nodup_iff.mpr (List.nodup_append.mpr ⟨nX, ndA.2.1, fun x hx y hy e => ?_⟩)
    subst e
    rcases Xf x hx with z | z
    · exact ndA.2.2 x z x hy rfl
    · exact ain x z (rest x hy)
  · rcases List.mem_append.mp (pm2.mem_iff.mp hx) with z | z
    · rcases Xf x z with y | y
      · exact s.fr x (mem_of_slot hA y)
      · exact fr x y
    · exact s.fr x (rest x z)
  · obtain ⟨k1, ⟨w, k2⟩, k3⟩ := s.out b hb
    refine ⟨k1, ⟨w, (keepB b hb).trans k2⟩, fun z => ?_⟩
    rcases List.mem_append.mp (pm2.mem_iff.mp z) with y | y
    · rcases Xf b y with q | q
      · exact k3 (mem_of_slot hA q)
      · exact nb b q hb
    · exact k3 (rest b y)
  · rcases List.mem_append.mp (pm2.mem_iff.mp hx) with y | y
    · rcases Xf x y with q | q
      · exact .inl (mem_of_slot hA q)
      · exact .inr q
    · exact .inl (rest x y)
end

/-! ### places -/
/-- slot i, what lies at the place, how another thing is put there -/
abbrev WM := En → (Nat → D → (D → D) → Prop) → Prop
def liftM (K : PySem.W.Frag) (w : WM) : TE := fun σ H Q => ∃ F B env As R, SO K F H B env σ As ∧ w env R ∧
  ∀ v H' F' i d v0 A u d' A', PostE K true F H B env σ As F' H' env As → env[i]? = some (some d) → σ[i]? = some (some v0) → As[i]? = some A → Foc K F' H' d v0 A u d' v A' → R i d' u → Q v H'
structure DM (X : Cx) (e : Expr) (w : WM) : Prop where
  pe : PE X e (liftM X.K w)
section
variable {X : Cx} {p : Bool} {kp : List Nat} {e a b : Expr} {wm : WM} {we wi : WE} {pos : Pos}
def mName (i : Nat) : WM := fun env R => ∃ d, env[i]? = some (some d) ∧ R i d id
theorem dm_name {i : Nat} (h : PE X e (tVar i)) : DM X e (mName i) := by
  refine ⟨PEimp h fun σ H Q ⟨F, B, env, As, R, s, ⟨d, he, hw⟩, k⟩ => ?_⟩
  obtain ⟨v, A, h1, h2, h3⟩ := s.env.get he
  exact ⟨v, h1, k v H F i d v A id d A (.refl s) he h1 h2 (.root h3) hw⟩
/-- an item of an own list that is such a place -/
def mIx (wm : WM) (wi : WE) : WM := fun env R => wm env fun i d' u => wi env fun k _ => asI k fun kk => match d' with
  | .obj true .lst xs => ∃ j x, L2.ixN xs.length kk = some j ∧ xs[j]? = some x ∧ R i x fun y => u (.lst true (xs.set j y))
  | _ => False
theorem dm_ix (ha : DM X a wm) (hb : DE true X b wi) (hs : PlainIx b) : DM X (.Subscript a b pos) (mIx wm wi) := by
  refine ⟨PEimp (pe_ix ix_list ha.pe hb.pe hs) ?_⟩
  rintro σ H Q ⟨F, B, env, As, R, s, hw, k⟩
  refine ⟨F, B, env, As, _, s, hw, fun v H1 F1 i d v0 A u d' A' po1 g1 g2 g3 f1 h1 => ?_⟩
  refine ⟨F1, B, env, As, _, po1.so, h1, fun y H2 F2 As2 a2 kd e2 po2 t2 h2 => ?_⟩
  obtain ⟨z1, z2, z3⟩ := po2.pure rfl
  subst z1 z2
  obtain ⟨kk, rfl, h2⟩ := asI_inv h2
  obtain ⟨rfl, _⟩ := t2.rep.sc_inv
  have f2 := f1.frame po2.ext fun x hx => z3 x (mem_of_slot g3 hx)
  split at h2
  · rename_i xs
    obtain ⟨j, x, hj, hx, h2⟩ := h2
    obtain ⟨q, vs, w, A0, rfl, e1, e2, el, f3⟩ := f2.item hx
    refine ⟨q, vs, kk, w, rfl, rfl, .of e1, ?_, k w H2 F2 i d v0 A _ x A0 (po1.trans po2) g1 g2 g3 f3 h2⟩
    unfold L2.atI
    rw [← el, hj]
    exact e2
  · exact h2.elim
/-- .. read -/
theorem DM.db (h : DM X e wm) : DB X e (fun env R => wm env fun _ d _ => R d) := by
  refine ⟨PEimp h.pe fun σ H Q ⟨F, B, env, As, R, s, hw, k⟩ => ⟨F, B, env, As, _, s, hw, fun v H' F' i d v0 A u d' A' po g1 g2 g3 f h => ?_⟩⟩
  obtain ⟨A1, A2, rfl, r, _⟩ := f
  exact k v H' F' A' d' po ⟨r, .inl fun x hx => mem_of_slot g3 (by simp [hx])⟩ h

/-- what comes in: frozen, or as it is -/
def inK (kf : Bool) (d : D) : D := if kf then d else d.frz
theorem in_ok {K : PySem.W.Frag} {F H : Hp} {B : Addr → Prop} {env : En} {σ : St} {As : List (List Addr)} {d : D} {v : V} {a : List Addr} (kf : Bool) (s : SO K F H B env σ As) (t : TO K F H B As d v a) :
    ∃ F' a', PostE K true F H B env σ As F' H env As ∧ TO K F' H B As (inK kf d) v a' ∧ ∀ x ∈ a', x ∈ a := by
  cases kf with
  | true => exact ⟨F, a, .refl s, t, fun _ z => z⟩
  | false =>
    obtain ⟨po, r⟩ := s.freeze t
    exact ⟨_, [], po, .fz r po.so, fun _ z => nomatch z⟩
theorem TO.ext {K : PySem.W.Frag} {F F' H : Hp} {B B' : Addr → Prop} {As : List (List Addr)} {d : D} {v : V} {a : List Addr} (t : TO K F H B As d v a) (e : Same F F') (fr : ∀ x ∈ a, F' x = none) (nb : ∀ x ∈ a, ¬ B' x) : TO K F' H B' As d v a := ⟨t.rep.frame e fun _ _ => rfl, t.nd, fr, nb⟩

/-! ### list changes -/
/-- place[i] = e -/
def sSetIx (kf : Bool) (we : WE) (wm : WM) (wi : WE) : WS := fun env RD => we env fun y e1 => wm e1 fun i d' u => wi e1 fun k _ => asI k fun kk => match d' with
  | .obj true .lst xs => ∃ j, L2.ixN xs.length kk = some j ∧ RD.nx (e1.set i (some (u (.lst true (xs.set j (inK kf y))))))
  | _ => False
/-- setting an item, by states -/
theorem set_core {K : PySem.W.Frag} {F H : Hp} {B : Addr → Prop} {env : En} {σ : St} {As : List (List Addr)} {i : Nat} {d : D} {v0 v yv : V} {A A' ay : List Addr} {u : D → D} {xs : List D} {y : D} {j : Nat} {kk : Int} {Q : Hp → Prop} {R : En → Prop}
    (s : SO K F H B env σ As) (g1 : env[i]? = some (some d)) (g2 : σ[i]? = some (some v0)) (g3 : As[i]? = some A) (f : Foc K F H d v0 A u (.obj true .lst xs) v A') (t : TO K F H B As y yv ay) (hj : L2.ixN xs.length kk = some j)
    (h : R (env.set i (some (u (.lst true (xs.set j y)))))) (k : ∀ H' As', SO K F H' B (env.set i (some (u (.lst true (xs.set j y))))) σ As' → (∀ b, B b → H' b = H b) → R (env.set i (some (u (.lst true (xs.set j y))))) → Q H') :
    rSetL v (.int kk) yv H Q := by
  obtain ⟨A1, A2, eA, r, up⟩ := id f
  cases r with
  | @own _ p vs _ A3 hc r =>
    have hlt := (ixN_seq hj).2.1
    obtain ⟨w, B1, B0, B2, h1, h2, h3, h4⟩ := r.get (List.getElem?_eq_getElem hlt)
    subst h2
    have ndA : A.Nodup := (List.nodup_append.mp ((flat_at As i _ g3).nodup_iff.mp s.nd)).1
    rw [eA] at ndA
    have nA' : (p :: (B1 ++ B0 ++ B2)).Nodup := (List.nodup_append.mp (List.nodup_append.mp ndA).1).2.1
    have np := List.nodup_cons.mp nA'
    have pf : p ∈ As.flatten := mem_of_slot g3 (by rw [eA]; exact List.mem_append_left _ (List.mem_append_right _ (List.mem_cons_self ..)))
    have nay : p ∉ ay := fun z => (List.nodup_append.mp t.nd).2.2 p z p pf rfl
    have nyB : ∀ x ∈ B1 ++ B0 ++ B2, x ∉ ay := fun x hx z => (List.nodup_append.mp t.nd).2.2 x z x (mem_of_slot g3 (by rw [eA]; exact List.mem_append_left _ (List.mem_append_right _ (List.mem_cons_of_mem _ hx)))) rfl
    have hp : H p = some (.lst vs) := hc
    refine ⟨p, vs, kk, j, rfl, rfl, hp, by rw [← r.length]; exact hj, ?_⟩
    have rr := h4 (F' := F) (H' := upd H p (.lst (vs.set j yv))) (d' := y) (v' := yv) (Same.refl _) (fun x hx => upd_ne fun e => np.1 (by
      subst e
      rcases List.mem_append.mp hx with z | z
      · simp [z]
      · simp [z])) (t.rep.frame (Same.refl _) fun x hx => upd_ne fun e => nay (e ▸ hx))
    have n3 := np.2
    rw [List.append_assoc] at n3
    have n4 := List.nodup_append.mp n3
    have n5 := List.nodup_append.mp n4.2.1
    obtain ⟨As', s', kb, _⟩ := s.write (o := .lst (vs.set j yv)) (p := p) (A'' := p :: (B1 ++ ay ++ B2)) (a := ay) g2 g3 f (by simp) t.nd t.fr t.nb (fun x hx => by
        simp only [List.mem_cons, List.mem_append] at hx ⊢
        rcases hx with z | (z | z) | z
        · exact .inl (.inl z)
        · exact .inl (.inr (.inl (.inl z)))
        · exact .inr z
        · exact .inl (.inr (.inr z))) (by
        refine List.nodup_cons.mpr ⟨fun z => ?_, ?_⟩
        · simp only [List.mem_append] at z
          rcases z with (z | z) | z
          · exact np.1 (by simp [z])
          · exact nay z
          · exact np.1 (by simp [z])
        · rw [List.append_assoc]
          refine List.nodup_append.mpr ⟨n4.1, List.nodup_append.mpr ⟨(List.nodup_append.mp t.nd).1, n5.2.1, fun x hx z hz e => ?_⟩, fun x hx z hz e => ?_⟩
          · subst e; exact nyB x (by simp [hz]) hx
          · subst e
            rcases List.mem_append.mp hz with z | z
            · exact nyB x (by simp [hx]) z
            · exact n4.2.2 x hx x (List.mem_append_right _ z) rfl) (.own (show CellO (upd H p _) .lst p _ from upd_same) rr)
    exact k _ As' s' kb h
theorem setix_lift {kf : Bool} : ∀ D σ H, liftS X.K kp (sSetIx kf we wm wi) D σ H → tAsg (liftE X.K p we) (gSub (liftM X.K wm) (liftE X.K true wi) rSetL) D σ H := by
  rintro D σ H ⟨F, B, env, As, RD, s, hw, k1, k2, k3, k4⟩
  refine ⟨F, B, env, As, _, s, hw, fun yv H1 F1 As1 ay y e1 po1 t1 h1 => ?_⟩
  refine ⟨F1, Bx B ay, e1, As1, _, po1.so.push t1, h1, fun v H2 F2 i d v0 A u d' A' po2 g1 g2 g3 f h2 => ?_⟩
  refine ⟨F2, Bx B ay, e1, As1, _, po2.so, h2, fun iv H3 F3 As3 ai kd e3 po3 t3 h3 => ?_⟩
  obtain ⟨z1, z2, z3⟩ := po3.pure rfl
  subst z1 z2
  obtain ⟨kk, rfl, h3⟩ := asI_inv h3
  obtain ⟨rfl, _⟩ := t3.rep.sc_inv
  have po23 := po2.trans po3
  have t3' := t1.keep po23
  have s3 := po23.so.pop
  obtain ⟨F4, a4, po4, t4, sub4⟩ := in_ok kf s3 t3'
  have f4 := (f.frame po3.ext fun x hx => z3 x (mem_of_slot g3 hx)).frame (po4.ext) fun x hx => rfl
  split at h3
  · rename_i xs
    obtain ⟨j, hj, h3⟩ := h3
    refine set_core po4.so g1 g2 g3 f4 t4 hj h3 fun H5 As5 s5 kb h5 => ?_
    refine k1 σ H5 F4 As5 _ ⟨(po1.ext.trans po23.ext).trans po4.ext, s5, fun b hb => (kb b hb).trans ((po4.keep b hb).trans ((po23.pop.keep b hb).trans (po1.keep b hb))), fun _ _ => rfl, rfl⟩ h5
  · exact h3.elim
theorem ds_setix {kf : Bool} {o : Expr} {tp : Pos} (h : DE p X e we) (hm : DM X o wm) (hi : DE true X b wi)
    (ha : ∀ v, assign (.Subscript o b tp) X.env v = (do
      let ov ← holding [v] (eval o X.env)
      let iv ← holding [v, ov] (eval b X.env)
      standAt tp
      holding [v, ov, iv] (setItem ov iv v)
      release [v, ov, iv] []) := by intro _; rfl)
    (hs : swapsWithSole [.Subscript o b tp] e pos.line X.env = pure false := by rfl) (hw : swappedStores [.Subscript o b tp] e X.env = pure none := by rfl)
    (h1 : (assignEach [.Subscript o b tp] X.env).map (·.2) = [assign (.Subscript o b tp) X.env] := by rfl) : DS kp X (.Assign [.Subscript o b tp] e pos) (sSetIx kf we wm wi) :=
  ⟨PSimp (ps_asg h.pe (pg_sub hm.pe hi.pe set_list ha) hs hw h1) setix_lift⟩
end
end PL

/-! PLg: list methods that change, o[i] op= e. -/
namespace PL
open PySem L2
section
variable {K : PySem.W.Frag} {p : Bool} {kp : List Nat} {F F' F2 H H' H2 : Hp} {B : Addr → Prop} {env env' env2 : En} {σ σ' σ2 : St} {As As' As2 : List (List Addr)} {d d' d2 : D} {v v' v2 v0 : V} {A A' a a2 : List Addr} {ds : List D} {vs : List V} {u : D → D}
/-- an own list, changed -/
theorem list_core {i : Nat} {xs : List D} (s : SO K F H B env σ As) (g1 : env[i]? = some (some d)) (g2 : σ[i]? = some (some v0)) (g3 : As[i]? = some A) (f : Foc K F H d v0 A u (.obj true .lst xs) v A')
    (ha : (a ++ As.flatten).Nodup) (fr : ∀ x ∈ a, F x = none) (nb : ∀ x ∈ a, ¬ B x) :
    ∃ p vs A3, v = .ref p ∧ H p = some (.lst vs) ∧ RepL K F H xs vs A3 ∧ A3.Nodup ∧ (∀ x ∈ A3, x ∉ a) ∧ ∀ xs' vs' A3', RepL K F H xs' vs' A3' → A3'.Nodup → (∀ x ∈ A3', x ∈ A3 ∨ x ∈ a) →
      ∃ As', SO K F (upd H p (.lst vs')) B (env.set i (some (u (.lst true xs')))) σ As' ∧ (∀ b, B b → upd H p (.lst vs') b = H b) ∧ ∀ x ∈ As'.flatten, x ∈ As.flatten ∨ x ∈ a := by
  obtain ⟨A1, A2, eA, r, up⟩ := id f
  cases r with
  | @own _ p vs _ A3 hc r =>
    have ndA : A.Nodup := (List.nodup_append.mp ((flat_at As i _ g3).nodup_iff.mp s.nd)).1
    rw [eA] at ndA
    have np := List.nodup_cons.mp (List.nodup_append.mp (List.nodup_append.mp ndA).1).2.1
    have inA : ∀ x ∈ p :: A3, x ∈ As.flatten := fun x hx => mem_of_slot g3 (by rw [eA]; exact List.mem_append_left _ (List.mem_append_right _ hx))
    have hn := List.nodup_append.mp ha
    have ap : ∀ x ∈ As.flatten, x ∉ a := fun x hx z => hn.2.2 x z x hx rfl
    refine ⟨p, vs, A3, rfl, hc, r, np.2, fun x hx => ap x (inA x (List.mem_cons_of_mem _ hx)), fun xs' vs' A3' r' nd' sub => ?_⟩
    have pn : p ∉ A3' := fun z => (sub p z).elim np.1 (ap p (inA p (List.mem_cons_self ..)))
    refine s.write (o := .lst vs') (p := p) (A'' := p :: A3') (a := a) g2 g3 f (List.mem_cons_self ..) ha fr nb (fun x hx => ?_) (List.nodup_cons.mpr ⟨pn, nd'⟩)
      (.own (show CellO (upd H p (.lst vs')) .lst p vs' from upd_same) (r'.frame (Same.refl _) fun x hx => upd_ne fun e => pn (e ▸ hx)))
    rcases List.mem_cons.mp hx with rfl | hx
    · exact .inl (List.mem_cons_self ..)
    · exact (sub x hx).imp (List.mem_cons_of_mem _) id
theorem RepL.erase {ds : List D} : ∀ {vs A} {i : Nat} {d}, RepL K F H ds vs A → ds[i]? = some d → ∃ v A1 A0 A2, vs[i]? = some v ∧ A = A1 ++ A0 ++ A2 ∧ Rep K F H d v A0 ∧ RepL K F H (ds.eraseIdx i) (vs.eraseIdx i) (A1 ++ A2) := by
  induction ds with
  | nil => intro vs A i d r e; simp at e
  | cons x xs ih =>
    intro vs A i d r e
    obtain ⟨v, us, A1, A2, rfl, rfl, r1, r2⟩ := r.cons_inv
    cases i with
    | zero =>
      simp only [List.getElem?_cons_zero, Option.some.injEq] at e; subst e
      exact ⟨v, [], A1, A2, rfl, by simp, r1, by simpa using r2⟩
    | succ i =>
      simp only [List.getElem?_cons_succ] at e
      obtain ⟨v', B1, B0, B2, h1, h2, h3, h4⟩ := ih r2 e
      refine ⟨v', A1 ++ B1, B0, B2, by simpa using h1, by rw [h2]; simp, h3, ?_⟩
      simpa only [List.eraseIdx_cons_succ, List.append_assoc] using RepL.cons r1 h4
theorem PostE.weak (s : PostE K p F H B env σ As F' H' env' As') : PostE K false F H B env σ As F' H' env' As' := ⟨s.ext, s.so, s.keep, fun z => Bool.noConfusion z⟩
theorem nodup3 {A1 A0 A2 : List Addr} (h : (A1 ++ A0 ++ A2).Nodup) : (A1 ++ A2).Nodup := by
  have : (A1 ++ A2).Sublist (A1 ++ A0 ++ A2) := by
    rw [List.append_assoc]
    exact List.Sublist.append_left (List.sublist_append_right _ _) _
  exact this.nodup h
end
def ownL : Option (Option D) → (List D → Prop) → Prop
  | some (some (.obj true .lst xs)), k => k xs
  | _, _ => False
def ownD : D → (List D → Prop) → Prop
  | .obj true .lst xs, k => k xs
  | _, _ => False
theorem ownL_inv {o : Option (Option D)} {k : List D → Prop} (h : ownL o k) : ∃ xs, o = some (some (.obj true .lst xs)) ∧ k xs := by
  unfold ownL at h
  split at h
  · exact ⟨_, rfl, h⟩
  · exact h.elim
theorem ownD_inv {o : D} {k : List D → Prop} (h : ownD o k) : ∃ xs, o = .obj true .lst xs ∧ k xs := by
  unfold ownD at h
  split at h
  · exact ⟨_, rfl, h⟩
  · exact h.elim
section
variable {X : Cx} {p : Bool} {kp : List Nat} {e o b : Expr} {es : List Expr} {wm : WM} {we wi : WE} {pos apos cpos : Pos}
theorem Foc.tyL {K : PySem.W.Frag} {F H : Hp} {d : D} {v0 : V} {A : List Addr} {u : D → D} {xs : List D} {v : V} {A' : List Addr} (f : Foc K F H d v0 A u (.obj true .lst xs) v A') : ∃ p vs, v = .ref p ∧ H p = some (.lst vs) := by
  obtain ⟨A1, A2, _, r, _⟩ := f
  cases r with
  | own hc _ => exact ⟨_, _, rfl, hc⟩
/-- append, by states -/
theorem append_core {K : PySem.W.Frag} {F H : Hp} {B : Addr → Prop} {env : En} {σ : St} {As : List (List Addr)} {i : Nat} {d : D} {v0 v yv : V} {A A' ay : List Addr} {u : D → D} {xs : List D} {y : D} {kf : Bool} {R : D → En → Prop} {Q : VK}
    (s : SO K F H B env σ As) (g1 : env[i]? = some (some d)) (g2 : σ[i]? = some (some v0)) (g3 : As[i]? = some A) (f : Foc K F H d v0 A u (.obj true .lst xs) v A') (t : TO K F H B As y yv ay) (hl : xs.length < sizeLine)
    (h : R .non (env.set i (some (u (.lst true (xs ++ [inK kf y])))))) (k : ∀ H' F' As', PostE K false F H B env σ As F' H' (env.set i (some (u (.lst true (xs ++ [inK kf y]))))) As' → Q .non H') : rAppend v [yv] H Q := by
  obtain ⟨F4, a4, po4, t4, sub4⟩ := in_ok kf s t
  have f4 := f.frame po4.ext fun x hx => rfl
  obtain ⟨q, vs, A3, rfl, hq, r, nd3, ap, go⟩ := list_core po4.so g1 g2 g3 f4 t4.nd t4.fr t4.nb
  obtain ⟨As', s', kb, _⟩ := go _ _ _ (r.app (.one t4.rep)) (List.nodup_append.mpr ⟨nd3, (List.nodup_append.mp t4.nd).1, fun x hx y hy e => ap x hx (e ▸ hy)⟩) fun x hx => List.mem_append.mp hx
  refine ⟨q, vs, yv, rfl, rfl, hq, by rw [← r.length]; exact hl, ?_⟩
  exact k _ F4 As' ⟨po4.ext, s', fun b hb => (kb b hb).trans (po4.keep b hb), fun z => nomatch z⟩
/-- name.append(e) -/
def wAppN (kf : Bool) (i : Nat) (we : WE) : WE := fun env R => ownL (env[i]?) fun _ => we env fun y e1 => ownL (e1[i]?) fun xs => xs.length < sizeLine ∧ R .non (e1.set i (some (.lst true (xs ++ [inK kf y]))))
theorem de_appN {kf : Bool} {i : Nat} (ho : PE X o (tVar i)) (he : DE p X e we)
    (hbase : attributeBase o "append" X.env (eval o X.env) = eval o X.env := by rfl)
    (hfew : ((backTo cpos (starEach (e :: []) X.env)).all (fun x => !x.1) && (backToKw cpos (keywordEach [] X.env)).all (fun x => x.1.isSome)
      && decide ((e :: []).length + ([] : List Keyword).length + (if ([] : List Keyword).isEmpty then 0 else 1) < 30)) = true := by rfl)
    (hline : (apos.endLine == cpos.line) = true := by rfl) (hs : starEach (e :: []) X.env = (false, eval e X.env) :: starEach [] X.env := by rfl) (hplain : (backTo cpos (starEach [] X.env)).any (·.1) = false := by rfl) :
    DE false X (.Call (.Attribute o "append" apos) [e] [] cpos) (wAppN kf i we) := by
  refine ⟨PEimp (pe_bm PySem.F.plainAttrs_list PySem.F.slot_list_append PySem.F.type_list_append mt_append ho (pa_cons he.pe pa_nil hs) hbase hfew hline hs hplain) ?_⟩
  rintro σ H Q ⟨F, B, env, As, R, s, hw, k⟩
  obtain ⟨xs0, e0, hw⟩ := ownL_inv hw
  obtain ⟨v, A0, h1, h2, h3⟩ := s.env.get e0
  obtain ⟨q, vs, e1, e2⟩ := (Foc.root h3).tyL
  subst e1
  refine ⟨_, h1, .inl ⟨rfl, vs, .of e2⟩, F, B, env, As, _, s, hw, fun yv H1 F1 As1 ay y env1 po1 t1 g => ?_⟩
  obtain ⟨xs, g1, hl, g⟩ := ownL_inv g
  obtain ⟨v', A, g2, g3, g4⟩ := po1.so.env.get g1
  rw [h1] at g2; cases g2
  exact append_core (kf := kf) po1.so g1 h1 g3 (.root g4) t1 hl g fun H' F' As' po => k _ H' F' As' [] _ _ (po1.weak.trans po) (.sc po.so _) g
/-- place.append(e), e pure -/
def wAppP (kf : Bool) (wm : WM) (we : WE) : WE := fun env R => wm env fun i d u => ownD d fun xs => we env fun y e1 => xs.length < sizeLine ∧ R .non (e1.set i (some (u (.lst true (xs ++ [inK kf y])))))
theorem de_appP {kf : Bool} (ho : DM X o wm) (he : DE true X e we)
    (hbase : attributeBase o "append" X.env (eval o X.env) = eval o X.env := by rfl)
    (hfew : ((backTo cpos (starEach (e :: []) X.env)).all (fun x => !x.1) && (backToKw cpos (keywordEach [] X.env)).all (fun x => x.1.isSome)
      && decide ((e :: []).length + ([] : List Keyword).length + (if ([] : List Keyword).isEmpty then 0 else 1) < 30)) = true := by rfl)
    (hline : (apos.endLine == cpos.line) = true := by rfl) (hs : starEach (e :: []) X.env = (false, eval e X.env) :: starEach [] X.env := by rfl) (hplain : (backTo cpos (starEach [] X.env)).any (·.1) = false := by rfl) :
    DE false X (.Call (.Attribute o "append" apos) [e] [] cpos) (wAppP kf wm we) := by
  refine ⟨PEimp (pe_bm PySem.F.plainAttrs_list PySem.F.slot_list_append PySem.F.type_list_append mt_append ho.pe (pa_cons he.pe pa_nil hs) hbase hfew hline hs hplain) ?_⟩
  rintro σ H Q ⟨F, B, env, As, R, s, hw, k⟩
  refine ⟨F, B, env, As, _, s, hw, fun v H1 F1 i d v0 A u d' A' po1 g1 g2 g3 f h1 => ?_⟩
  obtain ⟨xs, rfl, h1⟩ := ownD_inv h1
  obtain ⟨q, vs, rfl, e2⟩ := f.tyL
  refine ⟨.inl ⟨rfl, vs, .of e2⟩, F1, B, env, As, _, po1.so, h1, fun yv H2 F2 As2 ay y env2 po2 t2 g => ?_⟩
  obtain ⟨z1, z2, z3⟩ := po2.pure rfl
  subst z1 z2
  have f2 := f.frame po2.ext fun x hx => z3 x (mem_of_slot g3 hx)
  exact append_core (kf := kf) po2.so g1 g2 g3 f2 t2 g.1 g.2 fun H' F' As' po => k _ H' F' As' [] _ _ ((po1.trans po2).weak.trans po) (.sc po.so _) g.2
/-- extend, by states -/
theorem extend_core {K : PySem.W.Frag} {F H : Hp} {B : Addr → Prop} {env : En} {σ : St} {As : List (List Addr)} {i : Nat} {d : D} {v0 v yv : V} {A A' ay : List Addr} {u : D → D} {xs ys : List D} {o : Bool} {R : D → En → Prop} {Q : VK}
    (s : SO K F H B env σ As) (g1 : env[i]? = some (some d)) (g2 : σ[i]? = some (some v0)) (g3 : As[i]? = some A) (f : Foc K F H d v0 A u (.obj true .lst xs) v A') (t : TO K F H B As (.obj o .lst ys) yv ay) (hz : D.fzL ys = true) (hl : xs.length + ys.length ≤ sizeLine)
    (k : ∀ H' F' As', PostE K false F H B env σ As F' H' (env.set i (some (u (.lst true (xs ++ ys))))) As' → Q .non H') : rExtend v [yv] H Q := by
  obtain ⟨q, vs, A3, rfl, hq, r, nd3, ap, go⟩ := list_core s g1 g2 g3 f t.nd t.fr t.nb
  obtain ⟨q2, us, a', rfl, e2, r2⟩ := t.rep.lst_inv s.same
  obtain ⟨As', s', kb, _⟩ := go _ _ _ (r.app (r2.fz_mem hz)) (by simpa using nd3) fun x hx => .inl (by simpa using hx)
  refine ⟨q, q2, vs, us, rfl, rfl, hq, e2, by rw [← r.length, ← r2.length]; exact hl, ?_⟩
  exact k _ F As' ⟨Same.refl _, s', kb, fun z => nomatch z⟩
def wExtN (i : Nat) (we : WE) : WE := fun env R => ownL (env[i]?) fun _ => we env fun y e1 => ownL (e1[i]?) fun xs => match y with
  | .obj _ .lst ys => D.fzL ys = true ∧ xs.length + ys.length ≤ sizeLine ∧ R .non (e1.set i (some (.lst true (xs ++ ys))))
  | _ => False
theorem de_extN {i : Nat} (ho : PE X o (tVar i)) (he : DE p X e we)
    (hbase : attributeBase o "extend" X.env (eval o X.env) = eval o X.env := by rfl)
    (hfew : ((backTo cpos (starEach (e :: []) X.env)).all (fun x => !x.1) && (backToKw cpos (keywordEach [] X.env)).all (fun x => x.1.isSome)
      && decide ((e :: []).length + ([] : List Keyword).length + (if ([] : List Keyword).isEmpty then 0 else 1) < 30)) = true := by rfl)
    (hline : (apos.endLine == cpos.line) = true := by rfl) (hs : starEach (e :: []) X.env = (false, eval e X.env) :: starEach [] X.env := by rfl) (hplain : (backTo cpos (starEach [] X.env)).any (·.1) = false := by rfl) :
    DE false X (.Call (.Attribute o "extend" apos) [e] [] cpos) (wExtN i we) := by
  refine ⟨PEimp (pe_bm PySem.F.plainAttrs_list PySem.F.slot_list_extend PySem.F.type_list_extend mt_extend ho (pa_cons he.pe pa_nil hs) hbase hfew hline hs hplain) ?_⟩
  rintro σ H Q ⟨F, B, env, As, R, s, hw, k⟩
  obtain ⟨xs0, e0, hw⟩ := ownL_inv hw
  obtain ⟨v, A0, h1, h2, h3⟩ := s.env.get e0
  obtain ⟨q, vs, e1, e2⟩ := (Foc.root h3).tyL
  subst e1
  refine ⟨_, h1, .inl ⟨rfl, vs, .of e2⟩, F, B, env, As, _, s, hw, fun yv H1 F1 As1 ay y env1 po1 t1 g => ?_⟩
  obtain ⟨xs, g1, g⟩ := ownL_inv g
  obtain ⟨v', A, g2, g3, g4⟩ := po1.so.env.get g1
  rw [h1] at g2; cases g2
  split at g
  · exact extend_core (R := R) po1.so g1 h1 g3 (.root g4) t1 g.1 g.2.1 fun H' F' As' po => k _ H' F' As' [] _ _ (po1.weak.trans po) (.sc po.so _) g.2.2
  · exact g.elim
def wExtP (wm : WM) (we : WE) : WE := fun env R => wm env fun i d u => ownD d fun xs => we env fun y e1 => match y with
  | .obj _ .lst ys => D.fzL ys = true ∧ xs.length + ys.length ≤ sizeLine ∧ R .non (e1.set i (some (u (.lst true (xs ++ ys)))))
  | _ => False
theorem de_extP (ho : DM X o wm) (he : DE true X e we)
    (hbase : attributeBase o "extend" X.env (eval o X.env) = eval o X.env := by rfl)
    (hfew : ((backTo cpos (starEach (e :: []) X.env)).all (fun x => !x.1) && (backToKw cpos (keywordEach [] X.env)).all (fun x => x.1.isSome)
      && decide ((e :: []).length + ([] : List Keyword).length + (if ([] : List Keyword).isEmpty then 0 else 1) < 30)) = true := by rfl)
    (hline : (apos.endLine == cpos.line) = true := by rfl) (hs : starEach (e :: []) X.env = (false, eval e X.env) :: starEach [] X.env := by rfl) (hplain : (backTo cpos (starEach [] X.env)).any (·.1) = false := by rfl) :
    DE false X (.Call (.Attribute o "extend" apos) [e] [] cpos) (wExtP wm we) := by
  refine ⟨PEimp (pe_bm PySem.F.plainAttrs_list PySem.F.slot_list_extend PySem.F.type_list_extend mt_extend ho.pe (pa_cons he.pe pa_nil hs) hbase hfew hline hs hplain) ?_⟩
  rintro σ H Q ⟨F, B, env, As, R, s, hw, k⟩
  refine ⟨F, B, env, As, _, s, hw, fun v H1 F1 i d v0 A u d' A' po1 g1 g2 g3 f h1 => ?_⟩
  obtain ⟨xs, rfl, h1⟩ := ownD_inv h1
  obtain ⟨q, vs, rfl, e2⟩ := f.tyL
  refine ⟨.inl ⟨rfl, vs, .of e2⟩, F1, B, env, As, _, po1.so, h1, fun yv H2 F2 As2 ay y env2 po2 t2 g => ?_⟩
  obtain ⟨z1, z2, z3⟩ := po2.pure rfl
  subst z1 z2
  have f2 := f.frame po2.ext fun x hx => z3 x (mem_of_slot g3 hx)
  split at g
  · exact extend_core (R := R) po2.so g1 g2 g3 f2 t2 g.1 g.2.1 fun H' F' As' po => k _ H' F' As' [] _ _ ((po1.trans po2).weak.trans po) (.sc po.so _) g.2.2
  · exact g.elim
/-- place.pop() -/
def wPop (wm : WM) : WE := fun env R => wm env fun i d u => ownD d fun xs => ∃ x, xs[xs.length - 1]? = some x ∧ x.fz = true ∧ R x (env.set i (some (u (.lst true xs.dropLast))))
theorem de_pop (ho : DM X o wm) (hbase : attributeBase o "pop" X.env (eval o X.env) = eval o X.env := by rfl) (hline : (apos.endLine == cpos.line) = true := by rfl) :
    DE false X (.Call (.Attribute o "pop" apos) [] [] cpos) (wPop wm) := by
  refine ⟨PEimp (pe_bm0 PySem.F.plainAttrs_list PySem.F.slot_list_pop PySem.F.type_list_pop mt_pop ho.pe hbase hline) ?_⟩
  rintro σ H Q ⟨F, B, env, As, R, s, hw, k⟩
  refine ⟨F, B, env, As, _, s, hw, fun v H1 F1 i d v0 A u d' A' po1 g1 g2 g3 f h1 => ?_⟩
  obtain ⟨xs, rfl, x, hx, z, h1⟩ := ownD_inv h1
  obtain ⟨q, vs, A3, rfl, hq, r, nd3, ap, go⟩ := list_core (a := []) po1.so g1 g2 g3 f (by simpa using po1.so.nd) (fun _ z => nomatch z) (fun _ z => nomatch z)
  obtain ⟨w, A4, A5, A6, h3, h4, h5, h6⟩ := r.erase hx
  have := h5.fzNil z; subst this
  have e5 : ∀ {α : Type} (l : List α), l.eraseIdx (l.length - 1) = l.dropLast := fun l => by
    rw [List.dropLast_eq_take, List.eraseIdx_eq_take_drop_succ, List.drop_eq_nil_of_le (by omega), List.append_nil]
  obtain ⟨As', s', kb, _⟩ := go xs.dropLast vs.dropLast (A4 ++ A6) (by
      rw [← e5 xs, ← e5 vs, ← r.length]
      exact h6) (by rw [h4] at nd3; exact nodup3 nd3) fun x hx => .inl (by rw [h4]; simpa using hx)
  refine ⟨.inl ⟨rfl, vs, .of hq⟩, q, vs, w, rfl, rfl, hq, by rw [← r.length]; exact h3, ?_⟩
  exact k _ _ F1 As' [] x _ ⟨po1.ext, s', fun b hb => (kb b hb).trans (po1.keep b hb), fun z => nomatch z⟩ (.fz (h5.frame (Same.refl _) fun _ z => nomatch z) s') h1
/-- place.pop(i) -/
def wPopAt (wm : WM) (wi : WE) : WE := fun env R => wm env fun i d u => ownD d fun xs => wi env fun k e1 => asI k fun kk => -(2 ^ 63) ≤ kk ∧ kk < 2 ^ 63 ∧ ∃ j x, L2.ixN xs.length kk = some j ∧ xs[j]? = some x ∧ x.fz = true ∧ R x (e1.set i (some (u (.lst true (xs.eraseIdx j)))))
theorem de_popAt (ho : DM X o wm) (hi : DE true X e wi) (hbase : attributeBase o "pop" X.env (eval o X.env) = eval o X.env := by rfl)
    (hfew : ((backTo cpos (starEach (e :: []) X.env)).all (fun x => !x.1) && (backToKw cpos (keywordEach [] X.env)).all (fun x => x.1.isSome)
      && decide ((e :: []).length + ([] : List Keyword).length + (if ([] : List Keyword).isEmpty then 0 else 1) < 30)) = true := by rfl)
    (hline : (apos.endLine == cpos.line) = true := by rfl) (hs : starEach (e :: []) X.env = (false, eval e X.env) :: starEach [] X.env := by rfl) (hplain : (backTo cpos (starEach [] X.env)).any (·.1) = false := by rfl) :
    DE false X (.Call (.Attribute o "pop" apos) [e] [] cpos) (wPopAt wm wi) := by
  refine ⟨PEimp (pe_bm PySem.F.plainAttrs_list PySem.F.slot_list_pop PySem.F.type_list_pop mt_popAt ho.pe (pa_cons hi.pe pa_nil hs) hbase hfew hline hs hplain) ?_⟩
  rintro σ H Q ⟨F, B, env, As, R, s, hw, k⟩
  refine ⟨F, B, env, As, _, s, hw, fun v H1 F1 i d v0 A u d' A' po1 g1 g2 g3 f h1 => ?_⟩
  obtain ⟨xs, rfl, h1⟩ := ownD_inv h1
  obtain ⟨q0, vs0, e0, e2⟩ := f.tyL
  subst e0
  refine ⟨.inl ⟨rfl, vs0, .of e2⟩, F1, B, env, As, _, po1.so, h1, fun yv H2 F2 As2 ay y env2 po2 t2 g => ?_⟩
  obtain ⟨z1, z2, z3⟩ := po2.pure rfl
  subst z1 z2
  obtain ⟨kk, rfl, hk1, hk2, j, x, hj, hx, z, g⟩ := asI_inv g
  obtain ⟨rfl, _⟩ := t2.rep.sc_inv
  have f2 := f.frame po2.ext fun x hx => z3 x (mem_of_slot g3 hx)
  obtain ⟨q, vs, A3, e1, hq, r, nd3, ap, go⟩ := list_core (a := []) po2.so g1 g2 g3 f2 (by simpa using po2.so.nd) (fun _ z => nomatch z) (fun _ z => nomatch z)
  cases e1
  obtain ⟨w, A4, A5, A6, h3, h4, h5, h6⟩ := r.erase hx
  have := h5.fzNil z; subst this
  obtain ⟨As', s', kb, _⟩ := go _ _ (A4 ++ A6) h6 (by rw [h4] at nd3; exact nodup3 nd3) fun x hx => .inl (by rw [h4]; simpa using hx)
  have hj2 := ixN_seq hj
  refine ⟨q0, vs, kk, j, w, rfl, rfl, hq, hk1, hk2, by rw [← r.length]; exact hj2.1, h3, ?_⟩
  exact k _ _ F2 As' [] x _ ⟨po1.ext.trans po2.ext, s', fun b hb => (kb b hb).trans ((po2.keep b hb).trans (po1.keep b hb)), fun z => nomatch z⟩ (.fz (h5.frame (Same.refl _) fun _ z => nomatch z) s') g
end
end PL

/-! PLh: o[i] op= e, while, for, comprehensions. -/
namespace PL
open PySem L2
open PySem.Spec PyProof.Rows in
theorem get_list {X : Cx} : PGet X (rIxL X.K) := by
  intro pins s σ H x y v u Q I rx ry h
  obtain ⟨p, xs, i, z, rfl, rfl, hq, he, q⟩ := h
  cases rx
  obtain ⟨t, rfl⟩ := ry
  obtain ⟨its, r, pl, hz⟩ := I.list hq
  obtain ⟨j, h1, h2, h3, h4, h5⟩ := atI_get he
  obtain ⟨w, ew, rw'⟩ := r.get h2
  have hl := r.length
  have hn := line63
  have fin : EP X pins σ Q w s := ⟨z, H, I, rw', q⟩
  by_cases h0 : 0 ≤ i
  · have hj : i.toNat = j := by
      rw [seqIndex_of h0 h5] at h1
      exact Option.some.inj h1
    exact wpAny_getItem_list pl.isList h0 (by omega) (by rw [hj]; simpa using ew) fin
  · have hj : (i + (its.toArray.size : Int)).toNat = j := by
      rw [seqIndex_neg (by omega) h4] at h1
      rw [List.size_toArray, ← hl]
      exact Option.some.inj h1
    exact wpAny_getItem_list_neg pl.isList (by omega) (by rw [List.size_toArray] <;> omega) (by omega) (by rw [hj]; simpa using ew) fin
section
variable {X : Cx} {p : Bool} {kp : List Nat} {e o b : Expr} {wm : WM} {we wi : WE} {pos : Pos}
/-- place[i] op= e, e pure -/
def sAugIx (rd : RD2) (wm : WM) (wi we : WE) : WS := fun env RD => wm env fun i d u => ownD d fun xs => wi env fun k _ => asI k fun kk => ∃ j x, L2.ixN xs.length kk = some j ∧ xs[j]? = some x ∧ x.fz = true ∧
  we env fun y e1 => rd x y fun z => RD.nx (e1.set i (some (u (.lst true (xs.set j z)))))
theorem ds_augix {op : Operator} {r : R2} {rd : RD2} {tpos : Pos} (ho : DM X o wm) (hi : DE true X b wi) (he : DE true X e we) (hop : OpR X (inplaceOp op) r) (hr : Snd2 X.K r rd)
    (ha : ∀ ov iv new, augStore b ov iv new = (do holding [new, ov, iv] (setItem ov iv new); release [new, ov, iv] []; pure .next) := by intros; rfl) : DS kp X (.AugAssign (.Subscript o b tpos) op e pos) (sAugIx rd wm wi we) := by
  refine ⟨PSimp (ps_augS ho.pe hi.pe get_list he.pe (show PIp X op r from hop) set_list ha) ?_⟩
  rintro D σ H ⟨F, B, env, As, RD, s, hw, k1, k2, k3, k4⟩
  refine ⟨F, B, env, As, _, s, hw, fun v H1 F1 i d v0 A u d' A' po1 g1 g2 g3 f h1 => ?_⟩
  obtain ⟨xs, rfl, h1⟩ := ownD_inv h1
  refine ⟨F1, B, env, As, _, po1.so, h1, fun iv H2 F2 As2 ai kd env2 po2 t2 h2 => ?_⟩
  obtain ⟨z1, z2, z3⟩ := po2.pure rfl
  subst z1 z2
  obtain ⟨kk, rfl, j, x, hj, hx, z, h2⟩ := asI_inv h2
  obtain ⟨rfl, _⟩ := t2.rep.sc_inv
  have f2 := f.frame po2.ext fun x hx => z3 x (mem_of_slot g3 hx)
  obtain ⟨q, vs, w, A0, rfl, hq, hw2, hl, f3⟩ := f2.item hx
  obtain ⟨B1, B2, eB, r3, _⟩ := id f3
  have := r3.fzNil z; subst this
  refine ⟨q, vs, kk, w, rfl, rfl, .of hq, by unfold L2.atI; rw [← hl, hj]; exact hw2, ?_⟩
  refine ⟨F2, B, env2, As2, _, po2.so, h2, fun yv H3 F3 As3 ay y env3 po3 t3 h3 => ?_⟩
  obtain ⟨z1, z2, z3⟩ := po3.pure rfl
  subst z1 z2
  refine hr po3.so (r3.frame po3.ext fun _ z => nomatch z) t3.rep h3 fun zv H4 F4 az zd po4 t4 h4 => ?_
  have po34 := po3.trans po4
  have f4 := f2.frame po34.ext fun x hx => (po34.pure rfl).2.2 x (mem_of_slot g3 hx)
  refine set_core po4.so g1 g2 g3 f4 t4 hj h4 fun H5 As5 s5 kb h5 => ?_
  exact k1 σ H5 F4 As5 _ ⟨(po1.trans po2).ext.trans po34.ext, s5, fun b hb => (kb b hb).trans ((po34.keep b hb).trans ((po1.trans po2).keep b hb)), fun _ _ => rfl, rfl⟩ h5

/-! ### while -/
def sWhile (wt : WT) (wb : WS) : WS := fun env RD => ∃ I : Nat → En → Prop, (∃ m, I m env) ∧ ∀ m env, I m env → wt env fun c e1 => if c = true then wb e1 { RD with nx := fun e2 => ∃ m', m' < m ∧ I m' e2, ct := fun e2 => ∃ m', m' < m ∧ I m' e2, bk := RD.nx } else RD.nx e1
theorem ds_while {c : Expr} {body : List Stmt} {wt : WT} {wb : WS} (hp : PassesOwn (model X.prog X.w) X.A X.env X.xe) (hc : DT p X c wt) (hb : DSs kp X body wb) : DS kp X (.While c body [] pos) (sWhile wt wb) := by
  refine ⟨PSimp (ps_while hp hc.pt hb.ps) ?_⟩
  rintro D σ H ⟨F, B, env, As, RD, s, ⟨I, ⟨m0, h0⟩, turn⟩, k1, k2, k3, k4⟩
  refine ⟨fun m σ' H' => ∃ F' As' env', PostS X.K kp F H B σ F' H' env' σ' As' ∧ I m env', ⟨m0, F, As, env, .refl s, h0⟩, ?_⟩
  rintro m σ1 H1 ⟨F1, As1, env1, po1, h1⟩
  refine ⟨F1, B, env1, As1, _, po1.so, turn m env1 h1, fun b H2 F2 As2 e2 po2 h2 => ?_⟩
  have po12 := po1.trans (po2.ps (kp := kp))
  cases b with
  | false => exact k1 σ1 H2 F2 As2 e2 po12 h2
  | true =>
    refine ⟨fun σ' H' => ∃ F' As' env', PostS X.K kp F H B σ F' H' env' σ' As' ∧ ∃ m', m' < m ∧ I m' env', fun σ' H' ⟨F', As', env', po, m', lt, h⟩ => ⟨m', lt, F', As', env', po, h⟩, ?_⟩
    refine ⟨F2, B, e2, As2, _, po12.so, h2, fun σ3 H3 F3 As3 e3 po3 h3 => ⟨F3, As3, e3, po12.trans po3, h3⟩, fun σ3 H3 F3 As3 e3 po3 h3 => k1 σ3 H3 F3 As3 e3 (po12.trans po3) h3,
      fun σ3 H3 F3 As3 e3 po3 h3 => ⟨F3, As3, e3, po12.trans po3, h3⟩, fun v σ3 H3 F3 As3 a d e3 po3 t3 h3 => k4 v σ3 H3 F3 As3 a d e3 (po12.trans po3) t3 h3⟩

/-! ### what is walked -/
structure ItOk (K : PySem.W.Frag) (F : Hp) (J : It) (items : List D) : Prop where
  go : ∀ (i : Nat) (H : Hp), Same F H → i < items.length → J.go i H
  stop : ∀ (i : Nat) (H : Hp), Same F H → items.length ≤ i → J.stop i H
  yld : ∀ (i : Nat) (x : V) (H H' : Hp), J.yld i H x H' → Same F H → ∀ d, items[i]? = some d → (H' = H ∧ Rep K F H d x []) ∨ ∃ T vs ds, H T = none ∧ H' = upd H T (.tup vs) ∧ x = .ref T ∧ d = .tup ds ∧ RepL K F H ds vs []
abbrev WI := En → (List D → En → Prop) → Prop
def liftI (K : PySem.W.Frag) (p : Bool) (w : WI) : TI := fun σ H Rr => ∃ F B env As R, SO K F H B env σ As ∧ w env R ∧
  ∀ J H' F' As' env' items, PostE K p F H B env σ As F' H' env' As' → ItOk K F' J items → R items env' → Rr J H'
structure DI (p : Bool) (X : Cx) (tg iter : Expr) (w : WI) : Prop where
  pi : PI X tg iter (liftI X.K p w)
theorem PIimp {X : Cx} {tg e : Expr} {t t' : TI} (h : PI X tg e t) (i : ∀ σ H Q, t' σ H Q → t σ H Q) : PI X tg e t' := ⟨fun pins s σ H Q I q => h.run pins s σ H Q I (i σ H Q q)⟩
/-- an item, as a value at hand -/
theorem ItOk.item {K : PySem.W.Frag} {F F' H H' : Hp} {B : Addr → Prop} {env : En} {σ : St} {As : List (List Addr)} {J : It} {items : List D} {i : Nat} {x : V} {d : D} (it : ItOk K F J items) (s : SO K F' H B env σ As) (e : Same F F') (y : J.yld i H x H') (hd : items[i]? = some d) :
    ∃ F2, PostE K true F' H B env σ As F2 H' env As ∧ TO K F2 H' B As d x [] := by
  rcases it.yld i x H H' y (e.trans s.same) d hd with ⟨rfl, r⟩ | ⟨T, vs, ds, hT, rfl, rfl, rfl, r⟩
  · exact ⟨F', .refl s, .fz (r.frame e fun _ z => nomatch z) s⟩
  · have po := s.newF (o := .tup vs) hT
    exact ⟨_, po, .fz (.tup (SqT.of upd_same) (r.frame (e.trans po.ext) fun _ z => nomatch z)) po.so⟩
/-- the items of a list or a tuple -/
def seqOf : D → (List D → Prop) → Prop
  | .obj _ sh xs, k => isSeq sh = true ∧ k (D.frzL xs)
  | .tup xs, k => k (D.frzL xs)
  | _, _ => False
def iSeq (we : WE) : WI := fun env R => we env fun d e1 => seqOf d fun xs => R xs e1
theorem itl_ok {K : PySem.W.Frag} {F H0 : Hp} {a : Addr} {xs : List D} {vs : List V} (h : SqL K F a vs) (r : RepL K F H0 xs vs []) : ItOk K F (Itl K a) xs where
  go := fun i H s hi => ⟨vs, vs[i]'(by rw [← r.length]; exact hi), s.seq h, by simp [← r.length, hi]⟩
  stop := fun i H s hi => ⟨vs, s.seq h, by rw [← r.length]; exact hi⟩
  yld := fun i x H H' ⟨e, y⟩ s d hd => by
    obtain ⟨w, hw, rw'⟩ := r.fz_get hd
    have := y vs (s.seq h)
    rw [hw] at this; cases this
    exact .inl ⟨e, rw'.frame (Same.refl _) fun _ z => nomatch z⟩
theorem itt_ok {K : PySem.W.Frag} {F H0 : Hp} {a : Addr} {xs : List D} {vs : List V} (h : SqT K F a vs) (r : RepL K F H0 xs vs []) : ItOk K F (Itt K a) xs where
  go := fun i H s hi => ⟨vs, vs[i]'(by rw [← r.length]; exact hi), Same.sqT s h, by simp [← r.length, hi]⟩
  stop := fun i H s hi => ⟨vs, Same.sqT s h, by rw [← r.length]; exact hi⟩
  yld := fun i x H H' ⟨e, y⟩ s d hd => by
    obtain ⟨w, hw, rw'⟩ := r.fz_get hd
    have := y vs (Same.sqT s h)
    rw [hw] at this; cases this
    exact .inl ⟨e, rw'.frame (Same.refl _) fun _ z => nomatch z⟩
theorem Rep.frz_seq {K : PySem.W.Frag} {F H : Hp} {o : Bool} {sh : Sh} {xs : List D} {v : V} {a : List Addr} (hs : isSeq sh = true) (r : Rep K F H (.obj false sh xs) v a) : ∃ p vs, v = .ref p ∧ SqL K F p vs ∧ RepL K F H xs vs [] := by
  cases r with
  | frz h r =>
    cases sh with
    | lst => exact ⟨_, _, rfl, .of h, r⟩
    | sq => exact ⟨_, _, rfl, h, r⟩
    | _ => cases hs
def iSeqT (K : PySem.W.Frag) (tl : TE) : TI := fun σ H R => tl σ H fun x H1 => ∃ a, x = .ref a ∧ (((∃ xs, SqL K H1 a xs) ∧ R (Itl K a) H1) ∨ ((∃ xs, SqT K H1 a xs) ∧ R (Itt K a) H1))
open PySem.Spec PyProof.Rows in
theorem pi_seq {X : Cx} {tg l : Expr} {tl : TE} (hl : PE X l tl) : PI X tg l (iSeqT X.K tl) := by
  refine ⟨fun pins s σ H R I h => ?_⟩
  refine thn (hl.run pins s σ H _ I h) fun v s1 ⟨x, H1, I1, r1, q1⟩ => ?_
  obtain ⟨a, e, q⟩ := q1
  subst e
  cases r1
  have fp : ∀ b ∈ [s1.heap.objs.size], FpOk X pins H1 b := fun b hb => by
    have e : b = s1.heap.objs.size := by simpa using hb
    subst e
    exact I1.fpOk (Nat.le_refl _) (I1.hok.fresh (Nat.le_refl _))
  rcases q with ⟨⟨xs, hq⟩, q⟩ | ⟨⟨xs, hq⟩, q⟩
  · obtain ⟨its, rv, p, hz⟩ := I1.list hq
    refine wpAny_pyIter_list p.isList ?_
    exact ⟨s1.heap.objs.size, [s1.heap.objs.size], _, _, H1, rfl, I1.kept (t' := s1.toks) fun b o e => Heap.get?_push_of_some _ e, turn_list a _, ⟨_, Heap.get?_push_size _ rfl, rfl, rfl⟩, fp, q⟩
  · obtain ⟨its, rv, p, hz⟩ := I1.tuple hq
    refine wpAny_pyIter_tuple (show s1.heap.IsTuple a its.toArray from p) ?_
    exact ⟨s1.heap.objs.size, [s1.heap.objs.size], _, _, H1, rfl, I1.kept (t' := s1.toks) fun b o e => Heap.get?_push_of_some _ e, turn_tuple a _, ⟨_, Heap.get?_push_size _ rfl, rfl, rfl⟩, fp, q⟩
theorem di_seq {tg : Expr} (h : DE p X e we) : DI p X tg e (iSeq we) := by
  refine ⟨PIimp (pi_seq h.pe) ?_⟩
  rintro σ H Q ⟨F, B, env, As, R, s, hw, k⟩
  refine ⟨F, B, env, As, _, s, hw, fun v H1 F1 As1 a d e1 po1 t1 h1 => ?_⟩
  unfold seqOf at h1
  obtain ⟨po2, r2⟩ := po1.so.freeze t1
  have po12 := po1.trans (po2.imp fun _ => rfl)
  split at h1
  · obtain ⟨hs, h1⟩ := h1
    obtain ⟨q, vs, rfl, hq, rr⟩ := Rep.frz_seq (o := false) hs r2
    exact ⟨q, rfl, .inl ⟨⟨vs, po2.so.same.seq hq⟩, k _ H1 _ As1 e1 _ po12 (itl_ok hq rr) h1⟩⟩
  · cases r2 with
    | @tup q vs _ _ hq rr =>
      exact ⟨q, rfl, .inr ⟨⟨vs, Same.sqT po2.so.same hq⟩, k _ H1 _ As1 e1 _ po12 (itt_ok hq rr) h1⟩⟩
  · exact h1.elim
/-- range(n), range(a, b) -/
def rng (lo : Int) (n : Nat) : List D := (List.range n).map fun (i : Nat) => D.int (lo + (i : Int))
theorem rng_get (lo : Int) (n i : Nat) (h : i < n) : (rng lo n)[i]? = some (.int (lo + i)) := by simp [rng, h]
theorem itr_ok {K : PySem.W.Frag} {F : Hp} {lo : Int} {n : Nat} : ItOk K F (Itr lo n) (rng lo n) where
  go := fun i H s hi => show i < n by simpa [rng] using hi
  stop := fun i H s hi => show n ≤ i by simpa [rng] using hi
  yld := fun i x H H' ⟨e, y⟩ s d hd => by
    have hi : i < n := by
      have := (List.getElem?_eq_some_iff.mp hd).1
      simpa [rng] using this
    rw [rng_get lo n i hi] at hd
    cases hd
    subst y
    exact .inl ⟨e, .sc⟩
def as1I : List D → (Int → Prop) → Prop
  | [.sc (.int i)], k => k i
  | _, _ => False
def as2I : List D → (Int → Int → Prop) → Prop
  | [.sc (.int i), .sc (.int j)], k => k i j
  | _, _ => False
def iRng (wa : WA) : WI := fun env R => wa env fun ds e1 => as1I ds fun j => -(2 ^ 62) ≤ j ∧ j < 2 ^ 62 ∧ R (rng 0 j.toNat) e1
theorem di_range {tg a : Expr} {wa : WA} {q : Pos} (hg : Gl X "range") (hm : X.mg "range" = none) (ha : DA p X [a] wa) (hs : starEach [a] X.env = [(false, eval a X.env)] := by rfl) : DI p X tg (.Call (.Name "range" q) [a] [] pos) (iRng wa) := by
  refine ⟨PIimp (pi_range1 hg hm ha.pa hs) ?_⟩
  rintro σ H Q ⟨F, B, env, As, R, s, hw, k⟩
  refine ⟨F, B, env, As, _, s, hw, fun vs H1 F1 As1 a ds e1 po1 t1 h1 => ?_⟩
  unfold as1I at h1
  split at h1
  · obtain ⟨v, rfl, a', r⟩ := t1.rep.one_inv'
    obtain ⟨rfl, _⟩ := r.sc_inv
    exact ⟨_, rfl, h1.1, h1.2.1, k _ H1 F1 As1 e1 _ po1 itr_ok h1.2.2⟩
  · exact h1.elim
def iRng2 (wa : WA) : WI := fun env R => wa env fun ds e1 => as2I ds fun i j => -(2 ^ 62) ≤ i ∧ i < 2 ^ 62 ∧ -(2 ^ 62) ≤ j ∧ j < 2 ^ 62 ∧ R (rng i (j - i).toNat) e1
theorem di_range2 {tg a b : Expr} {wa : WA} {q : Pos} (hg : Gl X "range") (hm : X.mg "range" = none) (ha : DA p X [a, b] wa) (hs : starEach [a, b] X.env = [(false, eval a X.env), (false, eval b X.env)] := by rfl) (hs2 : starEach [b] X.env = [(false, eval b X.env)] := by rfl) : DI p X tg (.Call (.Name "range" q) [a, b] [] pos) (iRng2 wa) := by
  refine ⟨PIimp (pi_range2 hg hm ha.pa hs hs2) ?_⟩
  rintro σ H Q ⟨F, B, env, As, R, s, hw, k⟩
  refine ⟨F, B, env, As, _, s, hw, fun vs H1 F1 As1 a ds e1 po1 t1 h1 => ?_⟩
  unfold as2I at h1
  split at h1
  · obtain ⟨v, v2, rfl, ⟨_, r1⟩, ⟨_, r2⟩⟩ := t1.rep.two_inv
    obtain ⟨rfl, _⟩ := r1.sc_inv
    obtain ⟨rfl, _⟩ := r2.sc_inv
    exact ⟨_, _, rfl, ⟨h1.1, h1.2.1, h1.2.2.1, h1.2.2.2.1⟩, k _ H1 F1 As1 e1 _ po1 itr_ok h1.2.2.2.2⟩
  · exact h1.elim
/-- zip of two lists -/
def zipD (xs ys : List D) : List D := List.zipWith (fun x y => D.tup [x, y]) xs ys
def iZp (wa : WA) : WI := fun env R => wa env fun ds e1 => match ds with
  | [.obj _ sh xs, .obj _ sh2 ys] => isSeq sh = true ∧ isSeq sh2 = true ∧ R (zipD (D.frzL xs) (D.frzL ys)) e1
  | _ => False
theorem zipD_get {xs ys : List D} {i : Nat} {d : D} (h : (zipD xs ys)[i]? = some d) : ∃ x y, xs[i]? = some x ∧ ys[i]? = some y ∧ d = .tup [x, y] := by
  unfold zipD at h
  rw [List.getElem?_zipWith] at h
  cases hx : xs[i]? with
  | none => rw [hx] at h; simp at h
  | some x =>
    cases hy : ys[i]? with
    | none => rw [hx, hy] at h; simp at h
    | some y => rw [hx, hy] at h; simp at h; exact ⟨x, y, rfl, rfl, h.symm⟩
theorem di_zip {e2 : Expr} {wa : WA} {q tpos : Pos} {elts : List Expr} {kk : Nat} (hg : Gl X "zip") (hm : X.mg "zip" = none) (ha : DA p X [e, e2] wa)
    (hs : starEach [e, e2] X.env = (false, eval e X.env) :: starEach [e2] X.env := by rfl) (hpl : (backTo pos (starEach [e2] X.env)).any (·.1) = false := by rfl) :
    DI p X (.Tuple elts kk tpos) (.Call (.Name "zip" q) [e, e2] [] pos) (iZp wa) := by
  refine ⟨PIimp (pi_zip hg hm ha.pa hs hpl) ?_⟩
  rintro σ H Q ⟨F, B, env, As, R, s, hw, k⟩
  refine ⟨F, B, env, As, _, s, hw, fun vs H1 F1 As1 a ds e1 po1 t1 h1 => ?_⟩
  obtain ⟨po2, r2⟩ := po1.so.freezeL t1
  split at h1
  · obtain ⟨hs1, hs2, h1⟩ := h1
    obtain ⟨v, us, A1, A2, rfl, e0, q1, q2⟩ := r2.cons_inv
    obtain ⟨v2, us2, A3, A4, rfl, e3, q3, q4⟩ := q2.cons_inv
    obtain ⟨rfl, _⟩ := q4.nil_inv
    obtain ⟨a1, xs', rfl, hx, rx⟩ := Rep.frz_seq (o := false) hs1 q1
    obtain ⟨a2, ys', rfl, hy, ry⟩ := Rep.frz_seq (o := false) hs2 q3
    refine ⟨a1, a2, xs', ys', rfl, po2.so.same.seq hx, po2.so.same.seq hy, k _ H1 _ As1 e1 _ (po1.trans (po2.imp fun _ => rfl)) ⟨fun i H sm hi => ?_, fun i H sm hi => ?_, fun i x H H' y sm d hd => ?_⟩ h1⟩
    · have hz : i < (zipD (D.frzL _) (D.frzL _)).length := hi
      obtain ⟨x, y, h3, h4, _⟩ := zipD_get (List.getElem?_eq_getElem hz)
      obtain ⟨w1, g1, _⟩ := rx.fz_get h3
      obtain ⟨w2, g2, _⟩ := ry.fz_get h4
      exact ⟨xs', ys', w1, w2, sm.seq hx, sm.seq hy, g1, g2⟩
    · refine ⟨xs', ys', sm.seq hx, sm.seq hy, ?_⟩
      have := rx.length
      have := ry.length
      unfold zipD at hi
      rw [List.length_zipWith] at hi
      omega
    · obtain ⟨T, x1, y1, rfl, hT, rfl, gx, gy⟩ := y
      obtain ⟨x, y, h3, h4, rfl⟩ := zipD_get hd
      obtain ⟨w1, g1, p1⟩ := rx.fz_get h3
      obtain ⟨w2, g2, p2⟩ := ry.fz_get h4
      have e1 := gx _ (sm.seq hx)
      have e2 := gy _ (sm.seq hy)
      rw [g1] at e1; rw [g2] at e2
      cases e1; cases e2
      exact .inr ⟨T, _, _, hT, rfl, rfl, rfl, .cons (A := []) (B := []) (p1.frame (Same.refl _) fun _ z => nomatch z) (.one (p2.frame (Same.refl _) fun _ z => nomatch z))⟩
  · exact h1.elim
/-- enumerate of a list -/
def enumD : Nat → List D → List D
  | _, [] => []
  | n, x :: xs => .tup [.int (n : Int), x] :: enumD (n + 1) xs
theorem enumD_get : ∀ {xs : List D} {n i : Nat} {d : D}, (enumD n xs)[i]? = some d → ∃ x, xs[i]? = some x ∧ d = .tup [.int ((n + i : Nat) : Int), x]
  | [], n, i, d, h => by simp [enumD] at h
  | x :: xs, n, 0, d, h => by simp [enumD] at h; exact ⟨x, rfl, by simpa using h.symm⟩
  | x :: xs, n, i + 1, d, h => by
    simp only [enumD, List.getElem?_cons_succ] at h
    obtain ⟨y, h1, h2⟩ := enumD_get h
    exact ⟨y, by simpa using h1, by rw [h2, show n + 1 + i = n + (i + 1) by omega]⟩
theorem enumD_length : ∀ (xs : List D) (n : Nat), (enumD n xs).length = xs.length
  | [], _ => rfl
  | x :: xs, n => by simp [enumD, enumD_length xs]
def iEnm (wa : WA) : WI := fun env R => wa env fun ds e1 => match ds with
  | [.obj _ sh xs] => isSeq sh = true ∧ R (enumD 0 (D.frzL xs)) e1
  | _ => False
theorem di_enum {wa : WA} {q tpos : Pos} {elts : List Expr} {kk : Nat} (hg : Gl X "enumerate") (hm : X.mg "enumerate" = none) (ha : DA p X [e] wa) (hs : starEach [e] X.env = [(false, eval e X.env)] := by rfl) :
    DI p X (.Tuple elts kk tpos) (.Call (.Name "enumerate" q) [e] [] pos) (iEnm wa) := by
  refine ⟨PIimp (pi_enum hg hm ha.pa hs) ?_⟩
  rintro σ H Q ⟨F, B, env, As, R, s, hw, k⟩
  refine ⟨F, B, env, As, _, s, hw, fun vs H1 F1 As1 a ds e1 po1 t1 h1 => ?_⟩
  obtain ⟨po2, r2⟩ := po1.so.freezeL t1
  split at h1
  · obtain ⟨hs1, h1⟩ := h1
    obtain ⟨v, us, A1, A2, rfl, e0, q1, q2⟩ := r2.cons_inv
    obtain ⟨rfl, _⟩ := q2.nil_inv
    obtain ⟨a1, xs', rfl, hx, rx⟩ := Rep.frz_seq (o := false) hs1 q1
    refine ⟨a1, xs', rfl, po2.so.same.seq hx, k _ H1 _ As1 e1 _ (po1.trans (po2.imp fun _ => rfl)) ⟨fun i H sm hi => ?_, fun i H sm hi => ?_, fun i x H H' y sm d hd => ?_⟩ h1⟩
    · rw [enumD_length] at hi
      exact ⟨xs', xs'[i]'(by rw [← rx.length]; exact hi), sm.seq hx, by simp [← rx.length, hi]⟩
    · rw [enumD_length] at hi
      exact ⟨xs', sm.seq hx, by rw [← rx.length]; exact hi⟩
    · obtain ⟨T, x1, rfl, hT, rfl, gx⟩ := y
      obtain ⟨x, h3, rfl⟩ := enumD_get hd
      obtain ⟨w1, g1, p1⟩ := rx.fz_get h3
      have e1 := gx _ (sm.seq hx)
      rw [g1] at e1
      cases e1
      refine .inr ⟨T, _, _, hT, rfl, rfl, rfl, .cons (A := []) (B := []) ?_ (.one (p1.frame (Same.refl _) fun _ z => nomatch z))⟩
      rw [Nat.zero_add]
      exact .sc
  · exact h1.elim

/-! ### for -/
def loopD (g : WG) (wb : WS) : List D → WS
  | [], env, RD => RD.nx env
  | x :: xs, env, RD => g x env fun e1 => wb e1 { RD with nx := fun e2 => loopD g wb xs e2 RD, ct := fun e2 => loopD g wb xs e2 RD, bk := RD.nx }
def sFor (wi : WI) (g : WG) (wb : WS) : WS := fun env RD => wi env fun items e1 => loopD g wb items e1 RD
theorem ds_for {tg iter : Expr} {body : List Stmt} {wi : WI} {g : WG} {wb : WS} (hp : PassesOwn (model X.prog X.w) X.A X.env X.xe) (hc : X.calm = true) (hi : DI p X tg iter wi) (hg : DG kp X tg g) (hb : DSs kp X body wb)
    (hs : ∀ x, foldedSetIterable iter X.env x = pure x := by intro _; rfl) : DS kp X (.For tg iter body [] pos) (sFor wi g wb) := by
  refine ⟨PSimp (ps_for hp hc hi.pi hg.pg hb.ps hs) ?_⟩
  rintro D σ H ⟨F, B, env, As, RD, s, hw, k1, k2, k3, k4⟩
  refine ⟨F, B, env, As, _, s, hw, fun J H1 F1 As1 e1 items po1 it h1 => ?_⟩
  refine ⟨fun i m σ' H' => m = items.length - i ∧ i ≤ items.length ∧ ∃ F' As' env', PostS X.K kp F H B σ F' H' env' σ' As' ∧ Same F1 F' ∧ loopD g wb (items.drop i) env' RD,
    ⟨items.length, rfl, Nat.zero_le _, F1, As1, e1, po1.ps, Same.refl _, h1⟩, ?_⟩
  rintro i m σ2 H2 ⟨rfl, hle, F2, As2, e2, po2, sm, h2⟩
  by_cases hlt : i < items.length
  · refine .inr ⟨it.go i H2 (sm.trans po2.so.same) hlt, fun σ' H' => ∃ F' As' env', PostS X.K kp F H B σ F' H' env' σ' As' ∧ Same F1 F' ∧ loopD g wb (items.drop (i + 1)) env' RD,
      fun σ' H' ⟨F', As', env', po, sm', h⟩ => ⟨items.length - (i + 1), by omega, rfl, hlt, F', As', env', po, sm', h⟩, fun x H3 y => ?_⟩
    rw [List.drop_eq_getElem_cons hlt] at h2
    obtain ⟨F3, po3, t3⟩ := it.item po2.so sm y (List.getElem?_eq_getElem hlt)
    have po23 := po2.trans (po3.ps (kp := kp))
    refine ⟨F3, B, e2, As2, _, [], _, po3.so, t3, h2, fun σ4 H4 F4 As4 e4 po4 h4 => ?_⟩
    have po24 := po23.trans po4
    have sm4 := sm.trans (po3.ext.trans po4.ext)
    exact ⟨F4, B, e4, As4, _, po4.so, h4, fun σ5 H5 F5 As5 e5 po5 h5 => ⟨F5, As5, e5, po24.trans po5, sm4.trans po5.ext, h5⟩, fun σ5 H5 F5 As5 e5 po5 h5 => k1 σ5 H5 F5 As5 e5 (po24.trans po5) h5,
      fun σ5 H5 F5 As5 e5 po5 h5 => ⟨F5, As5, e5, po24.trans po5, sm4.trans po5.ext, h5⟩, fun v σ5 H5 F5 As5 a d e5 po5 t5 h5 => k4 v σ5 H5 F5 As5 a d e5 (po24.trans po5) t5 h5⟩
  · have e : i = items.length := by omega
    subst e
    rw [List.drop_length] at h2
    exact .inl ⟨it.stop _ H2 (sm.trans po2.so.same) (Nat.le_refl _), k1 σ2 H2 F2 As2 e2 po2 h2⟩
end
end PL

/-! PLi: comprehensions; calls of defs; a def by its body. -/
namespace PL
open PySem L2

/-! ### comprehensions -/
def wipeE {α : Type} (e : α) : List Nat → List α → List α
  | [], env => env
  | v :: vs, env => (wipeE e vs env).set v e
section
variable {K : PySem.W.Frag} {p : Bool} {kp : List Nat} {F F' F2 H H' H2 : Hp} {B : Addr → Prop} {env env' env2 : En} {σ σ' σ2 : St} {As As' As2 : List (List Addr)} {d d' d2 : D} {v v' v2 v0 : V} {A A' a a2 : List Addr} {ds : List D} {vs : List V} {u : D → D}
theorem wipe_eq (σ : St) : ∀ vs, wipe σ vs = wipeE none vs σ
  | [] => rfl
  | v :: vs => by simp only [wipe, wipeE, wipe_eq σ vs]
theorem wipeE_len {α : Type} (e : α) : ∀ (vs : List Nat) (l : List α), (wipeE e vs l).length = l.length
  | [], _ => rfl
  | v :: vs, l => by simp only [wipeE, List.length_set, wipeE_len e vs l]
theorem wipeE_in {α : Type} (e : α) : ∀ {vs : List Nat} {l : List α} {i : Nat}, i ∈ vs → i < l.length → (wipeE e vs l)[i]? = some e
  | v :: vs, l, i, h, hl => by
    simp only [wipeE]
    by_cases hv : v = i
    · subst hv; rw [List.getElem?_set_self (by rw [wipeE_len]; exact hl)]
    · rw [List.getElem?_set_ne hv]
      exact wipeE_in e ((List.mem_cons.mp h).resolve_left fun z => hv z.symm) hl
theorem wipeE_out {α : Type} (e : α) : ∀ {vs : List Nat} {l : List α} {i : Nat}, i ∉ vs → (wipeE e vs l)[i]? = l[i]?
  | [], l, i, _ => rfl
  | v :: vs, l, i, h => by
    simp only [wipeE]
    rw [List.getElem?_set_ne (fun z : v = i => h (by rw [z]; exact List.mem_cons_self ..)), wipeE_out e fun z => h (List.mem_cons_of_mem _ z)]
theorem wipe_sub : ∀ (vs : List Nat) {x : Addr}, x ∈ (wipeE [] vs As).flatten → x ∈ As.flatten
  | [], _, h => h
  | v :: vs, x, h => by
    simp only [wipeE] at h
    by_cases hl : v < (wipeE [] vs As).length
    · exact wipe_sub vs ((flat_at _ v _ (List.getElem?_eq_getElem hl)).mem_iff.mpr (List.mem_append_right _ h))
    · rw [List.set_eq_of_length_le (by omega)] at h; exact wipe_sub vs h
theorem SO.wipe (s : SO K F H B env σ As) : ∀ vs, SO K F H B (wipeE none vs env) (wipeE none vs σ) (wipeE [] vs As)
  | [] => s
  | v :: vs => by
    have h := (SO.wipe s vs).drop v
    simp only [wipeE]
    refine ⟨h.same, ?_, h.nd, h.fr, h.out⟩
    by_cases hl : v < (wipeE none vs env).length
    · exact h.env.slot (by simp [hl])
    · have e : (wipeE (α := Option V) none vs σ).set v none = wipeE none vs σ := List.set_eq_of_length_le (by have := (SO.wipe s vs).env.len.1; omega)
      rw [e]; exact h.env
/-- slots whose holders are given up may be told as they were -/
theorem EnvR.slots (r : EnvR K F H env σ As) (hl : σ'.length = σ.length) (h : ∀ i : Nat, env[i]? ≠ some none → σ'[i]? = σ[i]?) : EnvR K F H env σ' As := by
  induction r generalizing σ' with
  | nil => cases σ' with
    | nil => exact .nil
    | cons _ _ => simp at hl
  | @emp es σ As o r ih =>
    cases σ' with
    | nil => simp at hl
    | cons o' σ' => exact .emp (ih (by simpa using hl) fun i z => by have := h (i + 1) (by simpa using z); simpa using this)
  | @val d v A es σ As x r ih =>
    cases σ' with
    | nil => simp at hl
    | cons o' σ' =>
      have h0 := h 0 (by simp)
      simp at h0; subst h0
      exact .val x (ih (by simpa using hl) fun i z => by have := h (i + 1) (by simpa using z); simpa using this)
/-- what stands in a slot and is frozen stays so -/
def fzO : Option (Option D) → Option D
  | some (some d) => if d.fz = true then some d else none
  | _ => none
def restE (e0 : En) : List Nat → En → En
  | [], env => env
  | v :: vs, env => (restE e0 vs env).set v (fzO e0[v]?)
theorem fzO_some {o : Option (Option D)} {d : D} (h : fzO o = some d) : o = some (some d) ∧ d.fz = true := by
  unfold fzO at h
  split at h
  · split at h
    · cases h; exact ⟨rfl, by assumption⟩
    · cases h
  · cases h
theorem SO.rest {F0 : Hp} {H0 : Hp} {B0 : Addr → Prop} {As0 : List (List Addr)} {e0 : En} (s0 : SO K F0 H0 B0 e0 σ As0) (e : Same F0 F) (s : SO K F H B env σ As) : ∀ vs, ∃ As', SO K F H B (restE e0 vs env) σ As' ∧ ∀ x ∈ As'.flatten, x ∈ As.flatten
  | [] => ⟨As, s, fun _ z => z⟩
  | v :: vs => by
    obtain ⟨As1, s1, sub⟩ := SO.rest s0 e s vs
    simp only [restE]
    have s2 := s1.drop v
    have sub2 : ∀ x ∈ (As1.set v []).flatten, x ∈ As.flatten := fun x hx => by
      by_cases hl : v < As1.length
      · exact sub x ((flat_at As1 v As1[v] (by simp [hl])).mem_iff.mpr (List.mem_append_right _ hx))
      · rw [List.set_eq_of_length_le (by omega)] at hx; exact sub x hx
    cases hf : fzO e0[v]? with
    | none => exact ⟨_, s2, sub2⟩
    | some d =>
      obtain ⟨h1, h2⟩ := fzO_some hf
      obtain ⟨w, a, g1, g2, g3⟩ := s0.env.get h1
      have := g3.fzNil h2; subst this
      by_cases hl : v < As1.length
      · have s3 := s2.put (i := v) (s1.emptied hl) (.fz (g3.frame (F' := F) (H' := H) e fun _ z => nomatch z) s2) g1
        rw [set_set, set_set] at s3
        exact ⟨_, s3, sub2⟩
      · have e2 : (restE e0 vs env).set v (some d) = restE e0 vs env := List.set_eq_of_length_le (by have := s1.env.len.2; omega)
        rw [e2]
        exact ⟨_, s1, sub⟩
theorem TO.sub (t : TO K F H B As d v a) (nd : As'.flatten.Nodup) (h : ∀ x ∈ As'.flatten, x ∈ As.flatten) : TO K F H B As' d v a := by
  have n := List.nodup_append.mp t.nd
  exact ⟨t.rep, List.nodup_append.mpr ⟨n.1, nd, fun x hx y hy => n.2.2 x hx y (h y hy)⟩, t.fr, t.nb⟩
end
abbrev WTs := WT
structure DTs (p : Bool) (X : Cx) (ifs : List Expr) (w : WT) : Prop where
  pt : PTs X ifs (liftT X.K p w)
section
variable {X : Cx} {p : Bool} {c : Expr} {wt : WT}
def wYes : WT := fun env R => R true env
theorem PTsimp {X : Cx} {e : List Expr} {t t' : TT} (h : PTs X e t) (i : ∀ σ H Q, t' σ H Q → t σ H Q) : PTs X e t' := ⟨fun pins s σ H Q I q => h.run pins s σ H Q I (i σ H Q q)⟩
theorem dts_nil : DTs p X [] wYes := ⟨PTsimp pts_nil fun σ H Q ⟨F, B, env, As, R, s, hw, k⟩ => k true H F As env (.refl s) hw⟩
theorem dts_one (h : DT p X c wt) : DTs p X [c] wt := ⟨pts_one h.pt⟩
end
/-- the turns of a comprehension: e0 the names around, vs its own slots, kf: items stay own -/
def compD (kf : Bool) (vs : List Nat) (g : WG) (wt : WT) (we : WE) : List D → List D → En → (List D → En → Prop) → Prop
  | [], acc, env, R => R acc env
  | x :: xs, acc, env, R => g x (wipeE none vs env) fun e1 => wt e1 fun b e2 => if b = true then we e2 fun y e3 => acc.length < sizeLine ∧ compD kf vs g wt we xs (acc ++ [inK kf y]) e3 R else compD kf vs g wt we xs acc e2 R
def wComp (kf : Bool) (wi : WI) (vs : List Nat) (g : WG) (wt : WT) (we : WE) : WE := fun env R => wi env fun items e1 => compD kf vs g wt we items [] e1 fun acc e2 => R (.lst true acc) (restE e1 vs (wipeE none vs e2))
section
variable {X : Cx} {kf : Bool}
/-- what a comprehension's target may store -/
def outK (n : Nat) (vs : List Nat) : List Nat := (List.range n).filter fun i => !vs.contains i
theorem outK_mem {n i : Nat} {vs : List Nat} : i ∈ outK n vs ↔ i < n ∧ i ∉ vs := by simp [outK]
theorem SO.updB {K : PySem.W.Frag} {F H : Hp} {B : Addr → Prop} {env : En} {σ : St} {As : List (List Addr)} {p : Addr} {o : HO} (s : SO K F H B env σ As) (hp : B p) : SO K F (upd H p o) B env σ As := by
  obtain ⟨h1, h2, h3⟩ := s.out p hp
  refine ⟨fun b w e => ?_, s.env.frame (Same.refl _) fun a ha => upd_ne fun z => h3 (z ▸ ha), s.nd, s.fr, fun b hb => ?_⟩
  · rw [upd_ne fun z => by rw [z, h1] at e; cases e]; exact s.same b w e
  · obtain ⟨k1, ⟨w, k2⟩, k3⟩ := s.out b hb
    by_cases hbp : b = p
    · subst hbp; exact ⟨k1, ⟨o, upd_same⟩, k3⟩
    · exact ⟨k1, ⟨w, (upd_ne hbp).trans k2⟩, k3⟩
theorem comp_lift {K : PySem.W.Frag} {wi : WI} {vs : List Nat} {g : WG} {wt : WT} {we : WE} {ti : TI} {tg : TG} {tt : TT} {te : TE} {n : Nat} (hi : ∀ σ H Q, liftI K false wi σ H Q → ti σ H Q)
    (hg : ∀ v σ H Q, liftG K (outK n vs) g v σ H Q → tg v σ H Q) (ht : ∀ σ H Q, liftT K false wt σ H Q → tt σ H Q) (he : ∀ σ H Q, liftE K false we σ H Q → te σ H Q) :
    ∀ (σ : St) H Q, σ.length = n → liftE K false (wComp kf wi vs g wt we) σ H Q → tLc ti tg tt te vs σ H Q := by
  rintro σ H Q hn ⟨F, B, env, As, R, s, hw, k⟩
  refine hi σ H _ ⟨F, B, env, As, _, s, hw, fun J H1 F1 As1 e1 items po1 it h1 D hD => ?_⟩
  refine ⟨fun i m H' => m = items.length - i ∧ i ≤ items.length ∧ ∃ F' As' env' acc avs aa, Same F1 F' ∧ SO K F' H' B (wipeE none vs env') (wipeE none vs σ) As' ∧ (∀ b, B b → H' b = H1 b) ∧
      TO K F' H' B As' (.lst true acc) (.ref D) (D :: aa) ∧ H' D = some (.lst avs) ∧ RepL K F' H' acc avs aa ∧ compD kf vs g wt we (items.drop i) acc env' (fun acc e2 => R (.lst true acc) (restE e1 vs (wipeE none vs e2))), ⟨items.length, rfl, Nat.zero_le _, ?_⟩, ?_⟩
  · have po2 := po1.so.newO (o := .lst []) hD
    have s2 := po2.so.wipe vs
    have r0 : RepL K F1 (upd H1 D (.lst [])) [] [] [] := .nil
    refine ⟨F1, _, e1, [], [], [], Same.refl _, s2, po2.keep, ⟨.own (show CellO (upd H1 D (.lst [])) .lst D [] from upd_same) r0, ?_, fun x hx => ?_, fun x hx => ?_⟩, upd_same, r0, h1⟩
    · refine List.nodup_cons.mpr ⟨fun z => ?_, by simpa using s2.nd⟩
      have hz : D ∈ (wipeE [] vs As1).flatten := by simpa using z
      exact po1.so.notAs hD (wipe_sub vs hz)
    · rw [List.mem_singleton.mp hx]; exact po1.so.freeF hD
    · rw [List.mem_singleton.mp hx]; exact po1.so.notB hD
  · rintro i m H2 ⟨rfl, hle, F2, As2, e2, acc, avs, aa, sm, s2, kb, t2, hD2, r2, h2⟩
    by_cases hlt : i < items.length
    · refine .inr ⟨it.go i H2 (sm.trans s2.same) hlt, fun H' => ∃ F' As' env' acc avs aa, Same F1 F' ∧ SO K F' H' B (wipeE none vs env') (wipeE none vs σ) As' ∧ (∀ b, B b → H' b = H1 b) ∧
        TO K F' H' B As' (.lst true acc) (.ref D) (D :: aa) ∧ H' D = some (.lst avs) ∧ RepL K F' H' acc avs aa ∧ compD kf vs g wt we (items.drop (i + 1)) acc env' (fun acc e2 => R (.lst true acc) (restE e1 vs (wipeE none vs e2))),
        fun H' h => ⟨items.length - (i + 1), by omega, rfl, hlt, h⟩, fun x H3 y => ?_⟩
      rw [List.drop_eq_getElem_cons hlt] at h2
      have sp := s2.push t2
      obtain ⟨F3, po3, t3⟩ := it.item sp sm y (List.getElem?_eq_getElem hlt)
      rw [wipe_eq]
      -- the list stays while the turn runs
      have stay : ∀ {σ4 H4 F4 As4 e4}, PostS K (outK n vs) F2 H2 (Bx B (D :: aa)) (wipeE none vs σ) F4 H4 e4 σ4 As4 → H4 D = some (.lst avs) ∧ RepL K F4 H4 acc avs aa ∧ TO K F4 H4 B As4 (.lst true acc) (.ref D) (D :: aa) := fun po => by
        refine ⟨(po.keep D (.inr (List.mem_cons_self ..))).trans hD2, r2.frame po.ext fun x hx => po.keep x (.inr (List.mem_cons_of_mem _ hx)), t2.keepS po⟩
      have same : ∀ {σ4 H4 F4 As4 e4}, PostS K (outK n vs) F2 H2 (Bx B (D :: aa)) (wipeE none vs σ) F4 H4 e4 σ4 As4 → wipeE none vs σ4 = wipeE none vs σ := fun {σ4 _ _ _ _} po => by
        have hl4 : σ4.length = σ.length := by rw [po.len, wipeE_len]
        refine List.ext_getElem? fun j => ?_
        by_cases hj : j ∈ vs
        · by_cases hjl : j < σ.length
          · rw [wipeE_in none hj (by omega), wipeE_in none hj hjl]
          · rw [List.getElem?_eq_none (by rw [wipeE_len]; omega), List.getElem?_eq_none (by rw [wipeE_len]; omega)]
        · rw [wipeE_out none hj, wipeE_out none hj]
          by_cases hjl : j < n
          · rw [po.kp j (outK_mem.mpr ⟨hjl, hj⟩), wipeE_out none hj]
          · rw [List.getElem?_eq_none (by omega), List.getElem?_eq_none (by omega)]
      have back : ∀ {σ4 H4 F4 As4 e4}, PostS K (outK n vs) F2 H2 (Bx B (D :: aa)) (wipeE none vs σ) F4 H4 e4 σ4 As4 → SO K F4 H4 (Bx B (D :: aa)) (wipeE none vs e4) (wipeE none vs σ) (wipeE [] vs As4) := fun po => by
        rw [← same po]; exact po.so.wipe vs
      refine hg x _ H3 _ ⟨F3, Bx B (D :: aa), _, As2, _, [], _, po3.so, t3, h2, fun σ4 H4 F4 As4 e4 po4 h4 => ?_⟩
      have po24 := (po3.ps (kp := outK n vs)).trans po4
      refine ⟨by rw [wipe_eq, same po24], ?_⟩
      refine ht σ4 H4 _ ⟨F4, Bx B (D :: aa), e4, As4, _, po4.so, h4, fun b H5 F5 As5 e5 po5 h5 => ?_⟩
      have po25 := po24.trans (po5.ps (kp := outK n vs))
      cases b with
      | false =>
        obtain ⟨g1, g2, g3⟩ := stay po25
        have sb := back po25
        refine ⟨F5, _, e5, acc, avs, aa, sm.trans po25.ext, sb.pop, fun b hb => (po25.keep b (.inl hb)).trans (kb b hb), ⟨g3.rep, ?_, g3.fr, g3.nb⟩, g1, g2, h5⟩
        have n3 := List.nodup_append.mp g3.nd
        exact List.nodup_append.mpr ⟨n3.1, sb.nd, fun x hx z hz e => (sb.out x (.inr hx)).2.2 (e ▸ hz)⟩
      | true =>
        refine he σ4 H5 _ ⟨F5, Bx B (D :: aa), e5, As5, _, po5.so, h5, fun yv H6 F6 As6 ay y' e6 po6 t6 ⟨hl, h6⟩ => ?_⟩
        have po26 := po25.trans (po6.ps (kp := outK n vs))
        obtain ⟨F7, a7, po7, t7, sub7⟩ := in_ok kf po6.so t6
        have po27 := po26.trans (po7.ps (kp := outK n vs))
        obtain ⟨g1, g2, g3⟩ := stay po27
        have sb := back po27
        refine ⟨avs, g1, by rw [← r2.length]; exact hl, ?_⟩
        have nDaa : D ∉ aa := (List.nodup_cons.mp (List.nodup_append.mp g3.nd).1).1
        have nDa7 : D ∉ a7 := fun z => t7.nb D z (.inr (List.mem_cons_self ..))
        have rr : RepL K F7 (upd H6 D (.lst (avs ++ [yv]))) (acc ++ [inK kf y']) (avs ++ [yv]) (aa ++ a7) :=
          (g2.app (.one t7.rep)).frame (Same.refl _) fun x hx => upd_ne fun z => (List.mem_append.mp hx).elim (fun q => nDaa (z ▸ q)) fun q => nDa7 (z ▸ q)
        have su := sb.updB (o := .lst (avs ++ [yv])) (.inr (List.mem_cons_self ..))
        have a7out : ∀ x ∈ a7, x ∉ As6.flatten := fun x hx z => (List.nodup_append.mp t7.nd).2.2 x hx x z rfl
        refine ⟨F7, _, e6, acc ++ [inK kf y'], avs ++ [yv], aa ++ a7, sm.trans po27.ext, su.pop, fun b hb => ?_, ⟨.own (show CellO _ .lst D _ from upd_same) rr, ?_, fun x hx => ?_, fun x hx => ?_⟩, upd_same, rr, h6⟩
        · have nb : b ≠ D := fun z => g3.nb D (List.mem_cons_self ..) (z ▸ hb)
          exact (upd_ne nb).trans ((po27.keep b (.inl hb)).trans (kb b hb))
        · have n3 := List.nodup_append.mp g3.nd
          have n4 := List.nodup_cons.mp n3.1
          have ap : ∀ x ∈ aa, x ∉ a7 := fun x hx z => t7.nb x z (.inr (List.mem_cons_of_mem _ hx))
          refine List.nodup_append.mpr ⟨List.nodup_cons.mpr ⟨fun z => (List.mem_append.mp z).elim nDaa nDa7, List.nodup_append.mpr ⟨n4.2, (List.nodup_append.mp t7.nd).1, fun x hx z hz e => ap x hx (e ▸ hz)⟩⟩, sb.nd, fun x hx z hz e => ?_⟩
          subst e
          rcases List.mem_cons.mp hx with rfl | hx
          · exact (sb.out x (.inr (List.mem_cons_self ..))).2.2 hz
          · rcases List.mem_append.mp hx with q | q
            · exact (sb.out x (.inr (List.mem_cons_of_mem _ q))).2.2 hz
            · exact a7out x q (wipe_sub vs hz)
        · rcases List.mem_cons.mp hx with rfl | hx
          · exact g3.fr x (List.mem_cons_self ..)
          · rcases List.mem_append.mp hx with q | q
            · exact g3.fr x (List.mem_cons_of_mem _ q)
            · exact t7.fr x q
        · rcases List.mem_cons.mp hx with rfl | hx
          · exact g3.nb x (List.mem_cons_self ..)
          · rcases List.mem_append.mp hx with q | q
            · exact g3.nb x (List.mem_cons_of_mem _ q)
            · exact fun z => t7.nb x q (.inl z)
    · have e : i = items.length := by omega
      subst e
      rw [List.drop_length] at h2
      refine .inl ⟨it.stop _ H2 (sm.trans s2.same) (Nat.le_refl _), ?_⟩
      have nE : ∀ i : Nat, (wipeE none vs e2)[i]? ≠ some none → σ[i]? = (wipeE none vs σ)[i]? := fun j hj => by
        by_cases hv : j ∈ vs
        · by_cases hl : j < σ.length
          · exact absurd (wipeE_in none hv (by have := s2.env.len.1; rw [wipeE_len, wipeE_len] at this; omega)) hj
          · rw [List.getElem?_eq_none (by omega), List.getElem?_eq_none (by rw [wipeE_len]; omega)]
        · rw [wipeE_out none hv]
      have s3 : SO K F2 H2 B (wipeE none vs e2) σ As2 := ⟨s2.same, s2.env.slots (wipeE_len none vs σ).symm nE, s2.nd, s2.fr, s2.out⟩
      obtain ⟨As3, s4, sub⟩ := po1.so.rest sm s3 vs
      exact k (.ref D) H2 F2 As3 (D :: aa) _ _ ⟨po1.ext.trans sm, s4, fun b hb => (kb b hb).trans (po1.keep b hb), fun z => Bool.noConfusion z⟩ (t2.sub s4.nd sub) h2
theorem PEimpN {X : Cx} {e : Expr} {t t' : TE} (h : PE X e t) (i : ∀ (σ : St) H Q, σ.length = X.N.length → t' σ H Q → t σ H Q) : PE X e t' := ⟨fun pins s σ H Q I q => h.run pins s σ H Q I (i σ H Q I.len q)⟩
theorem PSimpN {X : Cx} {e : Stmt} {t t' : TS} (h : PS X e t) (i : ∀ D (σ : St) H, σ.length = X.N.length → t' D σ H → t D σ H) : PS X e t' := ⟨fun pins s σ H D I q => h.run pins s σ H D I (i D σ H I.len q)⟩
section
variable {elt tg iter : Expr} {ifs : List Expr} {scope : Scope} {own : List (Str × Nat)} {pos spos : Pos} {wi : WI} {g : WG} {wt : WT} {we : WE} {kp : List Nat}
theorem de_lc (kf : Bool) (hc : X.calm = true) (hN : X.N.Nodup) (hi : DI false X tg iter wi) (ok : BlkOk X.N X.env.scope scope own)
    (hg : ∀ (s : Shared) (H : Hp) (C : Addr) (cl : List (Str × Addr)) (fp : List Addr), DG (outK X.N.length (own.map (·.2))) (X.blk s H scope (compEnvC scope cl C X.env) fp) tg g)
    (ht : ∀ (s : Shared) (H : Hp) (C : Addr) (cl : List (Str × Addr)) (fp : List Addr), DTs false (X.blk s H scope (compEnvC scope cl C X.env) fp) ifs wt)
    (he : ∀ (s : Shared) (H : Hp) (C : Addr) (cl : List (Str × Addr)) (fp : List Addr), DE false (X.blk s H scope (compEnvC scope cl C X.env) fp) elt we) (hs : ∀ x, foldedSetIterable iter X.env x = pure x := by intro _; rfl) :
    DE false X (.ListComp elt [⟨tg, iter, ifs, 0⟩] scope pos) (wComp kf wi (own.map (·.2)) g wt we) :=
  ⟨PEimpN (pe_lc (g := liftG X.K (outK X.N.length (own.map (·.2))) g) (tt := liftT X.K false wt) (te := liftE X.K false we) hc hN hi.pi ok (fun s H C cl fp => (hg s H C cl fp).pg) (fun s H C cl fp => (ht s H C cl fp).pt) (fun s H C cl fp => (he s H C cl fp).pe) hs) fun σ H Q hn h =>
    comp_lift (fun _ _ _ h => h) (fun _ _ _ _ h => h) (fun _ _ _ h => h) (fun _ _ _ h => h) σ H Q hn h⟩
theorem ds_setLc {i : Nat} {y : Str} {py : Pos} (kf : Bool) (hc : X.calm = true) (hN : X.N.Nodup) (hy : X.N[i]? = some y) (hyl : X.env.scope.names.lookup y = some .local) (hk : i ∉ kp)
    (hsw : swapsWith (.ListComp elt [⟨tg, iter, ifs, 0⟩] scope pos) (some (.Name y py)) spos.line X.env = pure true) (hi : DI false X tg iter wi) (ok : BlkOk X.N X.env.scope scope own)
    (hg : ∀ (s : Shared) (H : Hp) (C : Addr) (cl : List (Str × Addr)) (fp : List Addr), DG (outK X.N.length (own.map (·.2))) (X.blk s H scope (compEnvC scope cl C X.env) fp) tg g)
    (ht : ∀ (s : Shared) (H : Hp) (C : Addr) (cl : List (Str × Addr)) (fp : List Addr), DTs false (X.blk s H scope (compEnvC scope cl C X.env) fp) ifs wt)
    (he : ∀ (s : Shared) (H : Hp) (C : Addr) (cl : List (Str × Addr)) (fp : List Addr), DE false (X.blk s H scope (compEnvC scope cl C X.env) fp) elt we) (hs : ∀ x, foldedSetIterable iter X.env x = pure x := by intro _; rfl) :
    DS kp X (.Assign [.Name y py] (.ListComp elt [⟨tg, iter, ifs, 0⟩] scope pos) spos) (sAsg (wComp kf wi (own.map (·.2)) g wt we) (gNm i)) := by
  refine ⟨PSimpN (ps_setLc (g := liftG X.K (outK X.N.length (own.map (·.2))) g) (tt := liftT X.K false wt) (te := liftE X.K false we) hc hN hy hyl hsw hi.pi ok (fun s H C cl fp => (hg s H C cl fp).pg) (fun s H C cl fp => (ht s H C cl fp).pt) (fun s H C cl fp => (he s H C cl fp).pe) hs) fun D σ H hn h => ?_⟩
  obtain ⟨F, B, env, As, RD, s, hw, k1, k2, k3, k4⟩ := h
  refine comp_lift (fun _ _ _ h => h) (fun _ _ _ _ h => h) (fun _ _ _ h => h) (fun _ _ _ h => h) σ H _ hn ⟨F, B, env, As, _, s, hw, fun v H1 F1 As1 a d e1 po1 t1 h1 => ?_⟩
  exact k1 _ H1 F1 _ _ (po1.ps.trans (po1.so.assignS t1 hk)) h1
end
end
end PL

/-! PLj: calls of defs; a def by its body. -/
namespace PL
open PySem L2

/-- an argument: a value, or what a name holds (it is lent) -/
inductive AV where
  | val (d : D) | ref (i : Nat)
abbrev WC := En → (List AV → En → Prop) → Prop
section
variable (K : PySem.W.Frag) (F H : Hp) (σ : St)
inductive IR : List AV → List V → List Addr → Prop
  | nil : IR [] [] []
  | val {d v a is vs b} : Rep K F H d v a → IR is vs b → IR (.val d :: is) (v :: vs) (a ++ b)
  | ref {i v is vs b} : σ[i]? = some (some v) → IR is vs b → IR (.ref i :: is) (v :: vs) b
end
structure TI (K : PySem.W.Frag) (F H : Hp) (B : Addr → Prop) (σ : St) (As : List (List Addr)) (is : List AV) (vs : List V) (a : List Addr) : Prop where
  rep : IR K F H σ is vs a
  nd : (a ++ As.flatten).Nodup
  fr : ∀ x ∈ a, F x = none
  nb : ∀ x ∈ a, ¬ B x
def liftC (K : PySem.W.Frag) (w : WC) : TA := fun σ H Q => ∃ F B env As R, SO K F H B env σ As ∧ w env R ∧
  ∀ vs H' F' As' a is env', PostE K false F H B env σ As F' H' env' As' → TI K F' H' B σ As' is vs a → R is env' → Q vs H'
structure DC (X : Cx) (es : List Expr) (w : WC) : Prop where
  pa : PA X es (liftC X.K w)
section
variable {K : PySem.W.Frag} {F F' H H' : Hp} {σ : St} {B : Addr → Prop} {env env' : En} {As As' : List (List Addr)}
theorem IR.frame {is vs a} (r : IR K F H σ is vs a) (e : Same F F') (k : ∀ x ∈ a, H' x = H x) : IR K F' H' σ is vs a := by
  induction r with
  | nil => exact .nil
  | val x r ih => exact .val (x.frame e fun y hy => k y (List.mem_append_left _ hy)) (ih fun y hy => k y (List.mem_append_right _ hy))
  | ref x r ih => exact .ref x (ih k)
theorem TI.keep {a is vs d v a2} {p : Bool} (t : TO K F H B As d v a) (s : PostE K p F H (Bx B a) env σ As F' H' env' As') (u : TI K F' H' (Bx B a) σ As' is vs a2) : TI K F' H' B σ As' (.val d :: is) (v :: vs) (a ++ a2) := by
  have t' := t.keep s
  have ap : ∀ x ∈ a2, x ∉ a := fun x hx z => u.nb x hx (.inr z)
  refine ⟨.val t'.rep u.rep, ?_, fun x hx => (List.mem_append.mp hx).elim (t'.fr x) (u.fr x), fun x hx => (List.mem_append.mp hx).elim (t'.nb x) fun z hb => u.nb x z (.inl hb)⟩
  rw [List.append_assoc]
  have h1 := List.nodup_append.mp t'.nd
  refine List.nodup_append.mpr ⟨h1.1, u.nd, fun x hx y hy e => ?_⟩
  subst e
  rcases List.mem_append.mp hy with hy | hy
  · exact ap x hy hx
  · exact h1.2.2 x hx x hy rfl
end
section
variable {X : Cx} {p : Bool} {e : Expr} {es : List Expr} {we : WE} {wc : WC} {pos : Pos}
def cNil : WC := fun env R => R [] env
def cVal (we : WE) (wc : WC) : WC := fun env R => we env fun d e1 => wc e1 fun is e2 => R (.val d :: is) e2
def cRef (i : Nat) (wc : WC) : WC := fun env R => (∃ d, env[i]? = some (some d)) ∧ wc env fun is e2 => R (.ref i :: is) e2
theorem dc_nil : DC X [] cNil := ⟨PAimp pa_nil fun σ H Q ⟨F, B, env, As, R, s, hw, k⟩ => k [] H F As [] [] env (.refl s) ⟨.nil, by simpa using s.nd, (fun _ z => nomatch z), (fun _ z => nomatch z)⟩ hw⟩
theorem dc_val (h : DE p X e we) (hs : DC X es wc) (st : starEach (e :: es) X.env = (false, eval e X.env) :: starEach es X.env := by rfl) : DC X (e :: es) (cVal we wc) := by
  refine ⟨PAimp (pa_cons h.pe hs.pa st) ?_⟩
  rintro σ H Q ⟨F, B, env, As, R, s, hw, k⟩
  refine ⟨F, B, env, As, _, s, hw, fun v H1 F1 As1 a d e1 po1 t1 h1 => ?_⟩
  refine ⟨F1, Bx B a, e1, As1, _, po1.so.push t1, h1, fun vs H2 F2 As2 b is e2 po2 t2 h2 => ?_⟩
  exact k _ H2 F2 As2 (a ++ b) _ e2 (po1.weak.trans po2.pop) (.keep t1 po2 t2) h2
theorem dc_ref {i : Nat} (h : PE X e (tVar i)) (hs : DC X es wc) (st : starEach (e :: es) X.env = (false, eval e X.env) :: starEach es X.env := by rfl) : DC X (e :: es) (cRef i wc) := by
  refine ⟨PAimp (pa_cons h hs.pa st) ?_⟩
  rintro σ H Q ⟨F, B, env, As, R, s, ⟨⟨d, hd⟩, hw⟩, k⟩
  obtain ⟨v, a, h1, h2, h3⟩ := s.env.get hd
  refine ⟨v, h1, F, B, env, As, _, s, hw, fun vs H2 F2 As2 b is e2 po2 t2 h2 => ?_⟩
  exact k _ H2 F2 As2 b _ e2 po2 ⟨.ref h1 t2.rep, t2.nd, t2.fr, t2.nb⟩ h2
end
/-- the arguments' data, the lent ones taken out of their slots -/
def takeA : En → List AV → Option (List D × En)
  | env, [] => some ([], env)
  | env, .val d :: r => (takeA env r).map fun q => (d :: q.1, q.2)
  | env, .ref i :: r => match env[i]? with
    | some (some d) => (takeA (env.set i none) r).map fun q => (d :: q.1, q.2)
    | _ => none
/-- the lent ones given back -/
def putA : En → List AV → En → En
  | env, .val _ :: r, _ :: os => putA env r os
  | env, .ref i :: r, o :: os => putA (env.set i o) r os
  | env, _, _ => env
section
variable {K : PySem.W.Frag} {F F' H H' : Hp} {σ : St} {B : Addr → Prop} {env env' : En} {As As' : List (List Addr)}
def Lent : List AV → List Nat
  | [] => []
  | .val _ :: r => Lent r
  | .ref i :: r => i :: Lent r
/-- the callee's entry -/
theorem take_ok : ∀ {is : List AV} {vs : List V} {a : List Addr} {env : En} {As : List (List Addr)} {ds : List D} {e2 : En}, SO K F H B env σ As → TI K F H B σ As is vs a → takeA env is = some (ds, e2) →
    ∃ As2 AA, SO K F H B e2 σ As2 ∧ EnvR K F H (ds.map some) (vs.map some) AA ∧ (AA.flatten ++ As2.flatten).Nodup ∧ (∀ x ∈ AA.flatten, F x = none ∧ ¬ B x) ∧
      (∀ x ∈ As2.flatten, x ∈ As.flatten) ∧ (∀ x ∈ AA.flatten, x ∈ a ∨ x ∈ As.flatten) ∧ (Lent is).Nodup ∧ (∀ i ∈ Lent is, As2[i]? = some [] ∧ ∃ d, env[i]? = some (some d)) ∧ (∀ i : Nat, As[i]? = some [] → As2[i]? = some []) := by
  intro is
  induction is with
  | nil =>
    intro vs a env As ds e2 s t h
    simp only [takeA, Option.some.injEq, Prod.mk.injEq] at h
    obtain ⟨rfl, rfl⟩ := h
    have := t.rep
    cases this
    exact ⟨As, [], s, .nil, by simpa using s.nd, (fun _ z => nomatch z), fun _ z => z, (fun _ z => nomatch z), .nil, (fun _ z => nomatch z), fun _ z => z⟩
  | cons x is ih =>
    intro vs a env As ds e2 s t h
    cases x with
    | val d =>
      simp only [takeA, Option.map_eq_some_iff] at h
      obtain ⟨⟨ds', e2'⟩, h1, h2⟩ := h
      simp only [Prod.mk.injEq] at h2
      obtain ⟨rfl, rfl⟩ := h2
      have tr := t.rep
      cases tr with
      | @val _ v a1 _ vs b r1 r2 =>
        have nd := t.nd
        rw [List.append_assoc] at nd
        have n1 := List.nodup_append.mp nd
        obtain ⟨As2, AA, q1, q2, q3, q4, q5, q6, q7, q8, q9⟩ := ih s ⟨r2, n1.2.1, fun x hx => t.fr x (List.mem_append_right _ hx), fun x hx => t.nb x (List.mem_append_right _ hx)⟩ h1
        refine ⟨As2, a1 :: AA, q1, .val r1 q2, ?_, fun x hx => ?_, q5, fun x hx => ?_, q7, q8, q9⟩
        · rw [List.flatten_cons, List.append_assoc]
          refine List.nodup_append.mpr ⟨n1.1, q3, fun x hx y hy e => ?_⟩
          subst e
          rcases List.mem_append.mp hy with z | z
          · rcases q6 x z with w | w
            · exact n1.2.2 x hx x (List.mem_append_left _ w) rfl
            · exact n1.2.2 x hx x (List.mem_append_right _ w) rfl
          · exact n1.2.2 x hx x (List.mem_append_right _ (q5 x z)) rfl
        · rw [List.flatten_cons] at hx
          rcases List.mem_append.mp hx with z | z
          · exact ⟨t.fr x (List.mem_append_left _ z), t.nb x (List.mem_append_left _ z)⟩
          · exact q4 x z
        · rw [List.flatten_cons] at hx
          rcases List.mem_append.mp hx with z | z
          · exact .inl (List.mem_append_left _ z)
          · exact (q6 x z).imp (List.mem_append_right _) id
    | ref i =>
      simp only [takeA] at h
      split at h
      · rename_i d hd
        simp only [Option.map_eq_some_iff] at h
        obtain ⟨⟨ds', e2'⟩, h1, h2⟩ := h
        simp only [Prod.mk.injEq] at h2
        obtain ⟨rfl, rfl⟩ := h2
        have tr := t.rep
        cases tr with
        | @ref _ v _ vs _ hv r2 =>
          obtain ⟨v', a1, g1, g2, s1, t1⟩ := s.take hd
          rw [hv] at g1; cases g1
          have pm := flat_at As i a1 g2
          have sub1 : ∀ x ∈ (As.set i []).flatten, x ∈ As.flatten := fun x hx => pm.mem_iff.mpr (List.mem_append_right _ hx)
          have n := List.nodup_append.mp t.nd
          obtain ⟨As2, AA, q1, q2, q3, q4, q5, q6, q7, q8, q9⟩ := ih s1 ⟨r2, List.nodup_append.mpr ⟨n.1, s1.nd, fun x hx y hy => n.2.2 x hx y (sub1 y hy)⟩, t.fr, t.nb⟩ h1
          have hi : As2[i]? = some [] := q9 i (s.emptied (s.lt hd))
          refine ⟨As2, a1 :: AA, q1, .val t1.rep q2, ?_, fun x hx => ?_, fun x hx => sub1 x (q5 x hx), fun x hx => ?_, ?_, fun j hj => ?_, fun j hj => q9 j ?_⟩
          · rw [List.flatten_cons, List.append_assoc]
            have n1 := List.nodup_append.mp t1.nd
            refine List.nodup_append.mpr ⟨n1.1, q3, fun x hx y hy e => ?_⟩
            subst e
            rcases List.mem_append.mp hy with z | z
            · rcases q6 x z with w | w
              · exact n.2.2 x w x (pm.mem_iff.mpr (List.mem_append_left _ hx)) rfl
              · exact n1.2.2 x hx x w rfl
            · exact n1.2.2 x hx x (q5 x z) rfl
          · rw [List.flatten_cons] at hx
            rcases List.mem_append.mp hx with z | z
            · exact ⟨t1.fr x z, t1.nb x z⟩
            · exact q4 x z
          · rw [List.flatten_cons] at hx
            rcases List.mem_append.mp hx with z | z
            · exact .inr (pm.mem_iff.mpr (List.mem_append_left _ z))
            · exact (q6 x z).imp id (sub1 x)
          · refine List.nodup_cons.mpr ⟨fun z => ?_, q7⟩
            obtain ⟨_, d', e⟩ := q8 i z
            have := s.lt hd
            have hl := s.env.len.2
            rw [List.getElem?_set_self (by omega)] at e
            cases e
          · rcases List.mem_cons.mp hj with rfl | hj
            · exact ⟨hi, d, hd⟩
            · obtain ⟨w1, d', w2⟩ := q8 j hj
              by_cases hji : i = j
              · subst hji; exact ⟨w1, d, hd⟩
              · rw [List.getElem?_set_ne hji] at w2
                exact ⟨w1, d', w2⟩
          · by_cases hji : i = j
            · subst hji; exact s.emptied (s.lt hd)
            · rw [List.getElem?_set_ne hji]; exact hj
      · cases h
/-- behind the call -/
theorem put_ok : ∀ {is : List AV} {vs : List V} {a : List Addr} {env os : En} {As AA : List (List Addr)}, SO K F H B env σ As → (Lent is).Nodup → (∀ i ∈ Lent is, As[i]? = some []) → IR K F' H' σ is vs a → EnvR K F H os (vs.map some) AA →
    (AA.flatten ++ As.flatten).Nodup → (∀ x ∈ AA.flatten, F x = none ∧ ¬ B x) → ∃ As', SO K F H B (putA env is os) σ As' ∧ ∀ x ∈ As'.flatten, x ∈ As.flatten ∨ x ∈ AA.flatten := by
  intro is
  induction is with
  | nil =>
    intro vs a env os As AA s _ _ _ _ _ _
    refine ⟨As, ?_, fun x hx => .inl hx⟩
    unfold putA
    exact s
  | cons x is ih =>
    intro vs a env os As AA s nl he ir ro nd hf
    cases x with
    | val d =>
      cases ir with
      | @val _ v a1 _ vs b r1 r2 =>
        cases ro with
        | @emp os _ AA _ ro =>
          obtain ⟨As', q1, q2⟩ := ih s nl he r2 ro (by simpa using nd) (by simpa using hf)
          exact ⟨As', q1, fun x hx => by simpa using q2 x hx⟩
        | @val d' _ A0 os _ AA x ro =>
          rw [List.flatten_cons, List.append_assoc] at nd
          obtain ⟨As', q1, q2⟩ := ih s nl he r2 ro (List.nodup_append.mp nd).2.1 fun x hx => hf x (by rw [List.flatten_cons]; exact List.mem_append_right _ hx)
          exact ⟨As', q1, fun x hx => (q2 x hx).imp id fun z => by rw [List.flatten_cons]; exact List.mem_append_right _ z⟩
    | ref i =>
      have hi := he i (List.mem_cons_self ..)
      have nl2 := List.nodup_cons.mp nl
      cases ir with
      | @ref _ v _ vs _ hv r2 =>
        cases ro with
        | @emp os _ AA _ ro =>
          have s1 := s.drop i
          have e1 : As.set i [] = As := set_self As i [] hi
          rw [e1] at s1
          obtain ⟨As', q1, q2⟩ := ih s1 nl2.2 (fun j hj => he j (List.mem_cons_of_mem _ hj)) r2 ro (by simpa using nd) (by simpa using hf)
          exact ⟨As', q1, fun x hx => by simpa using q2 x hx⟩
        | @val d' _ A0 os _ AA x ro =>
          rw [List.flatten_cons, List.append_assoc] at nd
          have n1 := List.nodup_append.mp nd
          have n2 := List.nodup_append.mp n1.2.1
          have ap : (A0 ++ As.flatten).Nodup := List.nodup_append.mpr ⟨n1.1, n2.2.1, fun x hx y hy => n1.2.2 x hx y (List.mem_append_right _ hy)⟩
          have s1 := s.put hi ⟨x, ap, fun y hy => (hf y (by simp [hy])).1, fun y hy => (hf y (by simp [hy])).2⟩ hv
          have pm := flat_set As i A0 (List.getElem?_eq_some_iff.mp hi).1
          rw [set_self As i [] hi] at pm
          obtain ⟨As', q1, q2⟩ := ih s1 nl2.2 (fun j hj => by
              rw [List.getElem?_set_ne (fun z : i = j => nl2.1 (z ▸ hj))]; exact he j (List.mem_cons_of_mem _ hj)) r2 ro (by
              refine List.nodup_append.mpr ⟨n2.1, pm.nodup_iff.mpr ap, fun x hx y hy e => ?_⟩
              subst e
              rcases List.mem_append.mp (pm.mem_iff.mp hy) with z | z
              · exact n1.2.2 x z x (List.mem_append_left _ hx) rfl
              · exact n2.2.2 x hx x z rfl) fun x hx => hf x (by rw [List.flatten_cons]; exact List.mem_append_right _ hx)
          refine ⟨As', q1, fun x hx => ?_⟩
          rw [List.flatten_cons]
          rcases q2 x hx with z | z
          · rcases List.mem_append.mp (pm.mem_iff.mp z) with w | w
            · exact .inr (List.mem_append_left _ w)
            · exact .inl w
          · exact .inr (List.mem_append_right _ z)
end
/-! ### what a def is, by data -/
abbrev WF := List D → (D → En → Prop) → Prop
/-- the promise of a def -/
def spD (K : PySem.W.Frag) (w : WF) : Sp := fun vs H Q _ => ∃ F B ds As R, SO K F H B (ds.map some) (vs.map some) As ∧ w ds R ∧
  ∀ v H' F' As' a r ds', PostE K false F H B (ds.map some) (vs.map some) As F' H' ds' As' → TO K F' H' B As' r v a → R r ds' → Q v H'
def wCall (f : WF) (wc : WC) : WE := fun env R => wc env fun is e1 => match takeA e1 is with
  | some (ds, e2) => f ds fun r ds' => R r (putA e2 is ds')
  | none => False
theorem IR.length {K : PySem.W.Frag} {F H : Hp} {σ : St} {is vs a} (r : IR K F H σ is vs a) : is.length = vs.length := by
  induction r with
  | nil => rfl
  | val _ _ ih => simp [ih]
  | ref _ _ ih => simp [ih]
theorem call_at {K : PySem.W.Frag} {f : WF} {E : XK} {F H : Hp} {B : Addr → Prop} {env : En} {σ : St} {As : List (List Addr)} {is : List AV} {vs : List V} {a : List Addr} {R : D → En → Prop} {Q : VK} (so : SO K F H B env σ As) (t1 : TI K F H B σ As is vs a)
    (h1 : match takeA env is with | some (ds, e2) => f ds fun r ds' => R r (putA e2 is ds') | none => False)
    (k : ∀ v H' F' As' c r env', PostE K false F H B env σ As F' H' env' As' → TO K F' H' B As' r v c → R r env' → Q v H') : spD K f vs H Q E := by
  split at h1
  · rename_i ds e2 ht
    obtain ⟨As2, AA, q1, q2, q3, q4, q5, q6, q7, q8, q9⟩ := take_ok so t1 ht
    have n3 := List.nodup_append.mp q3
    have sc : SO K F H (fun x => B x ∨ x ∈ As2.flatten) (ds.map some) (vs.map some) AA := by
      refine ⟨so.same, q2, n3.1, fun x hx => (q4 x hx).1, fun b hb => ?_⟩
      rcases hb with hb | hb
      · obtain ⟨k1, k2, k3⟩ := q1.out b hb
        exact ⟨k1, k2, fun z => (q4 b z).2 hb⟩
      · refine ⟨q1.fr b hb, ?_, fun z => n3.2.2 b z b hb rfl⟩
        by_cases hz : ∃ o, H b = some o
        · exact hz
        · exact absurd hb (q1.notAs (by cases e : H b with
            | none => rfl
            | some o => exact absurd ⟨o, e⟩ hz))
    refine ⟨F, _, ds, AA, _, sc, h1, fun v H2 F2 AA2 c r ds' po2 t2 h2 => ?_⟩
    have kA : ∀ x ∈ As2.flatten, H2 x = H x := fun x hx => po2.keep x (.inr hx)
    have s2 : SO K F2 H2 B e2 σ As2 := by
      refine ⟨po2.so.same, q1.env.frame po2.ext kA, q1.nd, fun x hx => (po2.so.out x (.inr hx)).1, fun b hb => ?_⟩
      obtain ⟨k1, k2, k3⟩ := po2.so.out b (.inl hb)
      exact ⟨k1, k2, (q1.out b hb).2.2⟩
    have ndd : (AA2.flatten ++ As2.flatten).Nodup := List.nodup_append.mpr ⟨po2.so.nd, q1.nd, fun x hx y hy e => (po2.so.out y (.inr hy)).2.2 (e ▸ hx)⟩
    obtain ⟨As3, s3, sub⟩ := put_ok s2 q7 (fun i hi => (q8 i hi).1) t1.rep po2.so.env ndd fun x hx => ⟨po2.so.fr x hx, fun hb => (po2.so.out x (.inl hb)).2.2 hx⟩
    refine k v H2 F2 As3 c r _ ⟨po2.ext, s3, fun b hb => po2.keep b (.inl hb), fun z => Bool.noConfusion z⟩ ⟨t2.rep, ?_, t2.fr, fun x hx hb => t2.nb x hx (.inl hb)⟩ h2
    have nt := List.nodup_append.mp t2.nd
    refine List.nodup_append.mpr ⟨nt.1, s3.nd, fun x hx y hy e => ?_⟩
    subst e
    rcases sub x hy with z | z
    · exact t2.nb x hx (.inr z)
    · exact nt.2.2 x hx x z rfl
  · exact h1.elim
theorem call_lift {K : PySem.W.Frag} {f : WF} {wc : WC} {E : XK} : ∀ σ H Q, liftE K false (wCall f wc) σ H Q → tCall (spD K f) [] E (liftC K wc) σ H Q := by
  rintro σ H Q ⟨F, B, env, As, R, s, hw, k⟩
  refine ⟨F, B, env, As, _, s, hw, fun vs H1 F1 As1 a is e1 po1 t1 h1 => ?_⟩
  show spD K f (vs ++ []) H1 Q E
  rw [List.append_nil]
  exact call_at po1.so t1 h1 fun v H' F' As' c r env' po t h => k v H' F' As' c r env' (po1.trans po) t h
/-- a def's promise, where no repr is under way: as the layer's own FnOk, with that one fact more of what runs around -/
structure FnG (P : Program) (w : World) (K : PySem.W.Frag) (mg : Str → Option Value) (base : Heap) (CX : CXT) (k : Nat) (f : Addr) (fd : FuncData) (ps : List Str) (sp : Sp) : Prop where
  len : ∀ vs H Q E, sp vs H Q E → vs.length = ps.length
  go : ∀ (A : Around), Room k A → A.guards = some [] → ∀ (outer : List Env) (s : Shared) (H : Hp), Env0 P w K mg base A outer s H → ∀ (args : Args) (us : List Value) (vs : List V), BindsTo s fd args (ps.zip us) → Vals vs us →
    ∀ (Q : VK) (E : XK), sp vs H Q E → codeAny (model P w) A (.call (.ref f) args) (CR CX outer P w H s Q E) s
theorem FnG.mono {P : Program} {w : World} {K : PySem.W.Frag} {mg : Str → Option Value} {base : Heap} {CX : CXT} {j k : Nat} {f : Addr} {fd : FuncData} {ps : List Str} {sp : Sp} (G : FnG P w K mg base CX j f fd ps sp) (h : j ≤ k) : FnG P w K mg base CX k f fd ps sp :=
  ⟨G.len, fun A hr => G.go A (hr.mono h)⟩
theorem FnG.imp {P : Program} {w : World} {K : PySem.W.Frag} {mg : Str → Option Value} {base : Heap} {CX : CXT} {k : Nat} {f : Addr} {fd : FuncData} {ps : List Str} {sp sp' : Sp} (G : FnG P w K mg base CX k f fd ps sp) (h : ∀ vs H Q E, sp' vs H Q E → sp vs H Q E) :
    FnG P w K mg base CX k f fd ps sp' := ⟨fun vs H Q E q => G.len vs H Q E (h _ _ _ _ q), fun A hr hg outer s H e0 args us vs hb rv Q E q => G.go A hr hg outer s H e0 args us vs hb rv Q E (h _ _ _ _ q)⟩
section
variable {X : Cx} {CX : CXT} {k : Nat} {f : Addr} {fd : FuncData} {ps : List Str} {x : Str} {q pos : Pos} {e : Expr} {es : List Expr} {w : WF} {wc : WC} {sp : Sp} {E : XK} {dvs : List V} {dfs : List Value} {ta : TA}
open PySem.Spec PyProof.Rows in
/-- it runs -/
theorem FnG.run (G : FnG X.prog X.w X.K X.mg X.base CX k f fd ps sp) (hr : Room k X.A) (hg : X.A.guards = some []) (hb : Binds X.K fd ps dfs) (hd : Vals dvs dfs) (hx : Passes CX X E) {pins : List (Addr × Obj)} {σ : L2.St} {H : Hp} {s : Shared} {us : List Value} {vs : List V} {Q : VK}
    (I : Inv X pins σ H s) (rv : Vals vs us) (h : sp (vs ++ dvs) H Q E) : wpAny (model X.prog X.w) X.A (call (.ref f) us) (EP X pins σ Q) X.xe s := by
  have rv2 := rv.append hd
  have bound := hb s us I.kIn (rv2.length ▸ G.len _ _ _ _ h)
  refine wpAny_call (codeAny_mono (G.go X.A hr hg X.stack s H I.env0 _ _ _ bound rv2 Q E h) ?_)
  rintro (e | fl) s' done
  · exact hx pins σ H s e s' I done
  · cases fl with
    | ret u => exact I.after done
    | _ => exact done.elim
open PySem.Spec PyProof.Rows in
theorem peg_call (G : FnG X.prog X.w X.K X.mg X.base CX k f fd ps sp) (hr : Room k X.A) (hgd : X.A.guards = some []) (hg : Gl X x) (hm : X.mg x = some (.ref f)) (hk : PySem.W.keepIn X.K (.ref f) = true) (hb : Binds X.K fd ps dfs) (hd : Vals dvs dfs) (hx : Passes CX X E) (ha : PA X (e :: es) ta)
    (hdb : (x == ("__debug__" : Str)) = false := by decide) (he : starEach (e :: es) X.env = (false, eval e X.env) :: starEach es X.env := by rfl) (hpl : (backTo pos (starEach es X.env)).any (·.1) = false := by rfl) :
    PE X (.Call (.Name x q) (e :: es) [] pos) (tCall sp dvs E ta) :=
  ⟨fun pins s σ H Q I h => wpAny_Call_Name_kw (ld_glob I hg hm (PySem.W.callWith_K (h₀ := X.base) I.ok.mod.kin hk (thn (ha.run pos pins s σ H _ I h) fun us s1 ⟨vs, H1, I1, rv, q⟩ => ⟨I1.kIn, G.run hr hgd hb hd hx I1 rv q⟩) he hpl) hdb)⟩
/-- f(e, ..), every parameter given by place -/
theorem de_call (G : FnG X.prog X.w X.K X.mg X.base CX0 k f fd ps (spD X.K w)) (hr : Room k X.A) (hgd : X.A.guards = some []) (hg : Gl X x) (hm : X.mg x = some (.ref f)) (hk : PySem.W.keepIn X.K (.ref f) = true) (hb : Binds X.K fd ps []) (ha : DC X (e :: es) wc)
    (hdb : (x == ("__debug__" : Str)) = false := by decide) (he : starEach (e :: es) X.env = (false, eval e X.env) :: starEach es X.env := by rfl) (hpl : (backTo pos (starEach es X.env)).any (·.1) = false := by rfl) :
    DE false X (.Call (.Name x q) (e :: es) [] pos) (wCall w wc) :=
  ⟨PEimp (peg_call G hr hgd hg hm hk hb .nil pass0 ha.pa hdb he hpl) call_lift⟩
end
open PySem.Spec PyProof.Rows in
/-- a def of the text, by its body -/
theorem fng_of {CX : CXT} {P : Program} {w : World} {K : PySem.W.Frag} {mg : Str → Option Value} {base : Heap} {k : Nat} {f : Addr} {fd : FuncData} {name qual : Str} {params : Arguments} {body : List Stmt} {sc : Scope} {dV kV doc pm cdv ct oc : Value} {an od : Option Addr}
    {osl : Array (Option Value)} {N ps : List Str} {sp : Sp} (hfd : fd = PySem.W.fnOf name qual params body sc dV kV doc pm an cdv ct) (lk : K.lookup f = some ⟨oc, od, .func fd, osl⟩) (hcd : PySem.W.codeIn K cdv qual = true) (S : FnScope N ps sc)
    (len : ∀ vs H Q E, sp vs H Q E → vs.length = ps.length)
    (hbody : ∀ (A : Around) (outer : List Env) (s : Shared) (H : Hp) (vs : List V) (Q : VK) (E : XK), Room k (A.deeper (PyProof.Rows.envOfC qual sc s.heap.objs.size f cdv)) → A.guards = some [] → sp vs H Q E →
      ∃ t, PSs (cxOf CX P w K mg base N qual sc f cdv A outer s H E) body t ∧ t { nx := fun _ H' => Q .non H', rt := Q } (L2.start N vs) H) : FnG P w K mg base CX (k + 1) f fd ps sp := by
  subst hfd
  refine ⟨len, fun A hr hg outer s H e0 args us vs hb rv Q E h => ?_⟩
  have keeps : ∀ b o, base.get? b = some o → s.heap.get? b = some o := fun b o e => (e0.bs b o e).1
  have KX := e0.mod.kin.keeps keeps
  have par : ∀ y ∈ ps.zip us, sc.names.lookup y.1 = some .local ∨ (sc.names.lookup y.1 = some .cell ∧ ((cellsFrom (s.heap.objs.size + 1) sc.names []).lookup y.1).isSome = true) := by
    rintro ⟨n, v⟩ hy
    exact (S.par n (List.of_mem_zip hy).1).imp id fun z => ⟨z, PySem.W.cellsFrom_some _ _ _ (.inl z)⟩
  refine codeAny_call_function hr.depth (KX _ _ lk) rfl S.co S.gen rfl (PySem.W.codeRec_of KX hcd) (hb _ _ _ _ (wpAny_newFunctionEnv_cells S.kind par ?_))
  rintro env rfl s1 ent
  refine ⟨(e0.mod.nolimit.keeps keeps).keeps ent.toInCall.keep, codeAny_func ?_⟩
  obtain ⟨t, ht, reading⟩ := hbody A outer s H vs Q E (hr.deeper _) hg h
  have I0 : Inv (cxOf CX P w K mg base N qual sc f cdv A outer s H E) [] (L2.start N vs) H s1 := inv_start S hr.hd e0 (len _ _ _ _ h) rv ent
  have out : ∀ {σ' : L2.St} {H' : Hp} {s' : Shared} {v : V} {u : Value}, Inv (cxOf CX P w K mg base N qual sc f cdv A outer s H E) [] σ' H' s' → RelV v u → Q v H' → CE outer P w H s Q u s' := fun J r q => ⟨_, _, J.os, J.bare, J.base, J.hok, r, q⟩
  refine wpAny_mono (ht.run [] s1 _ H _ I0 reading) ?_ fun _ _ z => z
  rintro (_ | u | _ | _) s' done
  all_goals first
    | (obtain ⟨v, σ', H', J, r, q⟩ := done; exact out J r q)
    | (obtain ⟨σ', H', J, q⟩ := done; exact out (v := V.non) (u := Value.none) J rfl q)
    | (obtain ⟨_, _, _, q⟩ := done; exact q.elim)
/-! ### a def by its body -/
/-- what its parameters hold at the end: mask tells which it never stores -/
def parm (mask : List Bool) (env : En) : En := List.zipWith (fun (b : Bool) o => if b = true then o else none) mask env
def fnW (mask : List Bool) (loc : Nat) (wb : WS) : WF := fun ds R => ds.length = mask.length ∧ wb (ds.map some ++ List.replicate loc none) ⟨fun env => R .non (parm mask env), fun r env => R r (parm mask env), fun _ => False, fun _ => False⟩
/-- the parameters that it never stores, by their places -/
def keptOf (mask : List Bool) : List Nat := (List.range mask.length).filter fun i => mask.getD i false
section
variable {K : PySem.W.Frag} {F F' H H' : Hp} {σ : St} {B : Addr → Prop} {env env' : En} {As As' : List (List Addr)}
theorem parm_env : ∀ {mask : List Bool} {vs : List V} {env : En} {σ : St} {As : List (List Addr)}, EnvR K F H env σ As → mask.length = vs.length → vs.length ≤ σ.length → (∀ i : Nat, mask[i]? = some true → σ[i]? = (vs.map some)[i]?) →
    ∃ As', EnvR K F H (parm mask env) (vs.map some) As' ∧ As'.flatten.Sublist As.flatten := by
  intro mask
  induction mask with
  | nil =>
    intro vs env σ As r hl _ _
    cases vs with
    | nil => exact ⟨[], .nil, List.nil_sublist _⟩
    | cons _ _ => simp at hl
  | cons b mask ih =>
    intro vs env σ As r hl hs h
    cases vs with
    | nil => simp at hl
    | cons v vs =>
      cases r with
      | nil => simp at hs
      | @emp es σ As o r =>
        obtain ⟨As', q1, q2⟩ := ih r (by simpa using hl) (by simpa using hs) fun i hi => by simpa using h (i + 1) (by simpa using hi)
        refine ⟨[] :: As', ?_, by simpa using q2⟩
        unfold parm
        simp only [List.zipWith_cons_cons, ite_self]
        exact .emp q1
      | @val d w A es σ As x r =>
        obtain ⟨As', q1, q2⟩ := ih r (by simpa using hl) (by simpa using hs) fun i hi => by simpa using h (i + 1) (by simpa using hi)
        cases b with
        | true =>
          have h0 := h 0 (by simp)
          simp at h0
          subst h0
          refine ⟨A :: As', ?_, by simpa using List.Sublist.append_left q2 A⟩
          unfold parm
          simp only [List.zipWith_cons_cons, if_true]
          exact .val x q1
        | false =>
          refine ⟨[] :: As', ?_, ?_⟩
          · unfold parm
            simp only [List.zipWith_cons_cons]
            exact .emp q1
          · simpa using q2.trans (List.sublist_append_right _ _)
theorem envR_pad {es : En} {σ : St} {As : List (List Addr)} (r : EnvR K F H es σ As) : ∀ n : Nat, EnvR K F H (es ++ List.replicate n none) (σ ++ List.replicate n none) (As ++ List.replicate n []) := by
  have pad : ∀ n : Nat, EnvR K F H (List.replicate n none) (List.replicate n none) (List.replicate n []) := fun n => by
    induction n with
    | zero => exact .nil
    | succ n ih => exact .emp ih
  intro n
  induction r with
  | nil => exact pad n
  | emp r ih => exact .emp ih
  | val x r ih => exact .val x ih
theorem flat_pad (As : List (List Addr)) (n : Nat) : (As ++ List.replicate n []).flatten = As.flatten := by
  rw [List.flatten_append, List.flatten_replicate_nil, List.append_nil]
end
section
variable {P : Program} {w : World} {K : PySem.W.Frag} {mg : Str → Option Value} {base : Heap}
/-- THE RULE: a def keeps the promise that its body's data tell -/
theorem fn_data {x qual : Str} {st : Stmt} {f : Addr} {fd : FuncData} {N ps : List Str} {k : Nat} {mask : List Bool} {loc : Nat} {wb : WS} (G : Fun K x qual st f fd) (S : FnScope N ps (defScope st)) (hN : N.length = mask.length + loc) (hps : ps.length = mask.length)
    (hbody : ∀ (cdv : Value) (A : Around) (outer : List Env) (s : Shared) (H : Hp) (E : XK), Room k (A.deeper (PyProof.Rows.envOfC qual (defScope st) s.heap.objs.size f cdv)) → (A.deeper (PyProof.Rows.envOfC qual (defScope st) s.heap.objs.size f cdv)).guards = some [] →
      DSs (keptOf mask) (cxOf CX0 P w K mg base N qual (defScope st) f cdv A outer s H E).nox (defBody st) wb) : FnG P w K mg base CX0 (k + 1) f fd ps (spD K (fnW mask loc wb)) := by
  obtain ⟨oc, od, kV, doc, pm, an, cdv, ct, osl, hfd, lk, hcd⟩ := G.ex
  refine fng_of hfd lk hcd S (fun vs H Q E h => ?_) (fun A outer s H vs Q E hr hgd h => ?_)
  · obtain ⟨F, B, ds, As, R, so, ⟨hl, _⟩, _⟩ := h
    have := so.env.len.1
    simp at this
    omega
  · obtain ⟨F, B, ds, As, R, so, ⟨hl, hw⟩, kk⟩ := h
    have hlv : vs.length = mask.length := by
      have := so.env.len.1
      simp at this
      omega
    refine ⟨_, (hbody cdv A outer s H E hr hgd).ps.nox, ?_⟩
    have es : L2.start N vs = vs.map some ++ List.replicate loc none := by
      unfold L2.start
      rw [hN, hlv]
      congr 2
      omega
    rw [es]
    have so' : SO K F H B (ds.map some ++ List.replicate loc none) (vs.map some ++ List.replicate loc none) (As ++ List.replicate loc []) :=
      ⟨so.same, envR_pad so.env loc, by rw [flat_pad]; exact so.nd, by rw [flat_pad]; exact so.fr, by rw [flat_pad]; exact so.out⟩
    -- the end
    have fin : ∀ {σ' H' F' As' env' r v a}, PostS K (keptOf mask) F H B (vs.map some ++ List.replicate loc none) F' H' env' σ' As' → TO K F' H' B As' r v a → R r (parm mask env') → Q v H' := fun {σ' H' F' As' env' r v a} po t h => by
      obtain ⟨As2, q1, q2⟩ := parm_env (mask := mask) (vs := vs) po.so.env hlv.symm (by rw [po.len]; simp) (fun i hi => by
        have hil : i < mask.length := (List.getElem?_eq_some_iff.mp hi).1
        rw [po.kp i (List.mem_filter.mpr ⟨List.mem_range.mpr hil, by rw [List.getD_eq_getElem?_getD, hi]; rfl⟩), List.getElem?_append_left (by rw [List.length_map]; omega)])
      have nd2 := q2.nodup po.so.nd
      refine kk v H' F' As2 a r _ ⟨po.ext, ⟨po.so.same, q1, nd2, fun x hx => po.so.fr x (q2.subset hx), fun b hb => ?_⟩, po.keep, fun z => Bool.noConfusion z⟩ (t.sub nd2 fun x hx => q2.subset hx) h
      obtain ⟨k1, k2, k3⟩ := po.so.out b hb
      exact ⟨k1, k2, fun z => k3 (q2.subset z)⟩
    exact ⟨F, B, _, _, _, so', hw, fun σ' H' F' As' env' po h => fin po (.sc po.so .non) h, fun _ _ _ _ _ _ h => h.elim, fun _ _ _ _ _ _ h => h.elim, fun v σ' H' F' As' a d env' po t h => fin po t h⟩
/-- a weaker promise -/
theorem fn_imp {k : Nat} {f : Addr} {fd : FuncData} {ps : List Str} {w1 w2 : WF} (G : FnG P w K mg base CX0 k f fd ps (spD K w1)) (h : ∀ ds R, w2 ds R → w1 ds R) : FnG P w K mg base CX0 k f fd ps (spD K w2) :=
  G.imp fun vs H Q E ⟨F, B, ds, As, R, so, hw, kk⟩ => ⟨F, B, ds, As, R, so, h ds R hw, kk⟩
end
end PL

/-! PLk: from the law's data to the law. -/
namespace PL
open PySem PySem.Spec PyProof.Rows L2

/-- the law's call, by its def's promise: H tells the script alone -/
theorem law_core {P : Program} {w : World} {K : PySem.W.Frag} {mg mb : Str → Option Value} {CX : CXT} {k : Nat} {fa a : Addr} {fd : FuncData} {x : Str} {sp : Sp} {s : Shared} {H : Hp}
    (KX : K.In s.heap) (hns : s.heap.Ns mainGlobals mg) (hb : s.heap.Ns builtinsNs mb) (hbb : ∀ x : Str, x ≠ "__name__" → mb x = bootBuiltins x) (hlim : s.heap.NoLimit) (hg : s.gens = #[]) (hr : Room k callerA)
    (F : ∀ base : Heap, K.In base → base.Ns mainGlobals mg → FnG P w K mg base CX k fa fd [x] sp) (hbind : ∀ (s : Shared) (u : Value), BindsTo s fd ⟨[u], []⟩ [(x, u)])
    (hO : Only H) (hok : HOk P w H s.heap) (hd : ∀ b o, s.heap.get? b = some o → (∃ es ep, o.data = .dict es ep) → H b = none) (hK : ∀ b o, K.lookup b = some o → H b = none)
    (hsp : sp [.ref a] H (fun v _ => v = .bl true) fun _ _ _ => False) (hCX : ∀ e s', CX [] H s (fun _ _ _ => False) e s' → False) :
    codeAny (model P w) callerA (.call (.ref fa) ⟨[.ref a], []⟩) (fun r s' => r = .ok (.ret (.bool true)) ∧ OldK s.heap s'.heap ∧ s'.os = s.os ∧ AllBare s'.gens) s := by
  have hide : ∀ {b : Addr} {m : Str → Option Value}, s.heap.Ns b m → (hidT s.heap H).Ns b m := by
    rintro b m ⟨o, es, ep, e, d, r⟩
    exact ⟨o, es, ep, hidT_get e (hd b o e ⟨es, ep, d⟩), d, r⟩
  have kin : K.In (hidT s.heap H) := fun b o e => hidT_get (KX b o e) (hK b o e)
  obtain ⟨mc, l1, l2⟩ := hlim
  have e0 : Env0 P w K mg (hidT s.heap H) callerA [] s H :=
    ⟨rfl, ⟨kin, hide hns, ⟨mb, hide hb, hbb⟩, mc, hide l1, l2⟩, fun b o e => of_hidT e, Nat.le_of_eq (hidT_size _ _), trivial, (fun b z => nomatch z), hok, .of_eq hg⟩
  have run := (F _ kin (hide hns)).go callerA hr rfl [] s H e0 ⟨[.ref a], []⟩ [.ref a] [.ref a] (hbind s (.ref a)) (.cons rfl .nil) _ _ hsp
  refine codeAny_mono run ?_
  rintro (e | fl) s' done
  · exact (hCX e s' done).elim
  · cases fl with
    | ret u =>
      obtain ⟨v, H', os, bare, un, hok', rv, rfl⟩ := done
      obtain rfl : u = Value.bool true := rv
      refine ⟨rfl, .of_keep ?_, os, bare⟩
      intro b o e
      rcases hO b with z | ⟨ob, xs, z⟩
      · exact un.keep b o e z (fun q => nomatch q) (fun q => nomatch q)
      · have h1 := (hok b _ z).1
        have h2 := (hok' b _ (un.frzs b ob _ z)).1
        rw [e] at h1
        exact h2.trans h1.symm
    | _ => exact done.elim
theorem law_callG {P : Program} {w : World} {K : PySem.W.Frag} {mg mb : Str → Option Value} {CX : CXT} {k : Nat} {fa a : Addr} {fd : FuncData} {x : Str} {sp : Sp} {s : Shared} {vs : List Value} {ns : List Int}
    (KX : K.In s.heap) (hns : s.heap.Ns mainGlobals mg) (hb : s.heap.Ns builtinsNs mb) (hbb : ∀ x : Str, x ≠ "__name__" → mb x = bootBuiltins x) (hlim : s.heap.NoLimit) (hg : s.gens = #[])
    (ha : s.heap.get? a = some { cls := .type "list", data := .seq vs.toArray }) (hi : IntsAre vs ns) (hl : ns.length ≤ sizeLine) (hr : Room k callerA)
    (F : ∀ base : Heap, K.In base → base.Ns mainGlobals mg → FnG P w K mg base CX k fa fd [x] sp) (hbind : ∀ (s : Shared) (u : Value), BindsTo s fd ⟨[u], []⟩ [(x, u)])
    (hsp : ∀ H : Hp, Only H → SqL K H a (ns.map V.int) → sp [.ref a] H (fun v _ => v = .bl true) fun _ _ _ => False) (hCX : ∀ H e s', CX [] H s (fun _ _ _ => False) e s' → False) :
    codeAny (model P w) callerA (.call (.ref fa) ⟨[.ref a], []⟩) (fun r s' => r = .ok (.ret (.bool true)) ∧ OldK s.heap s'.heap ∧ s'.os = s.os ∧ AllBare s'.gens) s := by
  have rv := vals_ints hi
  cases hk : K.lookup a with
  | some o =>
    have e := KX a o hk
    rw [ha] at e; cases e
    have ok : HOk P w (fun _ => none) s.heap := fun b u z => nomatch z
    refine law_core (H := fun _ => none) KX hns hb hbb hlim hg hr F hbind (fun _ => .inl rfl) ok (fun _ _ _ _ => rfl) (fun _ _ _ => rfl) (hsp _ (fun _ => .inl rfl) (.inr ⟨_, vs.toArray, _, hk, rfl, rfl, rfl, ?_, ?_⟩)) (hCX _)
    · rw [List.size_toArray, hi.length]; exact hl
    · exact rv
  | none =>
    let ob : Obj := { cls := .type "list", data := .seq vs.toArray }
    have at_ : ∀ b, upd (fun _ => none) a (.frz ob (.lst (ns.map V.int))) b ≠ none → b = a := fun b z => by
      by_cases h : b = a
      · exact h
      · exact absurd (upd_ne h) z
    have only : Only (upd (fun _ => none) a (.frz ob (.lst (ns.map V.int)))) := fun b => by
      by_cases h : b = a
      · subst h; exact .inr ⟨_, _, upd_same⟩
      · exact .inl (upd_ne h)
    have ok : HOk P w (upd (fun _ => none) a (.frz ob (.lst (ns.map V.int)))) s.heap := fun b u z => by
      obtain rfl := at_ b (by rw [z]; exact fun q => nomatch q)
      rw [upd_same] at z; cases z
      exact ⟨ha, by rw [List.length_map]; exact hl, vs, _, rv, ha⟩
    refine law_core (H := upd (fun _ => none) a (.frz ob (.lst (ns.map V.int)))) KX hns hb hbb hlim hg hr F hbind only ok (fun b o e => ?_) (fun b o e => ?_) (hsp _ only (.inl (.inr ⟨_, upd_same⟩))) (hCX _)
    · rintro ⟨es, ep, d⟩
      refine upd_ne fun h => ?_
      subst h
      rw [ha] at e; cases e; cases d
    · exact upd_ne fun h => by subst h; rw [hk] at e; cases e
/-- the walk of a law -/
theorem walkG {l : PySem.W.OpenLaw} {n k : Nat} {q : Program} {loose : List Str} {XP : (Str → Option Value) → Heap → Prop} {YP : World → Heap → Prop} {d : DefRec} {K : Params → PySem.W.Frag} {CX : World → CXT} {sp : World → Sp} {x : Str}
    (hn : l.most = some n) (hn2 : n ≤ sizeLine) (hdf : d.params.defaults = []) (hr : Room k callerA) (hY : ∀ (w : World) (h : Heap), YP w h → (K w.params).In h)
    (F : ∀ (w : World) (mg : Str → Option Value) (fa : Addr) (h : Heap), (K w.params).In h → h.Ns mainGlobals mg → mg d.name = some (.ref fa) → ∃ fd : FuncData, (∀ (s : Shared) (u : Value), BindsTo s fd ⟨[u], []⟩ [(x, u)]) ∧
      ∀ base : Heap, (K w.params).In base → base.Ns mainGlobals mg → FnG l.prog w (K w.params) mg base (CX w) k fa fd [x] (sp w))
    (hsp : ∀ (w : World) (H : Hp) (a : Addr) (ns : List Int), ns.length ≤ n → Only H → SqL (K w.params) H a (ns.map V.int) → sp w [.ref a] H (fun v _ => v = .bl true) fun _ _ _ => False)
    (hCX : ∀ (w : World) (H : Hp) (s : Shared) (e : Value) (s' : Shared), CX w [] H s (fun _ _ _ => False) e s' → False) : PySem.W.WalkO q loose XP YP l.row.toRowW d [] (fun f vs => PySem.call f vs) := by
  refine Att.attach_call hn hdf ?_
  intro w s₀ s₁ mg mb fa o pm cd doc a vs ns G Y ho hd hcd hmg hobj hints hlen hg
  have kin := hY w _ Y
  obtain ⟨fd, bnd, hF⟩ := F w mg fa _ kin G.T.g hmg
  exact law_callG kin G.T.g G.T.b G.T.builtins G.T.nolimit hg hobj hints (Nat.le_trans hlen hn2) hr hF bnd (fun H hO hS => hsp w H a ns hlen hO hS) fun H e s' => hCX w H s₁ e s'
/-- the law's data: the script's numbers in, True out -/
def LawOk (n : Nat) (w : WF) : Prop := ∀ ns : List Int, ns.length ≤ n → w [.obj false .sq (ns.map fun i => D.int i)] fun r _ => r = .bl true
theorem law_sp {K : PySem.W.Frag} {n : Nat} {w : WF} (h : LawOk n w) (H : Hp) (a : Addr) (ns : List Int) (hl : ns.length ≤ n) (hS : SqL K H a (ns.map V.int)) : spD K w [.ref a] H (fun v _ => v = .bl true) fun _ _ _ => False := by
  refine ⟨H, fun _ => False, _, [[]], _, ⟨Same.refl _, .val (.frz (sh := .sq) hS ?_) .nil, by simp, (fun x z => by simp at z), fun b z => z.elim⟩, h ns hl, ?_⟩
  · rw [show (ns.map fun i => D.int i) = (ns.map V.int).map D.sc from map_sc ns]
    exact RepL.sc_of _
  · rintro v H' F' As' a' r ds' _ t rfl
    exact t.rep.sc_inv.1
end PL

/-! PLl: calls by name (keywords too), isinstance, repr, truth of values, unary operators. -/
namespace PL
open PySem L2

/-! ### a def that may be called -/
structure Cal (P : Program) (w : World) (K : PySem.W.Frag) (mg : Str → Option Value) (base : Heap) (k : Nat) (x : Str) (st : Stmt) (ps : List Str) (wf : WF) : Prop where
  ex : ∃ (f : Addr) (fd : FuncData), FnG P w K mg base CX0 k f fd ps (spD K wf) ∧ mg x = some (.ref f) ∧ PySem.W.keepIn K (.ref f) = true ∧ Binds K fd ps [] ∧ Fun K x x st f fd
theorem Cal.imp {P : Program} {w : World} {K : PySem.W.Frag} {mg : Str → Option Value} {base : Heap} {k : Nat} {x : Str} {st : Stmt} {ps : List Str} {w1 w2 : WF} (C : Cal P w K mg base k x st ps w1) (h : ∀ ds R, w2 ds R → w1 ds R) : Cal P w K mg base k x st ps w2 := by
  obtain ⟨f, fd, h1, h2⟩ := C.ex
  exact ⟨f, fd, fn_imp h1 h, h2⟩
theorem Cal.mono {P : Program} {w : World} {K : PySem.W.Frag} {mg : Str → Option Value} {base : Heap} {k j : Nat} {x : Str} {st : Stmt} {ps : List Str} {w1 : WF} (C : Cal P w K mg base k x st ps w1) (h : k ≤ j) : Cal P w K mg base j x st ps w1 := by
  obtain ⟨f, fd, h1, h2⟩ := C.ex
  exact ⟨f, fd, h1.mono h, h2⟩
theorem Cal.mk' {P : Program} {w : World} {K : PySem.W.Frag} {mg : Str → Option Value} {base : Heap} {k : Nat} {x : Str} {st : Stmt} {ps : List Str} {wf : WF} {f : Addr} {fd : FuncData} (G : Fun K x x st f fd) (hm : mg x = some (.ref f)) (hb : Binds K fd ps []) (h : FnG P w K mg base CX0 k f fd ps (spD K wf)) : Cal P w K mg base k x st ps wf := ⟨f, fd, h, hm, G.kp, hb, G⟩
section
variable {X : Cx} {k j n : Nat} {x : Str} {st : Stmt} {ps ks : List Str} {q pos : Pos} {e : Expr} {es : List Expr} {kws : List Keyword} {w : WF} {wc wk : WC}
theorem de_cal (C : Cal X.prog X.w X.K X.mg X.base k x st ps w) (hr : Room j X.A) (hj : k ≤ j) (hgd : X.A.guards = some []) (hg : Gl X x) (ha : DC X (e :: es) wc)
    (hdb : (x == ("__debug__" : Str)) = false := by decide) (he : starEach (e :: es) X.env = (false, eval e X.env) :: starEach es X.env := by rfl) (hpl : (backTo pos (starEach es X.env)).any (·.1) = false := by rfl) :
    DE false X (.Call (.Name x q) (e :: es) [] pos) (wCall w wc) := by
  obtain ⟨f, fd, G, hm, hk, hb, _⟩ := C.ex
  exact de_call G (hr.mono hj) hgd hg hm hk hb ha hdb he hpl
/-! keywords -/
def pick {α : Type} (perm : List Nat) (l : List α) : List α := perm.filterMap fun i => l[i]?
/-- nothing own comes in by value -/
def plainA : List AV → Bool
  | [] => true
  | .val d :: r => d.fz && plainA r
  | .ref _ :: r => plainA r
theorem IR.plain {K : PySem.W.Frag} {F H : Hp} {σ : St} {is : List AV} {vs : List V} {a : List Addr} (r : IR K F H σ is vs a) (h : plainA is = true) : a = [] := by
  induction r with
  | nil => rfl
  | val x r ih =>
    simp only [plainA, Bool.and_eq_true] at h
    rw [x.fzNil h.1, ih h.2]; rfl
  | ref _ r ih => exact ih h
theorem IR.get {K : PySem.W.Frag} {F H : Hp} {σ : St} : ∀ {is : List AV} {vs : List V} {i : Nat}, IR K F H σ is vs [] → i < is.length → ∃ x v, is[i]? = some x ∧ vs[i]? = some v ∧ IR K F H σ [x] [v] [] := by
  intro is
  induction is with
  | nil => intro vs i r h; simp at h
  | cons x is ih =>
    intro vs i r h
    generalize hA : ([] : List Addr) = A at r
    cases r with
    | @val d v a _ vs b r1 r2 =>
      obtain ⟨rfl, rfl⟩ := List.append_eq_nil_iff.mp hA.symm
      cases i with
      | zero => exact ⟨_, _, rfl, rfl, .val (a := []) (b := []) r1 .nil⟩
      | succ i => exact ih r2 (by simpa using h)
    | @ref i' v _ vs b r1 r2 =>
      subst hA
      cases i with
      | zero => exact ⟨_, _, rfl, rfl, .ref r1 .nil⟩
      | succ i => exact ih r2 (by simpa using h)
theorem IR.cons1 {K : PySem.W.Frag} {F H : Hp} {σ : St} {x : AV} {v : V} {is : List AV} {vs : List V} (r : IR K F H σ [x] [v] []) (s : IR K F H σ is vs []) : IR K F H σ (x :: is) (v :: vs) [] := by
  generalize hA : ([] : List Addr) = A at r
  cases r with
  | val r1 r2 =>
    cases r2
    rw [List.append_nil] at hA; subst hA
    exact .val (a := []) (b := []) r1 s
  | ref r1 r2 =>
    subst hA
    exact .ref r1 s
theorem IR.pick {K : PySem.W.Frag} {F H : Hp} {σ : St} {is : List AV} {vs : List V} (r : IR K F H σ is vs []) : ∀ perm : List Nat, (∀ i ∈ perm, i < is.length) → IR K F H σ (pick perm is) (pick perm vs) []
  | [], _ => .nil
  | i :: perm, h => by
    obtain ⟨x, v, h1, h2, h3⟩ := r.get (h i (List.mem_cons_self ..))
    unfold PL.pick
    rw [List.filterMap_cons, h1, List.filterMap_cons, h2]
    exact IR.cons1 h3 (IR.pick r perm fun j hj => h j (List.mem_cons_of_mem _ hj))
theorem IR.app {K : PySem.W.Frag} {F H : Hp} {σ : St} {is js : List AV} {vs us : List V} (r : IR K F H σ is vs []) (s : IR K F H σ js us []) : IR K F H σ (is ++ js) (vs ++ us) [] := by
  generalize hA : ([] : List Addr) = A at r
  induction r with
  | nil => exact s
  | @val d v a _ vs b r1 r2 ih =>
    obtain ⟨rfl, rfl⟩ := List.append_eq_nil_iff.mp hA.symm
    exact .val (a := []) (b := []) r1 (ih rfl)
  | ref r1 r2 ih => exact .ref r1 (ih hA)
structure DCK (X : Cx) (kws : List Keyword) (w : WC) : Prop where
  pk : PK X kws (liftC X.K w)
theorem PKimp {X : Cx} {e : List Keyword} {t t' : TA} (h : PK X e t) (i : ∀ σ H Q, t' σ H Q → t σ H Q) : PK X e t' := ⟨fun pos pins s σ H Q I q => h.run pos pins s σ H Q I (i σ H Q q)⟩
theorem dck_nil : DCK X [] cNil := ⟨PKimp pk_nil fun σ H Q ⟨F, B, env, As, R, s, hw, k⟩ => k [] H F As [] [] env (.refl s) ⟨.nil, by simpa using s.nd, (fun _ z => nomatch z), (fun _ z => nomatch z)⟩ hw⟩
theorem dck_val {p : Bool} {we : WE} {nm : Option Str} {kpos : Pos} (h : DE p X e we) (hs : DCK X kws wc) : DCK X (⟨nm, e, kpos⟩ :: kws) (cVal we wc) := by
  refine ⟨PKimp (pk_cons h.pe hs.pk) ?_⟩
  rintro σ H Q ⟨F, B, env, As, R, s, hw, k⟩
  refine ⟨F, B, env, As, _, s, hw, fun v H1 F1 As1 a d e1 po1 t1 h1 => ?_⟩
  refine ⟨F1, Bx B a, e1, As1, _, po1.so.push t1, h1, fun vs H2 F2 As2 b is e2 po2 t2 h2 => ?_⟩
  exact k _ H2 F2 As2 (a ++ b) _ e2 (po1.weak.trans po2.pop) (.keep t1 po2 t2) h2
theorem dck_ref {i : Nat} {nm : Option Str} {kpos : Pos} (h : PE X e (tVar i)) (hs : DCK X kws wc) : DCK X (⟨nm, e, kpos⟩ :: kws) (cRef i wc) := by
  refine ⟨PKimp (pk_cons h hs.pk) ?_⟩
  rintro σ H Q ⟨F, B, env, As, R, s, ⟨⟨d, hd⟩, hw⟩, k⟩
  obtain ⟨v, a, h1, h2, h3⟩ := s.env.get hd
  refine ⟨v, h1, F, B, env, As, _, s, hw, fun vs H2 F2 As2 b is e2 po2 t2 h2 => ?_⟩
  exact k _ H2 F2 As2 b _ e2 po2 ⟨.ref h1 t2.rep, t2.nd, t2.fr, t2.nb⟩ h2
/-- f(e, .., k = v, ..) -/
def wCallK (n m : Nat) (perm : List Nat) (f : WF) (wc wk : WC) : WE := fun env R => wc env fun is e1 => is.length = n ∧ plainA is = true ∧ wk e1 fun js e2 => js.length = m ∧ plainA js = true ∧ (perm.all fun i => decide (i < (is ++ js).length)) = true ∧ match takeA e2 (pick perm (is ++ js)) with
  | some (ds, e3) => f ds fun r ds' => R r (putA e3 (pick perm (is ++ js)) ds')
  | none => False
def KB (K : PySem.W.Frag) (fd : FuncData) (ps : List Str) (n : Nat) (ks : List Str) (perm : List Nat) : Prop := ∀ (s : Shared) (us ws : List Value), K.In s.heap → us.length = n → ws.length = ks.length → BindsTo s fd ⟨us, ks.zip ws⟩ (ps.zip (pick perm (us ++ ws)))
theorem kb_of {K : PySem.W.Frag} {f : Addr} {fd : FuncData} {perm : List Nat} (G : Fun K x x st f fd) (h : ∀ (kV doc pm : Value) (an : Option Addr) (cdv ct : Value) (us ws : List Value), us.length = n → ws.length = ks.length →
    bindArgs (PySem.W.fnOf x x (defArgs st) (defBody st) (defScope st) .none kV doc pm an cdv ct) ⟨us, ks.zip ws⟩ = pure (ps.zip (pick perm (us ++ ws)))) : KB K fd ps n ks perm := by
  obtain ⟨oc, od, kV, doc, pm, an, cdv, ct, osl, rfl, lk, hcd⟩ := G.ex
  exact fun s us ws _ h1 h2 => .of_eq (h kV doc pm an cdv ct us ws h1 h2)
theorem valsPick {vs : List V} {us : List Value} (r : Vals vs us) : ∀ perm, Vals (pick perm vs) (pick perm us)
  | [] => .nil
  | i :: perm => by
    unfold PL.pick
    rw [List.filterMap_cons, List.filterMap_cons]
    cases h : vs[i]? with
    | none =>
      rw [r.none_of h]
      exact valsPick r perm
    | some v =>
      obtain ⟨u, h1, h2⟩ := r.get h
      rw [h1]
      exact .cons h2 (valsPick r perm)
theorem callk_core {K : PySem.W.Frag} {f : WF} {perm : List Nat} {wc wk : WC} {n m : Nat} : ∀ σ H Q, liftE K false (wCallK n m perm f wc wk) σ H Q → (liftC K wc) σ H fun vs H1 => vs.length = n ∧ (liftC K wk) σ H1 fun zs H2 => zs.length = m ∧ spD K f (pick perm (vs ++ zs)) H2 Q E0 := by
  rintro σ H Q ⟨F, B, env, As, R, s, hw, k⟩
  refine ⟨F, B, env, As, _, s, hw, fun vs H1 F1 As1 a is e1 po1 t1 ⟨hn, hp1, h1⟩ => ?_⟩
  have := t1.rep.plain hp1; subst this
  refine ⟨by rw [← t1.rep.length]; exact hn, F1, B, e1, As1, _, po1.so, h1, fun zs H2 F2 As2 b js e2 po2 t2 ⟨hm, hp2, hpm, h2⟩ => ⟨by rw [← t2.rep.length]; exact hm, ?_⟩⟩
  have := t2.rep.plain hp2; subst this
  have ir := ((t1.rep.frame po2.ext fun _ z => nomatch z).app t2.rep).pick perm (by simpa using hpm)
  have tt : TI K F2 H2 B σ As2 (pick perm (is ++ js)) (pick perm (vs ++ zs)) [] := ⟨ir, by simpa using po2.so.nd, (fun _ z => nomatch z), fun _ z => nomatch z⟩
  have po12 := po1.trans po2
  exact call_at po2.so tt h2 fun v H' F' As' c r env' po t h => k v H' F' As' c r env' (po12.trans po) t h
open PySem.Spec PyProof.Rows in
theorem peg_callK {f : Addr} {fd : FuncData} {sp : Sp} {perm : List Nat} {ta tk : TA} (G : FnG X.prog X.w X.K X.mg X.base CX0 k f fd ps sp) (hr : Room k X.A) (hgd : X.A.guards = some []) (hg : Gl X x) (hm : X.mg x = some (.ref f)) (hkp : PySem.W.keepIn X.K (.ref f) = true) (hb : KB X.K fd ps (es.length + 1) ks perm)
    (ha : PA X (e :: es) ta) (hk : PK X kws tk) (hall : (backToKw pos (keywordEach kws X.env)).all (·.1.isSome) = true := by rfl) (hks : (backToKw pos (keywordEach kws X.env)).filterMap (·.1) = ks := by rfl) (hlen : kws.length = ks.length := by rfl)
    (hdb : (x == ("__debug__" : Str)) = false := by decide) (he : starEach (e :: es) X.env = (false, eval e X.env) :: starEach es X.env := by rfl)
    (hpl : ((backTo pos (starEach (e :: es) X.env)).any (·.1) || (backToKw pos (keywordEach kws X.env)).any (·.1.isNone)) = false := by rfl) :
    PE X (.Call (.Name x q) (e :: es) kws pos) (fun σ H Q => ta σ H fun vs H1 => vs.length = es.length + 1 ∧ tk σ H1 fun zs H2 => zs.length = ks.length ∧ sp (pick perm (vs ++ zs)) H2 Q E0) := by
  refine ⟨fun pins s σ H Q I h => wpAny_Call_Name_kw (ld_glob I hg hm (PySem.W.callWith_KW (h₀ := X.base) I.ok.mod.kin hkp hall (thn (ha.run pos pins s σ H _ I h) ?_) hpl he) hdb)⟩
  rintro us s1 ⟨vs, H1, I1, rv, hl, q1⟩
  refine thn (hk.run pos pins s1 σ H1 _ I1 q1) ?_
  rintro ws s2 ⟨zs, H2, I2, rz, hlz, q2⟩
  refine ⟨I2.kIn, ?_⟩
  rw [hks]
  have rr : Vals (pick perm (vs ++ zs)) (pick perm (us ++ ws)) := valsPick (rv.append rz) perm
  refine wpAny_call (codeAny_mono (G.go X.A hr hgd X.stack s2 H2 I2.env0 ⟨us, ks.zip ws⟩ _ _ (hb s2 us ws I2.kIn (rv.length ▸ hl) (rz.length ▸ hlz)) rr Q E0 q2) ?_)
  rintro (e | fl) s' done
  · exact done.elim
  · cases fl with
    | ret u => exact I2.after done
    | _ => exact done.elim
open PySem.Spec PyProof.Rows in
theorem peg_callK0 {f : Addr} {fd : FuncData} {sp : Sp} {perm : List Nat} {tk : TA} (G : FnG X.prog X.w X.K X.mg X.base CX0 k f fd ps sp) (hr : Room k X.A) (hgd : X.A.guards = some []) (hg : Gl X x) (hm : X.mg x = some (.ref f)) (hkp : PySem.W.keepIn X.K (.ref f) = true) (hb : KB X.K fd ps 0 ks perm)
    (hk : PK X kws tk) (hall : (backToKw pos (keywordEach kws X.env)).all (·.1.isSome) = true := by rfl) (hks : (backToKw pos (keywordEach kws X.env)).filterMap (·.1) = ks := by rfl)
    (hdb : (x == ("__debug__" : Str)) = false := by decide) (hpl : ((backTo pos (starEach [] X.env)).any (·.1) || (backToKw pos (keywordEach kws X.env)).any (·.1.isNone)) = false := by rfl) :
    PE X (.Call (.Name x q) [] kws pos) (fun σ H Q => tk σ H fun zs H2 => zs.length = ks.length ∧ sp (pick perm zs) H2 Q E0) := by
  refine ⟨fun pins s σ H Q I h => wpAny_Call_Name_kw (ld_glob I hg hm (PySem.W.callWith_KW0 (h₀ := X.base) I.ok.mod.kin hkp hall (thn (hk.run pos pins s σ H _ I h) ?_) hpl) hdb)⟩
  rintro ws s2 ⟨zs, H2, I2, rz, hlz, q2⟩
  refine ⟨I2.kIn, ?_⟩
  rw [hks]
  refine wpAny_call (codeAny_mono (G.go X.A hr hgd X.stack s2 H2 I2.env0 ⟨[], ks.zip ws⟩ _ _ (hb s2 [] ws I2.kIn rfl (rz.length ▸ hlz)) (valsPick (by simpa using rz) perm) Q E0 q2) ?_)
  rintro (e | fl) s' done
  · exact done.elim
  · cases fl with
    | ret u => exact I2.after done
    | _ => exact done.elim
/-- f(e, .., k = v, ..), some given by place -/
theorem de_calK {perm : List Nat} (C : Cal X.prog X.w X.K X.mg X.base k x st ps w) (hr : Room j X.A) (hj : k ≤ j) (hgd : X.A.guards = some []) (hg : Gl X x) (ha : DC X (e :: es) wc) (hk : DCK X kws wk)
    (hbind : ∀ (kV doc pm : Value) (an : Option Addr) (cdv ct : Value) (us ws : List Value), us.length = es.length + 1 → ws.length = ks.length → bindArgs (PySem.W.fnOf x x (defArgs st) (defBody st) (defScope st) .none kV doc pm an cdv ct) ⟨us, ks.zip ws⟩ = pure (ps.zip (pick perm (us ++ ws))))
    (hall : (backToKw pos (keywordEach kws X.env)).all (·.1.isSome) = true := by rfl) (hks : (backToKw pos (keywordEach kws X.env)).filterMap (·.1) = ks := by rfl) (hlen : kws.length = ks.length := by rfl)
    (hdb : (x == ("__debug__" : Str)) = false := by decide) (he : starEach (e :: es) X.env = (false, eval e X.env) :: starEach es X.env := by rfl)
    (hpl : ((backTo pos (starEach (e :: es) X.env)).any (·.1) || (backToKw pos (keywordEach kws X.env)).any (·.1.isNone)) = false := by rfl) :
    DE false X (.Call (.Name x q) (e :: es) kws pos) (wCallK (es.length + 1) ks.length perm w wc wk) := by
  obtain ⟨f, fd, G, hm, hkp, hb, D⟩ := C.ex
  exact ⟨PEimp (peg_callK G (hr.mono hj) hgd hg hm hkp (kb_of D hbind) ha.pa hk.pk hall hks hlen hdb he hpl) callk_core⟩
theorem de_calK0 {perm : List Nat} (C : Cal X.prog X.w X.K X.mg X.base k x st ps w) (hr : Room j X.A) (hj : k ≤ j) (hgd : X.A.guards = some []) (hg : Gl X x) (hk : DCK X kws wk)
    (hbind : ∀ (kV doc pm : Value) (an : Option Addr) (cdv ct : Value) (us ws : List Value), us.length = 0 → ws.length = ks.length → bindArgs (PySem.W.fnOf x x (defArgs st) (defBody st) (defScope st) .none kV doc pm an cdv ct) ⟨us, ks.zip ws⟩ = pure (ps.zip (pick perm (us ++ ws))))
    (hall : (backToKw pos (keywordEach kws X.env)).all (·.1.isSome) = true := by rfl) (hks : (backToKw pos (keywordEach kws X.env)).filterMap (·.1) = ks := by rfl)
    (hdb : (x == ("__debug__" : Str)) = false := by decide) (hpl : ((backTo pos (starEach [] X.env)).any (·.1) || (backToKw pos (keywordEach kws X.env)).any (·.1.isNone)) = false := by rfl) :
    DE false X (.Call (.Name x q) [] kws pos) (wCallK 0 ks.length perm w cNil wk) := by
  obtain ⟨f, fd, G, hm, hkp, hb, D⟩ := C.ex
  refine ⟨PEimp (peg_callK0 G (hr.mono hj) hgd hg hm hkp (kb_of D hbind) hk.pk hall hks hdb hpl) fun σ H Q h => ?_⟩
  obtain ⟨F, B, env, As, R, s, ⟨_, _, hw⟩, kk⟩ := h
  have := callk_core (K := X.K) (f := w) (perm := perm) (wc := cNil) (wk := wk) (n := 0) (m := ks.length) σ H Q ⟨F, B, env, As, R, s, ⟨rfl, rfl, hw⟩, kk⟩
  obtain ⟨F2, B2, env2, As2, R2, s2, ⟨_, _, hw2⟩, kk2⟩ := (show liftE X.K false (wCallK 0 ks.length perm w cNil wk) σ H Q from ⟨F, B, env, As, R, s, ⟨rfl, rfl, hw⟩, kk⟩)
  refine ⟨F, B, env, As, _, s, hw, fun zs H2 F2 As2 b js e2 po2 t2 ⟨hm, hp2, hpm, h2⟩ => ⟨by rw [← t2.rep.length]; exact hm, ?_⟩⟩
  have := t2.rep.plain hp2; subst this
  have ir := t2.rep.pick perm (by simpa using hpm)
  exact call_at po2.so ⟨ir, by simpa using po2.so.nd, (fun _ z => nomatch z), fun _ z => nomatch z⟩ h2 fun v H' F' As' c r env' po t h => kk v H' F' As' c r env' (po2.trans po) t h
end

/-! ### isinstance with built-in types, repr, truth -/
def tyS : D → Option String
  | .sc .non => some "NoneType"
  | .sc (.bl _) => some "bool"
  | .sc (.int _) => some "int"
  | .sc (.str _) => some "str"
  | .tup _ => some "tuple"
  | .obj _ .lst _ => some "list"
  | .obj _ (.dK _) _ => some "dict"
  | .obj _ (.dT _) _ => some "dict"
  | _ => none
def isTy (T U : String) : Bool := T == U || (T == "bool" && U == "int")
theorem kit_all {K : PySem.W.Frag} {T U : String} (hT : T ∈ ["NoneType", "bool", "int", "str", "tuple", "list", "dict"]) (hU : U ∈ ["list", "tuple", "bool", "str", "int"]) : PySem.W.kitOne K (.type T) (.type U) = some (isTy T U) := by
  refine kit_ty ?_
  have : ∀ T ∈ ["NoneType", "bool", "int", "str", "tuple", "list", "dict"], ∀ U ∈ ["list", "tuple", "bool", "str", "int"], kitB T U = some (isTy T U) := by decide +kernel
  exact this T hT U hU
theorem tyS_mem {d : D} {T : String} (h : tyS d = some T) : T ∈ ["NoneType", "bool", "int", "str", "tuple", "list", "dict"] := by
  unfold tyS at h
  split at h <;> first | (cases h; decide) | cases h
theorem Rep.ty {K : PySem.W.Frag} {F H : Hp} {d : D} {v : V} {a : List Addr} {T : String} (r : Rep K F H d v a) (s : Same F H) (h : tyS d = some T) : TyX K H v (.type T) := by
  unfold tyS at h
  split at h
  · cases h; obtain ⟨rfl, _⟩ := r.sc_inv; exact .base .non
  · cases h; obtain ⟨rfl, _⟩ := r.sc_inv; exact .base (.bl _)
  · cases h; obtain ⟨rfl, _⟩ := r.sc_inv; exact .base (.int _)
  · cases h; obtain ⟨rfl, _⟩ := r.sc_inv; exact .base (.str _)
  · cases h
    obtain ⟨p, vs, rfl, e, _⟩ := r.tup_inv s
    rcases e with (e | ⟨o, e⟩) | ⟨o, its, n, e, c, _⟩
    · exact .base (.tup e)
    · exact .fTuple e
    · exact .kTuple e c
  · cases h; obtain ⟨p, vs, a', rfl, e, _⟩ := r.lst_inv s; exact .base (.lst e)
  · cases h
    cases r with
    | own c _ => exact .base (.dK c.1)
    | frz c _ => exact .base (.dK (s _ _ c.1))
  · cases h
    cases r with
    | own c _ => exact .base (.dT c.1)
    | frz c _ => exact .base (.dT (s _ _ c.1))
  · cases h
def rIsiAll (K : PySem.W.Frag) : List V → Hp → VK → Prop := fun xs H Q => rIsi K xs H Q ∨ rIsiT K xs H Q
theorem call_isiA {X : Cx} : CallR X (.builtin "isinstance") (rIsiAll X.K) := call_isi.or call_isiT
def rdIsi : RDA
  | [x, .sc (.ty U)], R => ∃ T, tyS x = some T ∧ U ∈ ["list", "tuple", "bool", "str", "int"] ∧ R (.bl (isTy T U))
  | [x, .tup [.sc (.ty U), .sc (.ty W)]], R => ∃ T, tyS x = some T ∧ U ∈ ["list", "tuple", "bool", "str", "int"] ∧ W ∈ ["list", "tuple", "bool", "str", "int"] ∧ R (.bl (isTy T U || isTy T W))
  | _, _ => False
theorem SqT.tup {K : PySem.W.Frag} {F H : Hp} {p : Addr} {vs : List V} (h : H p = some (.tup vs)) : True := trivial
theorem sIsi {K : PySem.W.Frag} : SndA K (fun xs H Q => rIsi K xs H Q ∨ ∃ x tp cs t us b, xs = [x, .ref tp] ∧ SqT K H tp cs ∧ Paired ClsV cs us ∧ TyX K H x t ∧ PySem.W.kitAny K t us = some b ∧ Q (.bl b) H) rdIsi := by
  intro F H B env σ As ds vs a R Q s r h k
  unfold rdIsi at h
  split at h
  · obtain ⟨T, hT, hU, h⟩ := h
    obtain ⟨v, v2, rfl, ⟨_, r1⟩, ⟨_, r2⟩⟩ := r.two_inv
    obtain ⟨rfl, _⟩ := r2.sc_inv
    exact .inl ⟨_, _, _, _, _, rfl, .ty _, r1.ty s.same hT, kit_all (tyS_mem hT) hU, out_sc s h k⟩
  · obtain ⟨T, hT, hU, hW, h⟩ := h
    obtain ⟨v, v2, rfl, ⟨_, r1⟩, ⟨_, r2⟩⟩ := r.two_inv
    obtain ⟨p, us, rfl, e, q⟩ := r2.tup_inv s.same
    obtain ⟨u1, us1, A1, A2, rfl, _, q1, q2⟩ := q.cons_inv
    obtain ⟨u2, us2, A3, A4, rfl, _, q3, q4⟩ := q2.cons_inv
    obtain ⟨rfl, _⟩ := q4.nil_inv
    obtain ⟨rfl, _⟩ := q1.sc_inv
    obtain ⟨rfl, _⟩ := q3.sc_inv
    refine .inr ⟨_, p, _, _, _, _, rfl, e, .cons (.ty _) (.cons (.ty _) .nil), r1.ty s.same hT, ?_, out_sc s h k⟩
    refine kitAny_cons (kit_all (tyS_mem hT) hU) (fun e1 => ?_) fun e1 => by rw [e1]; rfl
    rw [e1, Bool.false_or]
    exact kitAny_cons (kit_all (tyS_mem hT) hW) (fun e2 => by rw [e2]; rfl) fun e2 => by rw [e2]
  · exact h.elim
open PySem.Spec PyProof.Rows in
theorem call_isiS {X : Cx} : CallR X (.builtin "isinstance") (fun xs H Q => rIsi X.K xs H Q ∨ ∃ x tp cs t us b, xs = [x, .ref tp] ∧ SqT X.K H tp cs ∧ Paired ClsV cs us ∧ TyX X.K H x t ∧ PySem.W.kitAny X.K t us = some b ∧ Q (.bl b) H) := by
  refine CallR.or call_isi ?_
  rintro pins s σ H xs us Q I r ⟨x, tp, cs, t, ws, b, rfl, hT, k, ty, e, q⟩
  obtain ⟨u1, u2, rfl, r1, r2⟩ := vals2 r
  cases (show u2 = Value.ref tp from r2)
  obtain ⟨P, Z, p, hx⟩ := kit_of I r1 ty
  obtain ⟨its, rv, ⟨⟨oc, od, dt, sl⟩, h1, h2, n, h3⟩, _⟩ := I.tuple hT
  cases ClsV.all k rv
  cases h2; cases h3
  exact PySem.W.kia_tup Z I.kIn p h1 e hx fun tk => ⟨.bl b, H, I.tok tk, rfl, q⟩
/-- repr of a list or a tuple of data -/
def rRepr (K : PySem.W.Frag) : List V → Hp → VK → Prop := fun xs H Q => ∃ p d, xs = [.ref p] ∧ Dp K H (.ref p) d ∧ d.showable = true ∧ d.canLay0 = true ∧ d.depth ≤ 63 ∧ d.shown.length ≤ sizeLine ∧ Q (.str d.shown) H
mutual
theorem noDict : ∀ {d : PyData}, d.canLay0 = true → d.hasDict = false
  | .none, _ => rfl
  | .bool _, _ => rfl
  | .int _, _ => rfl
  | .str _, _ => rfl
  | .list xs, h => by simp only [PyData.canLay0] at h; simp only [PyData.hasDict, noDictL h]
  | .tuple xs, h => by simp only [PyData.canLay0] at h; simp only [PyData.hasDict, noDictL h]
  | .dict _, h => by simp [PyData.canLay0] at h
theorem noDictL : ∀ {ds : List PyData}, PyData.canLayAll0 ds = true → PyData.hasDictAll ds = false
  | [], _ => rfl
  | d :: ds, h => by
    simp only [PyData.canLayAll0, Bool.and_eq_true] at h
    simp only [PyData.hasDictAll, noDict h.1, noDictL h.2, Bool.or_self]
end
open PySem.Spec PyProof.Rows in
theorem call_repr {X : Cx} (hgd : X.A.guards = some []) (hu : X.A.units + 64 < cLine) : CallR X (.builtin "repr") (rRepr X.K) := by
  rintro pins s σ H xs us Q I r ⟨p, d, rfl, dp, h1, h2, h3, h4, q⟩
  obtain ⟨u, rfl, ru⟩ := r.one
  obtain rfl : u = Value.ref p := ru
  obtain ⟨as, rd⟩ := Dp.reads I d _ _ dp rfl
  exact repr_of_reads' rd h1 (fun z => by rw [noDict h2] at z; cases z) hgd (by omega) (fun _ _ e => e) (fun h' u tk hk => ⟨.str d.shown, H, I.kept hk, ⟨_, rfl⟩, q⟩) h4
def isBox : D → Bool
  | .tup _ => true
  | .obj _ .lst _ => true
  | _ => false
def rdRepr : RDA
  | [x], R => isBox x = true ∧ x.py.showable = true ∧ x.py.canLay0 = true ∧ x.py.depth ≤ 63 ∧ x.py.shown.length ≤ sizeLine ∧ R (.str x.py.shown)
  | _, _ => False
theorem sRepr {K : PySem.W.Frag} : SndA K (rRepr K) rdRepr := by
  intro F H B env σ As ds vs a R Q s r h k
  unfold rdRepr at h
  split at h
  · obtain ⟨h0, h1, h2, h3, h4, h⟩ := h
    obtain ⟨v, rfl, a', r⟩ := r.one_inv'
    have dp := (Rep.dps s.same).1 r h2
    obtain ⟨p, rfl⟩ : ∃ p, v = .ref p := by
      cases r with
      | sc => simp [isBox] at h0
      | tup _ _ => exact ⟨_, rfl⟩
      | own _ _ => exact ⟨_, rfl⟩
      | frz _ _ => exact ⟨_, rfl⟩
    exact ⟨p, _, rfl, dp, h1, h2, h3, h4, out_sc s h k⟩
  · exact h.elim
/-! truth of any value -/
def truD : D → (Bool → Prop) → Prop
  | .sc .non, k => k false
  | .sc (.bl b), k => k b
  | .sc (.int i), k => k (i != 0)
  | .sc (.str y), k => y.length ≤ sizeLine ∧ k ((y.length : Int) != 0)
  | .tup xs, k => k (!xs.isEmpty)
  | .obj _ sh xs, k => isSeq sh = true ∧ k (!xs.isEmpty)
  | _, _ => False
theorem isE_eq {α β : Type} {xs : List α} {ys : List β} (h : xs.length = ys.length) : xs.isEmpty = ys.isEmpty := by
  cases xs <;> cases ys <;> simp_all
theorem Rep.tru {K : PySem.W.Frag} {F H : Hp} {d : D} {v : V} {a : List Addr} {k : Bool → Prop} (r : Rep K F H d v a) (s : Same F H) (h : truD d k) : ∃ b, TruV K v H b ∧ k b := by
  unfold truD at h
  split at h
  · obtain ⟨rfl, _⟩ := r.sc_inv; exact ⟨_, rfl, h⟩
  · obtain ⟨rfl, _⟩ := r.sc_inv; exact ⟨_, rfl, h⟩
  · obtain ⟨rfl, _⟩ := r.sc_inv; exact ⟨_, rfl, h⟩
  · obtain ⟨rfl, _⟩ := r.sc_inv; exact ⟨_, ⟨h.1, rfl⟩, h.2⟩
  · obtain ⟨p, vs, rfl, e, q⟩ := r.tup_inv s
    exact ⟨_, .inr (.inl ⟨vs, e, rfl⟩), by rw [← isE_eq q.length]; exact h⟩
  · obtain ⟨p, vs, a', rfl, e, q⟩ := r.seq_inv h.1 s
    exact ⟨_, .inl ⟨vs, e, rfl⟩, by rw [← isE_eq q.length]; exact h.2⟩
  · exact h.elim
section
variable {X : Cx} {p : Bool} {e : Expr} {we : WE} {wb : WB} {pos : Pos}
def wTru (w : WE) : WT := fun env R => w env fun d e1 => truD d fun b => R b e1
theorem dt_tru (h : DE p X e we) (he : ∀ whole, isTrue e X.env whole = (do let v ← whole; standAt e.pos; holding [v] (truthy v))) : DT p X e (wTru we) := by
  refine ⟨PTimp (pt_truth h.pe he) ?_⟩
  rintro σ H Q ⟨F, B, env, As, R, s, hw, k⟩
  refine ⟨F, B, env, As, _, s, hw, fun v H1 F1 As1 a x e1 po1 t1 h1 => ?_⟩
  obtain ⟨b, h2, h3⟩ := t1.rep.tru po1.so.same h1
  exact ⟨b, h2, k b H1 F1 As1 e1 po1 h3⟩
/-- not x, -x as values -/
def wNotV (w : WE) : WE := fun env R => w env fun d e1 => asB d fun b => R (.bl (!b)) e1
theorem de_not (h : DE p X e we) : DE p X (.UnaryOp .Not e pos) (wNotV we) := by
  refine ⟨PEimp (pe_not h.pe) ?_⟩
  rintro σ H Q ⟨F, B, env, As, R, s, hw, k⟩
  refine ⟨F, B, env, As, _, s, hw, fun v H1 F1 As1 a x e1 po1 t1 h1 => ?_⟩
  obtain ⟨b, rfl, h2⟩ := asB_inv h1
  obtain ⟨rfl, _⟩ := t1.rep.sc_inv
  exact ⟨b, rfl, k _ H1 F1 As1 [] _ e1 po1 (.sc po1.so _) h2⟩
def wNeg (w : WE) : WE := fun env R => w env fun d e1 => asI d fun b => R (.int (-b)) e1
theorem de_neg (h : DE p X e we) : DE p X (.UnaryOp .USub e pos) (wNeg we) := by
  refine ⟨PEimp (pe_un un_neg h.pe) ?_⟩
  rintro σ H Q ⟨F, B, env, As, R, s, hw, k⟩
  refine ⟨F, B, env, As, _, s, hw, fun v H1 F1 As1 a x e1 po1 t1 h1 => ?_⟩
  obtain ⟨b, rfl, h2⟩ := asI_inv h1
  obtain ⟨rfl, _⟩ := t1.rep.sc_inv
  exact ⟨b, rfl, k _ H1 F1 As1 [] _ e1 po1 (.sc po1.so _) h2⟩
/-! and, or as values -/
variable {a b : Expr} {rest : List Expr} {wa wr : WE}
def wAndV (wa wb : WE) : WE := fun env R => wa env fun d e1 => asB d fun c => if c = true then wb e1 R else R (.bl false) e1
def wOrV (wa wb : WE) : WE := fun env R => wa env fun d e1 => asB d fun c => if c = true then R (.bl true) e1 else wb e1 R
theorem de_one {op} (h : DE p X a wa) : DE p X (.BoolOp op [a] pos) wa := ⟨pe_one h.pe⟩
theorem de_and (ha : DE p X a wa) (hb : DE p X (.BoolOp .And (b :: rest) pos) wr) : DE p X (.BoolOp .And (a :: b :: rest) pos) (wAndV wa wr) := by
  refine ⟨PEimp (pe_and ha.pe hb.pe) ?_⟩
  rintro σ H Q ⟨F, B, env, As, R, s, hw, k⟩
  refine ⟨F, B, env, As, _, s, hw, fun v H1 F1 As1 a x e1 po1 t1 h1 => ?_⟩
  obtain ⟨c, rfl, h2⟩ := asB_inv h1
  obtain ⟨rfl, _⟩ := t1.rep.sc_inv
  refine ⟨c, rfl, ?_⟩
  cases c with
  | true => exact ⟨F1, B, e1, As1, R, po1.so, h2, fun v H2 F2 As2 a d e2 po2 t2 h2 => k v H2 F2 As2 a d e2 (po1.trans po2) t2 h2⟩
  | false => exact k _ H1 F1 As1 [] _ e1 po1 (.sc po1.so _) h2
theorem de_or (ha : DE p X a wa) (hb : DE p X (.BoolOp .Or (b :: rest) pos) wr) : DE p X (.BoolOp .Or (a :: b :: rest) pos) (wOrV wa wr) := by
  refine ⟨PEimp (pe_or ha.pe hb.pe) ?_⟩
  rintro σ H Q ⟨F, B, env, As, R, s, hw, k⟩
  refine ⟨F, B, env, As, _, s, hw, fun v H1 F1 As1 a x e1 po1 t1 h1 => ?_⟩
  obtain ⟨c, rfl, h2⟩ := asB_inv h1
  obtain ⟨rfl, _⟩ := t1.rep.sc_inv
  refine ⟨c, rfl, ?_⟩
  cases c with
  | false => exact ⟨F1, B, e1, As1, R, po1.so, h2, fun v H2 F2 As2 a d e2 po2 t2 h2 => k v H2 F2 As2 a d e2 (po1.trans po2) t2 h2⟩
  | true => exact k _ H1 F1 As1 [] _ e1 po1 (.sc po1.so _) h2
/-- a < b < c -/
def wChain (rd rd' : RD2) (wa wb wc : WE) : WE := fun env R => wa env fun x e1 => wb e1 fun y e2 => y.fz = true ∧ rd x y fun z => asB z fun c => if c = true then wc e2 fun u e3 => rd' y u fun z => R z e3 else R (.bl false) e2
/-- a built-in type as a value -/
theorem de_ty {x : Str} {n : String} (hg : Gl X x) (hm : X.mg x = none) (hv : bootBuiltins x = some (.type n)) (hn : x ≠ "__name__" := by decide) (hd : (x == ("__debug__" : Str)) = false := by decide) : DE p X (.Name x pos) (wC (.sc (.ty n))) := de_of_c (pe_bltn hg hm hv rfl hn hd)
/-- a module's constant that is a scalar -/
theorem de_glob {x : Str} {v : V} {u : Value} (hg : Gl X x) (hm : X.mg x = some u) (r : RelV v u) (hd : (x == ("__debug__" : Str)) = false := by decide) : DE p X (.Name x pos) (wC (.sc v)) := de_of_c (pe_glob hg hm r hd)
end
end PL

/-! PLm: names that hold frozen things, items read where they lie, chains, pairs of names. -/
namespace PL
open PySem L2
section
variable {X : Cx} {p : Bool} {kp : List Nat} {e a b c : Expr} {es : List Expr} {kws : List Keyword} {we wi wa wb wc : WE} {wb' : WB} {pos : Pos}
/-- a name that gets a value frozen -/
def gFz (i : Nat) : WG := fun d env R => R (env.set i (some d.frz))
theorem SO.assignF {K : PySem.W.Frag} {F H : Hp} {B : Addr → Prop} {env : En} {σ : St} {As : List (List Addr)} {d : D} {v : V} {a : List Addr} (s : SO K F H B env σ As) (t : TO K F H B As d v a) {i : Nat} (h : i ∉ kp) :
    ∃ F' As', PostS K kp F H B σ F' H (env.set i (some d.frz)) (σ.set i (some v)) As' := by
  obtain ⟨po, r⟩ := s.freeze t
  exact ⟨_, _, po.ps.trans (po.so.assignS (.fz r po.so) h)⟩
theorem dg_fz {i : Nat} (h : PG X e (gName i)) (hi : i ∉ kp) : DG kp X e (gFz i) :=
  ⟨PGimp h fun v σ H Q ⟨F, B, env, As, d, a, R, s, t, hw, k⟩ => by
    obtain ⟨F', As', po⟩ := s.assignF t hi
    exact k _ H F' As' _ po hw⟩
theorem ds_setF {i : Nat} {x : Str} {pos' : Pos} (hN : X.N.Nodup) (hi : X.N[i]? = some x) (hx : Loc X.env.scope x) (h : DE p X e we) (hk : i ∉ kp) (hs : swapsWith e (some (.Name x pos')) pos.line X.env = pure false := by rfl) (hf : X.fn x = true ∨ X.env.scope.names.lookup x = some .local := by first | exact .inl rfl | exact .inr rfl | assumption) :
    DS kp X (.Assign [.Name x pos'] e pos) (sAsg we (gFz i)) :=
  ⟨PSimp (ps_set hN hi hx h.pe hs hf) (asg_lift (fun _ _ _ h => h) fun v σ H Q ⟨F, B, env, As, d, a, R, s, t, hw, k⟩ => by
    obtain ⟨F', As', po⟩ := s.assignF t hk
    exact k _ H F' As' _ po hw)⟩
section
variable {elt tg iter : Expr} {ifs : List Expr} {scope : Scope} {own : List (Str × Nat)} {spos : Pos} {wi : WI} {g : WG} {wt : WT}
theorem ds_setLcF {i : Nat} {y : Str} {py : Pos} (kf : Bool) (hc : X.calm = true) (hN : X.N.Nodup) (hy : X.N[i]? = some y) (hyl : X.env.scope.names.lookup y = some .local) (hk : i ∉ kp)
    (hsw : swapsWith (.ListComp elt [⟨tg, iter, ifs, 0⟩] scope pos) (some (.Name y py)) spos.line X.env = pure true) (hi : DI false X tg iter wi) (ok : BlkOk X.N X.env.scope scope own)
    (hg : ∀ (s : Shared) (H : Hp) (C : Addr) (cl : List (Str × Addr)) (fp : List Addr), DG (outK X.N.length (own.map (·.2))) (X.blk s H scope (compEnvC scope cl C X.env) fp) tg g)
    (ht : ∀ (s : Shared) (H : Hp) (C : Addr) (cl : List (Str × Addr)) (fp : List Addr), DTs false (X.blk s H scope (compEnvC scope cl C X.env) fp) ifs wt)
    (he : ∀ (s : Shared) (H : Hp) (C : Addr) (cl : List (Str × Addr)) (fp : List Addr), DE false (X.blk s H scope (compEnvC scope cl C X.env) fp) elt we) (hs : ∀ x, foldedSetIterable iter X.env x = pure x := by intro _; rfl) :
    DS kp X (.Assign [.Name y py] (.ListComp elt [⟨tg, iter, ifs, 0⟩] scope pos) spos) (sAsg (wComp kf wi (own.map (·.2)) g wt we) (gFz i)) := by
  refine ⟨PSimpN (ps_setLc (g := liftG X.K (outK X.N.length (own.map (·.2))) g) (tt := liftT X.K false wt) (te := liftE X.K false we) hc hN hy hyl hsw hi.pi ok (fun s H C cl fp => (hg s H C cl fp).pg) (fun s H C cl fp => (ht s H C cl fp).pt) (fun s H C cl fp => (he s H C cl fp).pe) hs) fun D σ H hn h => ?_⟩
  obtain ⟨F, B, env, As, RD, s, hw, k1, k2, k3, k4⟩ := h
  refine comp_lift (fun _ _ _ h => h) (fun _ _ _ _ h => h) (fun _ _ _ h => h) (fun _ _ _ h => h) σ H _ hn ⟨F, B, env, As, _, s, hw, fun v H1 F1 As1 a d e1 po1 t1 h1 => ?_⟩
  obtain ⟨F', As', po⟩ := po1.so.assignF t1 hk
  exact k1 _ H1 F' _ _ (po1.ps.trans po) h1
end
/-- an argument that comes in frozen -/
def cValF (we : WE) (wc : WC) : WC := fun env R => we env fun d e1 => wc e1 fun is e2 => R (.val d.frz :: is) e2
theorem ti_frz {K : PySem.W.Frag} {F F' H H' : Hp} {σ : St} {B : Addr → Prop} {env env' : En} {As As' : List (List Addr)} {is vs d v a} (r : Rep K F H d v []) (s : PostE K false F H B env σ As F' H' env' As') (u : TI K F' H' B σ As' is vs a) : TI K F' H' B σ As' (.val d :: is) (v :: vs) a :=
  ⟨by simpa using IR.val (a := []) (r.frame s.ext fun _ z => nomatch z) u.rep, u.nd, u.fr, u.nb⟩
theorem dc_valF {wc : WC} (h : DE p X e we) (hs : DC X es wc) (st : starEach (e :: es) X.env = (false, eval e X.env) :: starEach es X.env := by rfl) : DC X (e :: es) (cValF we wc) := by
  refine ⟨PAimp (pa_cons h.pe hs.pa st) ?_⟩
  rintro σ H Q ⟨F, B, env, As, R, s, hw, k⟩
  refine ⟨F, B, env, As, _, s, hw, fun v H1 F1 As1 a d e1 po1 t1 h1 => ?_⟩
  obtain ⟨po2, r2⟩ := po1.so.freeze t1
  refine ⟨_, B, e1, As1, _, po2.so, h1, fun vs H2 F2 As2 b is e2 po3 t2 h2 => ?_⟩
  exact k _ H2 F2 As2 b _ e2 ((po1.weak.trans po2.weak).trans po3) (ti_frz r2 po3 t2) h2
theorem dck_valF {wc : WC} {nm : Option Str} {kpos : Pos} (h : DE p X e we) (hs : DCK X kws wc) : DCK X (⟨nm, e, kpos⟩ :: kws) (cValF we wc) := by
  refine ⟨PKimp (pk_cons h.pe hs.pk) ?_⟩
  rintro σ H Q ⟨F, B, env, As, R, s, hw, k⟩
  refine ⟨F, B, env, As, _, s, hw, fun v H1 F1 As1 a d e1 po1 t1 h1 => ?_⟩
  obtain ⟨po2, r2⟩ := po1.so.freeze t1
  refine ⟨_, B, e1, As1, _, po2.so, h1, fun vs H2 F2 As2 b is e2 po3 t2 h2 => ?_⟩
  exact k _ H2 F2 As2 b _ e2 ((po1.weak.trans po2.weak).trans po3) (ti_frz r2 po3 t2) h2
/-- an item, read where it lies -/
def bIx (wb : WB) (wi : WE) : WB := fun env R => wb env fun d => wi env fun k _ => asI k fun kk => match d with
  | .obj _ sh xs => isSeq sh = true ∧ ∃ x, atI xs kk = some x ∧ R x
  | .tup xs => ∃ x, atI xs kk = some x ∧ R x
  | _ => False
theorem RepL.atI_sub {K : PySem.W.Frag} {F H : Hp} {xs : List D} {vs : List V} {a : List Addr} {i : Int} {x : D} (r : RepL K F H xs vs a) (e : L2.atI xs i = some x) : ∃ v a', L2.atI vs i = some v ∧ Rep K F H x v a' ∧ a'.Sublist a := by
  unfold L2.atI at e ⊢
  rw [← r.length]
  cases h : L2.ixN xs.length i with
  | none => rw [h] at e; cases e
  | some j =>
    rw [h] at e
    obtain ⟨v, A1, A0, A2, h1, h2, h3, _⟩ := r.get e
    refine ⟨v, A0, h1, h3, ?_⟩
    rw [h2, List.append_assoc]
    exact (List.sublist_append_left _ _).trans (List.sublist_append_right _ _)
theorem VO.part {K : PySem.W.Frag} {F H : Hp} {B : Addr → Prop} {As : List (List Addr)} {d d' : D} {v v' : V} {a a' : List Addr} (t : VO K F H B As d v a) (r : Rep K F H d' v' a') (s : a'.Sublist a) : VO K F H B As d' v' a' := by
  refine ⟨r, t.at_.imp (fun h x hx => h x (s.subset hx)) fun h => ⟨r, ?_, fun x hx => h.fr x (s.subset hx), fun x hx => h.nb x (s.subset hx)⟩⟩
  exact (List.Sublist.append_right s _).nodup h.nd
theorem Rep.seq_inv2 {K : PySem.W.Frag} {F H : Hp} {o : Bool} {sh : Sh} {xs : List D} {v : V} {a : List Addr} (h : isSeq sh = true) (r : Rep K F H (.obj o sh xs) v a) (s : Same F H) : ∃ p vs a', v = .ref p ∧ SqL K H p vs ∧ RepL K F H xs vs a' ∧ a'.Sublist a := by
  cases r with
  | own c r =>
    cases sh with
    | lst => exact ⟨_, _, _, rfl, .of c, r, List.sublist_cons_self ..⟩
    | sq => exact c.elim
    | _ => cases h
  | frz c r =>
    cases sh with
    | lst => exact ⟨_, _, _, rfl, .of (s _ _ c), r, List.Sublist.refl _⟩
    | sq => exact ⟨_, _, _, rfl, s.seq c, r, List.Sublist.refl _⟩
    | _ => cases h
theorem db_ix (ha : DB X a wb') (hb : DE true X b wi) (hs : PlainIx b) : DB X (.Subscript a b pos) (bIx wb' wi) := by
  refine ⟨PEimp (pe_ix ix_seq ha.pe hb.pe hs) ?_⟩
  rintro σ H Q ⟨F, B, env, As, R, s, hw, k⟩
  refine ⟨F, B, env, As, _, s, hw, fun v H1 F1 a d po1 t1 h1 => ?_⟩
  obtain ⟨B', hB, s', kp⟩ := t1.keep po1.so (F' := F) (H' := H)
  refine ⟨F1, B', env, As, _, s', h1, fun y H2 F2 As2 a2 kd e2 po2 t2 h2 => ?_⟩
  obtain ⟨t1', po2', _⟩ := kp _ _ _ _ po2
  obtain ⟨kk, rfl, h2⟩ := asI_inv h2
  obtain ⟨rfl, _⟩ := t2.rep.sc_inv
  obtain ⟨z1, z2, _⟩ := po2.pure rfl
  subst z1 z2
  split at h2
  · obtain ⟨hsq, x, e, h2⟩ := h2
    obtain ⟨q, vs, a', rfl, e1, r1, sb1⟩ := t1'.rep.seq_inv2 hsq po2'.so.same
    obtain ⟨w, a3, e3, r3, sb⟩ := r1.atI_sub e
    exact .inl ⟨q, vs, kk, w, rfl, rfl, e1, e3, k w H2 F2 a3 x (po1.trans po2') (t1'.part r3 (sb.trans sb1)) h2⟩
  · obtain ⟨x, e, h2⟩ := h2
    obtain ⟨q, vs, rfl, e1, r1⟩ := t1'.rep.tup_inv po2'.so.same
    obtain ⟨w, a3, e3, r3, sb⟩ := r1.atI_sub e
    exact .inr (.inl ⟨q, vs, kk, w, rfl, rfl, e1, e3, k w H2 F2 a3 x (po1.trans po2') (t1'.part r3 sb) h2⟩)
  · exact h2.elim
/-- a value read where it lies that is frozen, as a value at hand -/
def wOfB (wb : WB) : WE := fun env R => wb env fun d => d.fz = true ∧ R d env
theorem de_ofB (h : DB X e wb') : DE p X e (wOfB wb') := by
  refine ⟨PEimp h.pe ?_⟩
  rintro σ H Q ⟨F, B, env, As, R, s, hw, k⟩
  refine ⟨F, B, env, As, _, s, hw, fun v H1 F1 a d po1 t1 ⟨z, h1⟩ => ?_⟩
  have := t1.rep.fzNil z; subst this
  exact k v H1 F1 As [] d env (po1.imp fun _ => rfl) (.fz t1.rep po1.so) h1
/-! ### a < b < c -/
theorem chain_lift {r r' : R2} {rd rd' : RD2} (hr : Snd2 X.K r rd) (hr' : Snd2 X.K r' rd') : ∀ σ H Q, liftE X.K p (wChain rd rd' wa wb wc) σ H Q → tChain r r' (liftE X.K p wa) (liftE X.K p wb) (liftE X.K p wc) σ H Q := by
  rintro σ H Q ⟨F, B, env, As, R, s, hw, k⟩
  refine ⟨F, B, env, As, _, s, hw, fun v H1 F1 As1 a x e1 po1 t1 h1 => ?_⟩
  refine ⟨F1, Bx B a, e1, As1, _, po1.so.push t1, h1, fun u H2 F2 As2 b y e2 po2 t2 ⟨yz, h2⟩ => ?_⟩
  refine hr po2.so.pop (t1.keep po2).rep t2.rep h2 fun zv H3 F3 c z po3 t3 h3 => ?_
  obtain ⟨cb, rfl, h3⟩ := asB_inv h3
  obtain ⟨rfl, _⟩ := t3.rep.sc_inv
  refine ⟨cb, rfl, ?_⟩
  have po13 := (po1.trans po2.pop).trans (po3.imp fun _ => rfl)
  cases cb with
  | false => exact k _ H3 F3 As2 [] _ e2 po13 (.sc po3.so _) h3
  | true =>
    have r2 := t2.rep
    have := r2.fzNil yz; subst this
    refine ⟨F3, B, e2, As2, _, po3.so, h3, fun w H4 F4 As4 c4 d4 e4 po4 t4 h4 => ?_⟩
    refine hr' po4.so (r2.frame (po3.ext.trans po4.ext) fun _ z => nomatch z) t4.rep h4 fun zv H5 F5 c5 z5 po5 t5 h5 => ?_
    exact k _ H5 F5 As4 c5 z5 e4 ((po13.trans po4).trans (po5.imp fun _ => rfl)) t5 h5
theorem de_chain {op op' : CmpOp} {r r' : R2} {rd rd' : RD2} (ho : OpR X (compareOp op) r) (hr : Snd2 X.K r rd) (ho' : OpR X (compareOp op') r') (hr' : Snd2 X.K r' rd') (ha : DE p X a wa) (hb : DE p X b wb) (hc : DE p X c wc)
    (hm : lastMarks [op, op'] [b, c] = false := by with_unfolding_all rfl) : DE p X (.Compare a [op, op'] [b, c] pos) (wChain rd rd' wa wb wc) := ⟨PEimp (pe_chain ho ho' ha.pe hb.pe hc.pe hm) (chain_lift hr hr')⟩
theorem dt_chain {op op' : CmpOp} {r r' : R2} {rd rd' : RD2} (ho : OpR X (compareOp op) r) (hr : Snd2 X.K r rd) (ho' : OpR X (compareOp op') r') (hr' : Snd2 X.K r' rd') (ha : DE p X a wa) (hb : DE p X b wb) (hc : DE p X c wc)
    (hm : lastMarks [op, op'] [b, c] = false := by with_unfolding_all rfl) : DT p X (.Compare a [op, op'] [b, c] pos) (wTst (wChain rd rd' wa wb wc)) := ⟨PTimp (pt_chain ho ho' ha.pe hb.pe hc.pe hm) (tst_lift (chain_lift hr hr'))⟩
/-- a, b = e1, e2: two plain names -/
def sPar (i j : Nat) (wa : WA) : WS := fun env RD => wa env fun ds e1 => match ds with
  | [d1, d2] => RD.nx ((e1.set i (some d1.frz)).set j (some d2.frz))
  | _ => False
theorem ds_par {i j : Nat} {x y : Str} {px py pt : Pos} {kt k2 pt2} {wa : WA} (hc : X.calm = true) (hN : X.N.Nodup) (hi : X.N[i]? = some x) (hj : X.N[j]? = some y) (hij : i ≠ j)
    (hx : X.env.scope.names.lookup x = some .local) (hy : X.env.scope.names.lookup y = some .local) (ha : DA p X [a, b] wa) (hki : i ∉ kp) (hkj : j ∉ kp)
    (hw : swappedStores [.Tuple [.Name x px, .Name y py] kt pt] (.Tuple [a, b] k2 pt2) X.env = pure (some [x, y]))
    (hs : swapsWithSole [.Tuple [.Name x px, .Name y py] kt pt] (.Tuple [a, b] k2 pt2) pos.line X.env = pure false := by rfl) :
    DS kp X (.Assign [.Tuple [.Name x px, .Name y py] kt pt] (.Tuple [a, b] k2 pt2) pos) (sPar i j wa) := by
  refine ⟨PSimp (ps_par hc hN hi hj hij hx hy ha.pa hw hs) ?_⟩
  rintro D σ H ⟨F, B, env, As, RD, s, hw, k1, k2, k3, k4⟩
  refine ⟨F, B, env, As, _, s, hw, fun vs H1 F1 As1 a ds e1 po1 t1 h1 => ?_⟩
  split at h1
  · obtain ⟨po2, r2⟩ := po1.so.freezeL t1
    obtain ⟨v, us, A1, A2, rfl, e, q1, q2⟩ := r2.cons_inv
    obtain ⟨v2, us2, A3, A4, rfl, e2, q3, q4⟩ := q2.cons_inv
    obtain ⟨rfl, _⟩ := q4.nil_inv
    obtain ⟨rfl, rfl⟩ := List.append_eq_nil_iff.mp e.symm
    obtain ⟨rfl, rfl⟩ := List.append_eq_nil_iff.mp e2.symm
    refine ⟨v, v2, rfl, ?_⟩
    have p3 := po2.so.assignS (kp := kp) (.fz q1 po2.so) hki
    have p4 := p3.so.assignS (kp := kp) (i := j) (.fz q3 p3.so) hkj
    exact k1 _ H1 _ _ _ (po1.ps.trans (po2.ps.trans (p3.trans p4))) h1
  · exact h1.elim
end
end PL

/-! PLn: xs[::-1] of lists and tuples. -/
namespace PL
open PySem PySem.Spec PyProof.Rows L2 HT
section
variable {prog : Program} {w : World} {A : Around} {E : Value → Shared → Prop} {s : Shared}
theorem rev_places (n : Nat) : Builtin.Slice.slicePlaces ((n : Int) - 1) (-1) (-1) = n := by
  unfold Builtin.Slice.slicePlaces
  rw [if_neg (by decide)]
  split
  · show ((((n : Int) - 1 - -1 - 1) / (- -1)) + 1).toNat = n
    rw [show (- -1 : Int) = 1 by decide, Int.ediv_one]; omega
  · simp; omega
theorem sliceApplied_rev {sl : Addr} {vl vu vs : Value} {n : Nat} {Q : Int × Int × Nat → Shared → Prop} (hs : s.heap.IsSliceOf sl vl vu vs) (pl : IsPart vl none) (pu : IsPart vu none) (ps : IsPart vs (some (-1)))
    (h : Q ((n : Int) - 1, -1, n) s) : wpAny (model prog w) A (Builtin.Slice.sliceApplied (.ref sl) (pure (n : Int))) Q E s := by
  obtain ⟨os, hos, hcs, hds⟩ := id hs
  unfold Builtin.Slice.sliceApplied Builtin.Slice.sliceFields
  refine wpAny_bind (wpAny_bind (wpAny_field hos hds (x := vl) rfl (wpAny_bind (wpAny_field hos hds (x := vu) rfl (wpAny_bind (wpAny_field hos hds (x := vs) rfl (wpAny_pure ?_)))))))
  refine wpAny_bind (slicePart_ ps ?_)
  show wpAny _ _ (if ((-1 : Int) == 0) = true then _ else _) _ _ s
  rw [if_neg (by decide)]
  refine wpAny_bind (slicePart_ pl (wpAny_bind (slicePart_ pu (wpAny_bind (wpAny_pure (wpAny_pure ?_))))))
  show Q ((n : Int) - 1, -1, Builtin.Slice.slicePlaces ((n : Int) - 1) (-1) (-1)) s
  rw [rev_places]
  exact h
theorem pick_rev (xs : Array Value) : ((List.range xs.size).filterMap fun (m : Nat) => xs[(((xs.size : Nat) : Int) - 1 + (m : Int) * (-1)).toNat]?) = xs.toList.reverse := by
  have e : (fun (m : Nat) => xs[(((xs.size : Nat) : Int) - 1 + (m : Int) * (-1)).toNat]?) = (xs[·]?) ∘ fun m => xs.size - 1 - m := by
    funext m
    show xs[_]? = xs[_]?
    rw [show (((xs.size : Nat) : Int) - 1 + (m : Int) * (-1)).toNat = xs.size - 1 - m by omega]
  rw [e, ← List.filterMap_map, PySem.W.krv_range, List.filterMap_reverse, PySem.W.krv_all]
theorem getItem_tuple_rev {t sl : Addr} {items : Array Value} {vl vu vs : Value} {Q : Value → Shared → Prop} (ht : IsTup s.heap t items) (hs : s.heap.IsSliceOf sl vl vu vs) (pl : IsPart vl none) (pu : IsPart vu none) (ps : IsPart vs (some (-1)))
    (h : Q (.ref s.heap.objs.size) { s with heap := s.heap.push { cls := .type "tuple", data := .seq items.toList.reverse.toArray } }) (hsz : items.size ≤ sizeLine) : wpAny (model prog w) A (getItem (.ref t) (.ref sl)) Q E s := by
  have ok : sizeOk (.seq items.toList.reverse.toArray) := by
    show items.toList.reverse.toArray.size ≤ sizeLine
    simpa using hsz
  obtain ⟨os, hos, hcs, hds⟩ := id hs
  have hTs : s.TypeIs (.ref sl) "slice" := ⟨os, hos, hcs⟩
  unfold getItem
  try with_reducible refine wpAny_holding ?_
  first | refine wpAny_bind (wpAny_pure ?_) | skip
  refine wpAny_bind (wpAny_sequenceKey ht.typeIs (by decide) ?_)
  refine wpAny_bind (wpAny_callSpecial?_slot (name := Str.ofString "__getitem__") ht.typeIs slot_tuple_getitem (wpAny_call_entry slot_tuple_getitem ht.typeIs entry_tuple_getitem ?_ (args_tuple_getitem _ _)))
  show wpAny _ _ (Builtin.Tuple.tupleItemsOf (.ref t) >>= _) _ _ s
  refine wpAny_bind (tupleItemsOf_ ht (wpAny_bind (wpAny_typeOf hTs ?_)))
  rw [if_pos (by decide)]
  refine wpAny_bind (sliceApplied_rev hs pl pu ps ?_)
  show wpAny _ _ (if ((((items.size : Nat) : Int) - 1) == 0 && (-1 : Int) == 1 && items.size == items.size) = true then _ else _) _ _ s
  rw [if_neg (by simp), pick_rev]
  first
    | exact wpAny_bind (m := Builtin.Tuple.tupleExact _) (wpAny_newObj_type (wpAny_pure ⟨_, rfl, wpAny_pure h⟩) ok)
    | exact wpAny_bind (m := Builtin.Tuple.tupleExact _) (wpAny_newObj_type (wpAny_bind (wpAny_pure (wpAny_pure ⟨_, rfl, wpAny_pure h⟩))) ok)
    | exact wpAny_bind (wpAny_bind (m := Builtin.Tuple.tupleExact _) (wpAny_newObj_type (wpAny_pure (wpAny_pure ⟨_, rfl, wpAny_pure h⟩)) ok))
    | exact wpAny_bind (wpAny_bind (m := Builtin.Tuple.tupleExact _) (wpAny_newObj_type (wpAny_pure ⟨_, rfl, wpAny_pure h⟩) ok))
end
/-- xs[::-1], a list or a tuple -/
def tRevA (K : PySem.W.Frag) (te : TE) : TE := fun σ H Q => te σ H fun x H1 => ∃ a xs, x = .ref a ∧ ((SqL K H1 a xs ∧ ∀ p, H1 p = none → Q (.ref p) (upd H1 p (.lst xs.reverse))) ∨ (SqT K H1 a xs ∧ ∀ p, H1 p = none → Q (.ref p) (upd H1 p (.tup xs.reverse))))
theorem pe_revA {X : Cx} {e : Expr} {te : TE} {k : Nat} {p1 p2 p3 pos : Pos} (he : PE X e te) : PE X (.Subscript e (.Slice none none (some (.UnaryOp .USub (.Constant (.int 1) k p1) p2)) p3) pos) (tRevA X.K te) := by
  refine ⟨fun pins s σ H Q I h => Subscript_ (thn (he.run pins s σ H _ I h) ?_)⟩
  rintro v s1 ⟨x, H1, I1, r1, a, xs, rfl, q⟩
  obtain rfl : v = Value.ref a := r1
  have step : PO X (some (.UnaryOp .USub (.Constant (.int 1) k p1) p2)) (tPart (tUn (rU fun i => .int (-i)) (tC (.int 1)))) := po_some (pe_un un_neg pe_int)
  refine wpAny_Slice (thn (po_none.run pins s1 σ H1 (fun o H2 => o = none ∧ H2 = H1) I1 ⟨rfl, rfl⟩) ?_)
  rintro vl s2 ⟨l, H2, I2, pl, rfl, rfl⟩
  refine thn (po_none.run pins s2 σ H2 (fun o H3 => o = none ∧ H3 = H2) I2 ⟨rfl, rfl⟩) ?_
  rintro vu s3 ⟨u, H3, I3, pu, rfl, rfl⟩
  refine thn (step.run pins s3 σ H3 (fun o H4 => o = some (-1) ∧ H4 = H3) I3 ⟨1, rfl, -1, rfl, rfl, rfl⟩) ?_
  rintro vs s4 ⟨o, H4, I4, ps, rfl, rfl⟩
  have I5 : Inv X pins σ H4 { s4 with heap := s4.heap.push { cls := .type "slice", data := .fields #[vl, vu, vs] } } := I4.kept (t' := s4.toks) fun b ob q => Heap.get?_push_of_some _ q
  show wpAny (model X.prog X.w) X.A (subscriptTail e (.Slice none none (some (.UnaryOp .USub (.Constant (.int 1) k p1) p2)) p3) (.ref a) (.ref s4.heap.objs.size)) (EP X pins σ Q) X.xe { s4 with heap := s4.heap.push { cls := .type "slice", data := .fields #[vl, vu, vs] } }
  rcases q with ⟨hx, q⟩ | ⟨hx, q⟩
  · obtain ⟨its, r, ht, hz⟩ := I5.list hx
    have hlen := r.length
    refine tail_any (ops := [.ref a, .ref s4.heap.objs.size]) ht.isList.typeIs PySem.slot_list_getitem.lookup (wpAny_getItem_list_slice ht.isList (Heap.IsSliceOf.new _ vl vu vs) pl pu ps (by decide) ?_ (by rw [List.size_toArray]; omega)) (by with_unfolding_all rfl)
    rw [PySem.W.krv_pick]
    exact ⟨.ref _, _, I5.laid (t' := s4.toks) (o := .lst xs.reverse) (fun b ob q => Heap.get?_push_of_some _ q) (Nat.le_refl _) ⟨by rw [List.length_reverse]; exact hz, _, 0, r.reverse, Heap.get?_push_size _ rfl⟩, rfl, q _ (I5.hok.fresh (Nat.le_refl _))⟩
  · obtain ⟨its, r, ht, hz⟩ := I5.tuple hx
    have hlen := r.length
    refine tail_any (ops := [.ref a, .ref s4.heap.objs.size]) ht.typeIs slot_tuple_getitem.lookup (getItem_tuple_rev ht (Heap.IsSliceOf.new _ vl vu vs) pl pu ps ?_ (by rw [List.size_toArray]; omega)) (by with_unfolding_all rfl)
    exact ⟨.ref _, _, I5.laid (t' := s4.toks) (o := .tup xs.reverse) (fun b ob q => Heap.get?_push_of_some _ q) (Nat.le_refl _) ⟨by rw [List.length_reverse]; exact hz, _, r.reverse, IsTup.new _ _⟩, rfl, q _ (I5.hok.fresh (Nat.le_refl _))⟩
theorem RepL.rev {K : PySem.W.Frag} {F H : Hp} : ∀ {xs : List D} {vs : List V}, RepL K F H xs vs [] → RepL K F H xs.reverse vs.reverse []
  | [], vs, r => by obtain ⟨rfl, _⟩ := r.nil_inv; exact .nil
  | x :: xs, vs, r => by
    obtain ⟨v, us, A1, A2, rfl, e, r1, r2⟩ := r.cons_inv
    obtain ⟨rfl, rfl⟩ := List.append_eq_nil_iff.mp e.symm
    simpa using (RepL.rev r2).app (.one r1)
def rdRev : D → (D → Prop) → Prop
  | .obj _ sh xs, R => isSeq sh = true ∧ D.fzL xs = true ∧ R (.lst true xs.reverse)
  | .tup xs, R => D.fzL xs = true ∧ R (.tup xs.reverse)
  | _, _ => False
section
variable {X : Cx} {p : Bool} {e : Expr} {we : WE} {wb : WB} {k : Nat} {p1 p2 p3 pos : Pos}
theorem rev_core {K : PySem.W.Frag} {F H : Hp} {B : Addr → Prop} {env : En} {σ : L2.St} {As : List (List Addr)} {x : D} {v : V} {a : List Addr} {R : D → Prop} {Q : VK} (s : SO K F H B env σ As) (r : Rep K F H x v a) (h : rdRev x R)
    (k : ∀ v' H' F' c z, PostE K true F H B env σ As F' H' env As → TO K F' H' B As z v' c → R z → Q v' H') : ∃ a xs, v = .ref a ∧ ((SqL K H a xs ∧ ∀ p, H p = none → Q (.ref p) (upd H p (.lst xs.reverse))) ∨ (SqT K H a xs ∧ ∀ p, H p = none → Q (.ref p) (upd H p (.tup xs.reverse)))) := by
  unfold rdRev at h
  split at h
  · obtain ⟨p, us, a2, rfl, e1, r1⟩ := r.seq_inv h.1 s.same
    exact ⟨p, us, rfl, .inl ⟨e1, out_lst s (r1.fz_mem h.2.1).rev h.2.2 k⟩⟩
  · obtain ⟨p, us, rfl, e1, r1⟩ := r.tup_inv s.same
    exact ⟨p, us, rfl, .inr ⟨e1, out_tup s (r1.fz_mem h.1).rev h.2 k⟩⟩
  · exact h.elim
def wRev (w : WE) : WE := fun env R => w env fun d e1 => rdRev d fun z => R z e1
theorem de_rev (h : DE p X e we) : DE p X (.Subscript e (.Slice none none (some (.UnaryOp .USub (.Constant (.int 1) k p1) p2)) p3) pos) (wRev we) := by
  refine ⟨PEimp (pe_revA h.pe) ?_⟩
  rintro σ H Q ⟨F, B, env, As, R, s, hw, k⟩
  refine ⟨F, B, env, As, _, s, hw, fun v H1 F1 As1 a d e1 po1 t1 h1 => ?_⟩
  exact rev_core po1.so t1.rep h1 fun v' H3 F3 c z po3 t3 h3 => k v' H3 F3 As1 c z e1 (po1.trans (po3.imp fun _ => rfl)) t3 h3
def wRevB (w : WB) : WE := fun env R => w env fun d => rdRev d fun z => R z env
theorem de_revB (h : DB X e wb) : DE p X (.Subscript e (.Slice none none (some (.UnaryOp .USub (.Constant (.int 1) k p1) p2)) p3) pos) (wRevB wb) := by
  refine ⟨PEimp (pe_revA h.pe) ?_⟩
  rintro σ H Q ⟨F, B, env, As, R, s, hw, k⟩
  refine ⟨F, B, env, As, _, s, hw, fun v H1 F1 a d po1 t1 h1 => ?_⟩
  exact rev_core po1.so t1.rep h1 fun v' H3 F3 c z po3 t3 h3 => k v' H3 F3 As c z env ((po1.trans po3).imp fun _ => rfl) t3 h3
end
/-- list(range(n)), list(range(a, b)) -/
theorem rng_rep {K : PySem.W.Frag} {F H : Hp} (a b : Int) : RepL K F H (rng a (b - a).toNat) (rgV a b) [] := by
  have : rng a (b - a).toNat = (rgV a b).map D.sc := by
    unfold rng rgV
    rw [List.map_map]
    rfl
  rw [this]
  exact RepL.sc_of _
section
variable {X : Cx} {p : Bool} {e e2 : Expr} {we we2 : WE} {q q2 pos pos2 : Pos}
def wListRg (w : WE) : WE := fun env R => w env fun d e1 => asI d fun n => RgOk 0 n ∧ R (.lst true (rng 0 (n - 0).toNat)) e1
theorem de_listRg (hc : X.calm = true) (hg : Gl X "list") (hm : X.mg "list" = none) (hg2 : Gl X "range") (hm2 : X.mg "range" = none) (h : DE p X e we) (na : starEach [e] X.env = (false, eval e X.env) :: starEach [] X.env := by rfl)
    (na2 : starEach [.Call (.Name "range" q2) [e] [] pos2] X.env = (false, eval (.Call (.Name "range" q2) [e] [] pos2) X.env) :: starEach [] X.env := by rfl) : DE p X (.Call (.Name "list" q) [.Call (.Name "range" q2) [e] [] pos2] [] pos) (wListRg we) := by
  refine ⟨PEimp (pe_listRg hc hg hm (prg_1 hg2 hm2 h.pe na) na2) ?_⟩
  rintro σ H Q ⟨F, B, env, As, R, s, hw, k⟩
  refine ⟨F, B, env, As, _, s, hw, fun v H1 F1 As1 a d e1 po1 t1 h1 => ?_⟩
  obtain ⟨n, rfl, h1, h2⟩ := asI_inv h1
  obtain ⟨rfl, _⟩ := t1.rep.sc_inv
  exact ⟨n, rfl, h1, out_lst (R := fun z => R z e1) po1.so (rng_rep 0 n) h2 fun v' H3 F3 c z po3 t3 h3 => k v' H3 F3 As1 c z e1 (po1.trans (po3.imp fun _ => rfl)) t3 h3⟩
def wListRg2 (w w2 : WE) : WE := fun env R => w env fun d e1 => w2 e1 fun d2 e2 => asI d fun m => asI d2 fun n => RgOk m n ∧ R (.lst true (rng m (n - m).toNat)) e2
theorem de_listRg2 (hc : X.calm = true) (hg : Gl X "list") (hm : X.mg "list" = none) (hg2 : Gl X "range") (hm2 : X.mg "range" = none) (h : DE p X e we) (h2 : DE p X e2 we2) (na : starEach [e, e2] X.env = (false, eval e X.env) :: starEach [e2] X.env := by rfl) (na1 : starEach [e2] X.env = (false, eval e2 X.env) :: starEach [] X.env := by rfl)
    (na2 : starEach [.Call (.Name "range" q2) [e, e2] [] pos2] X.env = (false, eval (.Call (.Name "range" q2) [e, e2] [] pos2) X.env) :: starEach [] X.env := by rfl) : DE p X (.Call (.Name "list" q) [.Call (.Name "range" q2) [e, e2] [] pos2] [] pos) (wListRg2 we we2) := by
  refine ⟨PEimp (pe_listRg hc hg hm (prg_2 hg2 hm2 h.pe h2.pe na na1 (by rw [na1]; rfl)) na2) ?_⟩
  rintro σ H Q ⟨F, B, env, As, R, s, hw, k⟩
  refine ⟨F, B, env, As, _, s, hw, fun v H1 F1 As1 a d e1 po1 t1 h1 => ?_⟩
  refine ⟨F1, Bx B a, e1, As1, _, po1.so.push t1, h1, fun u H2 F2 As2 b d2 e2 po2 t2 g0 => ?_⟩
  obtain ⟨m, rfl, g1⟩ := asI_inv g0
  obtain ⟨n, rfl, h3, h4⟩ := asI_inv g1
  obtain ⟨rfl, _⟩ := t1.rep.sc_inv
  obtain ⟨rfl, _⟩ := t2.rep.sc_inv
  exact ⟨m, n, rfl, rfl, h3, out_lst (R := fun z => R z e2) po2.so.pop (rng_rep m n) h4 fun v' H3 F3 c z po3 t3 h3 => k v' H3 F3 As2 c z e2 ((po1.trans po2.pop).trans (po3.imp fun _ => rfl)) t3 h3⟩
end
theorem not_outK {n i : Nat} {vs : List Nat} (h : i ∈ vs) : i ∉ outK n vs := fun z => (outK_mem.mp z).2 h
/-- a recursion that has no turns left: nothing is promised -/
theorem fn_data0 {P : Program} {w : World} {K : PySem.W.Frag} {mg : Str → Option Value} {base : Heap} {f : Addr} {fd : FuncData} {ps : List Str} {k : Nat} : FnG P w K mg base CX0 k f fd ps (spD K fun _ _ => False) :=
  ⟨fun _ _ _ _ ⟨_, _, _, _, _, _, z, _⟩ => z.elim, fun _ _ _ _ _ _ _ _ _ _ _ _ _ _ ⟨_, _, _, _, _, _, z, _⟩ => z.elim⟩
/-- a module's constant that is a whole number -/
theorem de_globI {X : Cx} {p : Bool} {x : Str} {i : Int} {pos : Pos} (hg : Gl X x) (hm : ∃ t, X.mg x = some (.int i t)) (hd : (x == ("__debug__" : Str)) = false := by decide) : DE p X (.Name x pos) (wC (.int i)) := by
  obtain ⟨t, hm⟩ := hm
  exact de_glob hg hm (show RelV (V.int i) (Value.int i t) from ⟨t, rfl⟩) hd
/-! is, is not, of truth values -/
def rdIsB : RD2
  | .sc (.bl a), .sc (.bl b), R => R (.bl (decide (a = b)))
  | _, _, _ => False
def rdNotB : RD2
  | .sc (.bl a), .sc (.bl b), R => R (.bl (!decide (a = b)))
  | _, _, _ => False
theorem sIsB {K : PySem.W.Frag} : Snd2 K rIsB rdIsB := by
  intro F H B env σ As x y v u a b R Q s rx ry h k
  unfold rdIsB at h
  split at h
  · obtain ⟨rfl, _⟩ := rx.sc_inv
    obtain ⟨rfl, _⟩ := ry.sc_inv
    exact ⟨_, _, rfl, rfl, out_sc s h k⟩
  · exact h.elim
theorem sNotB {K : PySem.W.Frag} : Snd2 K rNotB rdNotB := by
  intro F H B env σ As x y v u a b R Q s rx ry h k
  unfold rdNotB at h
  split at h
  · obtain ⟨rfl, _⟩ := rx.sc_inv
    obtain ⟨rfl, _⟩ := ry.sc_inv
    exact ⟨_, _, rfl, rfl, out_sc s h k⟩
  · exact h.elim
end PL

/-! PLo: sorted ints; name[i] op= e with an index that draws; name.insert(i, e). -/
namespace PL
open PySem L2
def rdSorted : RDA
  | [.obj _ sh xs], R => isSeq sh = true ∧ ∃ ns : List Int, xs = ns.map (fun n => D.sc (V.int n)) ∧ ∀ ns' : List Int, ns'.Perm ns → ns'.Pairwise (· ≤ ·) → R (.lst true (ns'.map fun n => D.sc (V.int n)))
  | _, _ => False
theorem sSorted {K : PySem.W.Frag} : SndA K (rSortedI K) rdSorted := by
  intro F H B env σ As ds vs a R Q s r h k
  unfold rdSorted at h
  split at h
  · obtain ⟨hs, ns, rfl, h⟩ := h
    obtain ⟨v, rfl, a', r⟩ := r.one_inv'
    obtain ⟨p, us, a2, rfl, e1, r1⟩ := r.seq_inv hs s.same
    rw [map_sc] at r1
    obtain ⟨rfl, _⟩ := r1.sc_inv
    refine ⟨p, ns, rfl, e1, fun ns' q hp hs hq => ?_⟩
    have := h ns' hp hs
    exact out_lst s (by rw [map_sc]; exact RepL.sc_of _) this k q hq
  · exact h.elim
section
variable {X : Cx} {p : Bool} {kp : List Nat} {e o b : Expr} {we wi : WE} {pos : Pos}
/-- name[i] op= e -/
def sAugNx (rd : RD2) (i : Nat) (wi we : WE) : WS := fun env RD => (∃ d, env[i]? = some (some d)) ∧ wi env fun k e1 => asI k fun kk => ownL (e1[i]?) fun xs => ∃ j x, L2.ixN xs.length kk = some j ∧ xs[j]? = some x ∧ x.fz = true ∧
  we e1 fun y e2 => ownL (e2[i]?) fun ys => ∃ j2, L2.ixN ys.length kk = some j2 ∧ rd x y fun z => RD.nx (e2.set i (some (.lst true (ys.set j2 z))))
theorem ds_augNx {op : Operator} {r : R2} {rd : RD2} {i : Nat} {tpos : Pos} (ho : PE X o (tVar i)) (hi : DE p X b wi) (he : DE p X e we) (hop : OpR X (inplaceOp op) r) (hr : Snd2 X.K r rd)
    (ha : ∀ ov iv new, augStore b ov iv new = (do holding [new, ov, iv] (setItem ov iv new); release [new, ov, iv] []; pure .next) := by intros; rfl) : DS kp X (.AugAssign (.Subscript o b tpos) op e pos) (sAugNx rd i wi we) := by
  refine ⟨PSimp (ps_augS ho hi.pe get_list he.pe (show PIp X op r from hop) set_list ha) ?_⟩
  rintro D σ H ⟨F, B, env, As, RD, s, ⟨⟨d, hd⟩, hw⟩, k1, k2, k3, k4⟩
  obtain ⟨v, A0, h1, _, _⟩ := s.env.get hd
  refine ⟨v, h1, F, B, env, As, _, s, hw, fun iv H2 F2 As2 ai kd env2 po2 t2 h2 => ?_⟩
  obtain ⟨kk, rfl, h2⟩ := asI_inv h2
  obtain ⟨rfl, _⟩ := t2.rep.sc_inv
  obtain ⟨xs, g1, j, x, hj, hx, z, h2⟩ := ownL_inv h2
  obtain ⟨v', A, g2, g3, g4⟩ := po2.so.env.get g1
  rw [h1] at g2; cases g2
  obtain ⟨q, vs, w, A1, rfl, hq, hw2, hl, f3⟩ := (Foc.root g4).item hx
  obtain ⟨B1, B2, eB, r3, _⟩ := id f3
  have := r3.fzNil z; subst this
  refine ⟨q, vs, kk, w, rfl, rfl, .of hq, by unfold L2.atI; rw [← hl, hj]; exact hw2, ?_⟩
  refine ⟨F2, B, env2, As2, _, po2.so, h2, fun yv H3 F3 As3 ay y env3 po3 t3 h3 => ?_⟩
  obtain ⟨ys, g5, j2, hj2, h3⟩ := ownL_inv h3
  refine hr po3.so (r3.frame po3.ext fun _ z => nomatch z) t3.rep h3 fun zv H4 F4 az zd po4 t4 h4 => ?_
  obtain ⟨v', A3, g6, g7, g8⟩ := po4.so.env.get g5
  rw [h1] at g6; cases g6
  refine set_core po4.so g5 h1 g7 (.root g8) t4 hj2 h4 fun H5 As5 s5 kb h5 => ?_
  exact k1 σ H5 F4 As5 _ ⟨po2.ext.trans (po3.ext.trans po4.ext), s5, fun b hb => (kb b hb).trans ((po4.keep b hb).trans ((po3.keep b hb).trans (po2.keep b hb))), fun _ _ => rfl, rfl⟩ h5
/-- name.insert(i, e), frozen items -/
def wInsN (i : Nat) (wi we : WE) : WE := fun env R => ownL (env[i]?) fun _ => wi env fun k e1 => asI k fun kk => we e1 fun y e2 => ownL (e2[i]?) fun xs => D.fzL xs = true ∧ xs.length < sizeLine ∧ 0 ≤ kk ∧ kk < 2 ^ 63 ∧
  R .non (e2.set i (some (.lst true (xs.take kk.toNat ++ [y.frz] ++ xs.drop kk.toNat))))
theorem RepL.takeDrop {K : PySem.W.Frag} {F H : Hp} {xs : List D} {vs : List V} (r : RepL K F H xs vs []) (n : Nat) : RepL K F H (xs.take n) (vs.take n) [] ∧ RepL K F H (xs.drop n) (vs.drop n) [] := by
  have h1 := r.cut 0 n
  have h2 := r.cut n xs.length
  rw [List.drop_zero, List.drop_zero] at h1
  rw [List.take_of_length_le (by rw [List.length_drop]; omega), List.take_of_length_le (by rw [List.length_drop, ← r.length]; omega)] at h2
  exact ⟨h1, h2⟩
theorem de_insN {apos cpos : Pos} {i : Nat} (ho : PE X o (tVar i)) (hi : DE p X b wi) (he : DE p X e we)
    (hbase : attributeBase o "insert" X.env (eval o X.env) = eval o X.env := by rfl)
    (hfew : ((backTo cpos (starEach (b :: [e]) X.env)).all (fun x => !x.1) && (backToKw cpos (keywordEach [] X.env)).all (fun x => x.1.isSome)
      && decide ((b :: [e]).length + ([] : List Keyword).length + (if ([] : List Keyword).isEmpty then 0 else 1) < 30)) = true := by rfl)
    (hline : (apos.endLine == cpos.line) = true := by rfl) (hs : starEach (b :: [e]) X.env = (false, eval b X.env) :: starEach [e] X.env := by rfl) (hs2 : starEach (e :: []) X.env = (false, eval e X.env) :: starEach [] X.env := by rfl) (hplain : (backTo cpos (starEach [e] X.env)).any (·.1) = false := by rfl) :
    DE false X (.Call (.Attribute o "insert" apos) [b, e] [] cpos) (wInsN i wi we) := by
  refine ⟨PEimp (pe_bm PySem.F.plainAttrs_list PySem.F.slot_list_insert PySem.F.type_list_insert mt_insert ho (pa_cons hi.pe (pa_cons he.pe pa_nil hs2) hs) hbase hfew hline hs hplain) ?_⟩
  rintro σ H Q ⟨F, B, env, As, R, s, hw, k⟩
  obtain ⟨xs0, e0, hw⟩ := ownL_inv hw
  obtain ⟨v, A0, h1, h2, h3⟩ := s.env.get e0
  obtain ⟨q, vs, e1, e2⟩ := (Foc.root h3).tyL
  subst e1
  refine ⟨_, h1, .inl ⟨rfl, vs, .of e2⟩, F, B, env, As, _, s, hw, fun kv H0 F0 As0 ak kd env0 po0 t0 g => ?_⟩
  obtain ⟨kk, rfl, g⟩ := asI_inv g
  obtain ⟨rfl, _⟩ := t0.rep.sc_inv
  refine ⟨F0, B, env0, As0, _, po0.so, g, fun yv H1 F1 As1 ay y env1 po1 t1 g => ?_⟩
  obtain ⟨xs, g1, z, hl, k0, k1, g⟩ := ownL_inv g
  obtain ⟨v', A, g2, g3, g4⟩ := po1.so.env.get g1
  rw [h1] at g2; cases g2
  obtain ⟨po2, ry⟩ := po1.so.freeze t1
  have g4' := g4.frame po2.ext fun _ _ => rfl
  obtain ⟨q', ws, A3, eq, hq, r, nd3, ap, go⟩ := list_core (a := []) po2.so g1 h1 g3 (.root g4') (by simpa using po2.so.nd) (fun _ z => nomatch z) (fun _ z => nomatch z)
  cases eq
  have := r.fzNil z; subst this
  obtain ⟨rt, rd⟩ := r.takeDrop kk.toNat
  obtain ⟨As', s', kb, _⟩ := go _ _ _ ((rt.app (.one ry)).app rd) (by simp) (fun _ z => by simp at z)
  refine ⟨q, ws, kk, yv, rfl, rfl, hq, by rw [← r.length]; exact hl, k0, k1, ?_⟩
  exact k _ _ _ As' [] _ _ ((po0.weak.trans po1.weak).trans (po2.weak.trans ⟨.refl _, s', fun b hb => kb b hb, fun z => nomatch z⟩)) (.sc s' _) g
end
/-! xs[::step] of a tuple, step 1 or -1 -/
section
open PySem.Spec PyProof.Rows HT
variable {prog : Program} {w : World} {A : Around} {E : Value → Shared → Prop} {s : Shared}
theorem one_places (n : Nat) : Builtin.Slice.slicePlaces 0 (n : Int) 1 = n := by
  unfold Builtin.Slice.slicePlaces
  split
  · split
    · show ((((n : Int) - 0 - 1) / 1) + 1).toNat = n
      rw [Int.ediv_one]; omega
    · omega
  · omega
theorem sliceApplied_one {sl : Addr} {vl vu vs : Value} {n : Nat} {Q : Int × Int × Nat → Shared → Prop} (hs : s.heap.IsSliceOf sl vl vu vs) (pl : IsPart vl none) (pu : IsPart vu none) (ps : IsPart vs (some 1))
    (h : Q (0, 1, n) s) : wpAny (model prog w) A (Builtin.Slice.sliceApplied (.ref sl) (pure (n : Int))) Q E s := by
  obtain ⟨os, hos, hcs, hds⟩ := id hs
  unfold Builtin.Slice.sliceApplied Builtin.Slice.sliceFields
  refine wpAny_bind (wpAny_bind (wpAny_field hos hds (x := vl) rfl (wpAny_bind (wpAny_field hos hds (x := vu) rfl (wpAny_bind (wpAny_field hos hds (x := vs) rfl (wpAny_pure ?_)))))))
  refine wpAny_bind (slicePart_ ps ?_)
  show wpAny _ _ (if ((1 : Int) == 0) = true then _ else _) _ _ s
  rw [if_neg (by decide)]
  refine wpAny_bind (slicePart_ pl (wpAny_bind (slicePart_ pu (wpAny_bind (wpAny_pure (wpAny_pure ?_))))))
  show Q (0, 1, Builtin.Slice.slicePlaces 0 (n : Int) 1) s
  rw [one_places]
  exact h
theorem getItem_tuple_one {t sl : Addr} {items : Array Value} {vl vu vs : Value} {Q : Value → Shared → Prop} (ht : IsTup s.heap t items) (hs : s.heap.IsSliceOf sl vl vu vs) (pl : IsPart vl none) (pu : IsPart vu none) (ps : IsPart vs (some 1))
    (h : Q (.ref t) s) : wpAny (model prog w) A (getItem (.ref t) (.ref sl)) Q E s := by
  obtain ⟨os, hos, hcs, hds⟩ := id hs
  have hTs : s.TypeIs (.ref sl) "slice" := ⟨os, hos, hcs⟩
  unfold getItem
  try with_reducible refine wpAny_holding ?_
  first | refine wpAny_bind (wpAny_pure ?_) | skip
  refine wpAny_bind (wpAny_sequenceKey ht.typeIs (by decide) ?_)
  refine wpAny_bind (wpAny_callSpecial?_slot (name := Str.ofString "__getitem__") ht.typeIs slot_tuple_getitem (wpAny_call_entry slot_tuple_getitem ht.typeIs entry_tuple_getitem ?_ (args_tuple_getitem _ _)))
  show wpAny _ _ (Builtin.Tuple.tupleItemsOf (.ref t) >>= _) _ _ s
  refine wpAny_bind (tupleItemsOf_ ht (wpAny_bind (wpAny_typeOf hTs ?_)))
  rw [if_pos (by decide)]
  refine wpAny_bind (sliceApplied_one hs pl pu ps ?_)
  show wpAny _ _ (if ((0 : Int) == 0 && (1 : Int) == 1 && items.size == items.size) = true then _ else _) _ _ s
  rw [if_pos (by simp)]
  unfold Builtin.Tuple.tupleIsExact
  refine wpAny_bind (wpAny_bind (wpAny_typeOf ht.typeIs (wpAny_pure ?_)))
  rw [if_pos (by decide)]
  refine wpAny_bind (wpAny_rule ?_)
  first
    | exact wpAny_pure ⟨_, rfl, wpAny_pure h⟩
    | exact ⟨_, rfl, wpAny_pure h⟩
/-- xs[::st] of a tuple -/
def tRevS (K : PySem.W.Frag) (te ts : TE) : TE := fun σ H Q => te σ H fun x H1 => tPart ts σ H1 fun o H2 => ∃ a xs, x = .ref a ∧ SqT K H2 a xs ∧ ((o = some (-1) ∧ ∀ p, H2 p = none → Q (.ref p) (upd H2 p (.tup xs.reverse))) ∨ (o = some 1 ∧ Q (.ref a) H2))
theorem pe_revS {X : Cx} {e st : Expr} {te ts : TE} {p3 pos : Pos} (he : PE X e te) (hst : PE X st ts) : PE X (.Subscript e (.Slice none none (some st) p3) pos) (tRevS X.K te ts) := by
  refine ⟨fun pins s σ H Q I h => Subscript_ (thn (he.run pins s σ H _ I h) ?_)⟩
  rintro v s1 ⟨x, H1, I1, r1, q⟩
  have step : PO X (some st) (tPart ts) := po_some hst
  refine wpAny_Slice (thn (po_none.run pins s1 σ H1 (fun o H2 => o = none ∧ H2 = H1) I1 ⟨rfl, rfl⟩) ?_)
  rintro vl s2 ⟨l, H2, I2, pl, rfl, rfl⟩
  refine thn (po_none.run pins s2 σ H2 (fun o H3 => o = none ∧ H3 = H2) I2 ⟨rfl, rfl⟩) ?_
  rintro vu s3 ⟨u, H3, I3, pu, rfl, rfl⟩
  refine thn (step.run pins s3 σ H3 _ I3 q) ?_
  rintro vs s4 ⟨o, H4, I4, ps, a, xs, rfl, hx, q⟩
  obtain rfl : v = Value.ref a := r1
  have I5 : Inv X pins σ H4 { s4 with heap := s4.heap.push { cls := .type "slice", data := .fields #[vl, vu, vs] } } := I4.kept (t' := s4.toks) fun b ob q => Heap.get?_push_of_some _ q
  show wpAny (model X.prog X.w) X.A (subscriptTail e (.Slice none none (some st) p3) (.ref a) (.ref s4.heap.objs.size)) (EP X pins σ Q) X.xe { s4 with heap := s4.heap.push { cls := .type "slice", data := .fields #[vl, vu, vs] } }
  obtain ⟨its, r, ht, hz⟩ := I5.tuple hx
  have hlen := r.length
  rcases q with ⟨rfl, q⟩ | ⟨rfl, q⟩
  · refine tail_any (ops := [.ref a, .ref s4.heap.objs.size]) ht.typeIs slot_tuple_getitem.lookup (getItem_tuple_rev ht (Heap.IsSliceOf.new _ vl vu vs) pl pu ps ?_ (by rw [List.size_toArray]; omega)) (by with_unfolding_all rfl)
    exact ⟨.ref _, _, I5.laid (t' := s4.toks) (o := .tup xs.reverse) (fun b ob q => Heap.get?_push_of_some _ q) (Nat.le_refl _) ⟨by rw [List.length_reverse]; exact hz, _, r.reverse, IsTup.new _ _⟩, rfl, q _ (I5.hok.fresh (Nat.le_refl _))⟩
  · refine tail_any (ops := [.ref a, .ref s4.heap.objs.size]) ht.typeIs slot_tuple_getitem.lookup (getItem_tuple_one ht (Heap.IsSliceOf.new _ vl vu vs) pl pu ps ?_) (by with_unfolding_all rfl)
    exact ⟨.ref _, _, I5, rfl, q⟩
/-- xs[::k] of frozen items, k 1 or -1 -/
def rdStep : D → Int → (D → Prop) → Prop
  | .tup xs, k, R => D.fzL xs = true ∧ (k = 1 ∨ k = -1) ∧ R (.tup (if k = 1 then xs else xs.reverse))
  | _, _, _ => False
def wRevS (we ws : WE) : WE := fun env R => we env fun d e1 => ws e1 fun k e2 => asI k fun kk => rdStep d kk fun z => R z e2
theorem de_revS {X : Cx} {p : Bool} {e st : Expr} {we ws : WE} {p3 pos : Pos} (h : DE p X e we) (hst : DE p X st ws) : DE p X (.Subscript e (.Slice none none (some st) p3) pos) (wRevS we ws) := by
  refine ⟨PEimp (pe_revS h.pe hst.pe) ?_⟩
  rintro σ H Q ⟨F, B, env, As, R, s, hw, k⟩
  refine ⟨F, B, env, As, _, s, hw, fun v H1 F1 As1 a d e1 po1 t1 h1 => ?_⟩
  refine ⟨F1, Bx B a, e1, As1, _, po1.so.push t1, h1, fun u H2 F2 As2 b kd e2 po2 t2 g0 => ?_⟩
  obtain ⟨m, rfl, g1⟩ := asI_inv g0
  obtain ⟨rfl, _⟩ := t2.rep.sc_inv
  refine ⟨m, rfl, ?_⟩
  unfold rdStep at g1
  split at g1
  · rename_i xs kk R'
    obtain ⟨z, hk, g⟩ := g1
    have t1' := t1.keep po2
    obtain ⟨q, us, rfl, e1', r1⟩ := t1'.rep.tup_inv po2.so.same
    have r2 := r1.fz_mem z
    have po12 := po1.trans po2.pop
    refine ⟨q, us, rfl, e1', ?_⟩
    rcases hk with rfl | rfl
    · refine .inr ⟨rfl, ?_⟩
      rw [if_pos rfl] at g
      exact k _ H2 F2 As2 [] _ e2 po12 (.fz (by
        have := t1'.rep
        rw [this.fzNil (by simpa [D.fz] using z)] at this
        exact this) po12.so) g
    · refine .inl ⟨rfl, ?_⟩
      rw [if_neg (by decide)] at g
      exact out_tup po2.so.pop r2.rev g fun v' H3 F3 c z' po3 t3 h3 => k v' H3 F3 As2 c z' e2 (po12.trans (po3.imp fun _ => rfl)) t3 h3
  · exact g1.elim
end
/-! a pure expression in which a name's own value is looked at as frozen; scalars, or a list of scalars, come out -/
def outD : D → Bool
  | .sc _ => true
  | .obj true .lst xs => (D.scs xs).isSome
  | _ => false
def seeE (env : En) : En := env.map fun o => o.map D.frz
/-- w, where all own values are looked at as frozen -/
def wView (w : WE) : WE := fun env R => w (seeE env) fun r _ => outD r = true ∧ R r env
theorem EnvR.see {K : PySem.W.Frag} {F F' H : Hp} {env : En} {σ : L2.St} {As : List (List Addr)} (r : EnvR K F H env σ As) (e : Same F F') (h : ∀ a ∈ As.flatten, F' a = H a) : EnvR K F' H (seeE env) σ (As.map fun _ => []) := by
  induction r with
  | nil => exact .nil
  | emp _ ih => exact .emp (ih fun a ha => h a (by simpa using ha))
  | val r _ ih => exact .val (r.freeze e fun a ha => h a (by rw [List.flatten_cons]; exact List.mem_append_left _ ha)) (ih fun a ha => h a (by rw [List.flatten_cons]; exact List.mem_append_right _ ha))
theorem EnvR.there {K : PySem.W.Frag} {F H : Hp} {env : En} {σ : L2.St} {As : List (List Addr)} (r : EnvR K F H env σ As) : ∀ a ∈ As.flatten, ∃ o, H a = some o := by
  induction r with
  | nil => exact fun a ha => nomatch ha
  | emp _ ih => exact fun a ha => ih a (by simpa using ha)
  | val r _ ih =>
    intro a ha
    rw [List.flatten_cons] at ha
    exact (List.mem_append.mp ha).elim (r.there a) (ih a)
theorem empties {α β : Type} (l : List α) : (l.map fun _ => ([] : List β)).flatten = [] := by
  induction l with
  | nil => rfl
  | cons _ _ ih => simpa using ih
theorem de_view {X : Cx} {p q : Bool} {e : Expr} {w : WE} (h : DE q X e w) : DE p X e (wView w) := by
  refine ⟨PEimp h.pe ?_⟩
  rintro σ H Q ⟨F, B, env, As, R, s, hw, k⟩
  have ef := fzAt_same (H := H) s.fr
  have there : ∀ x ∈ As.flatten, ∃ o, H x = some o := s.env.there
  have s2 : SO X.K (fzAt F H As.flatten) H B (seeE env) σ (As.map fun _ => []) := ⟨fzAt_sub s.same, s.env.see ef fun a ha => fzAt_in ha, by rw [empties]; exact List.nodup_nil, (by rw [empties]; exact fun _ z => nomatch z), fun b hb => by
    obtain ⟨g1, g2, g3⟩ := s.out b hb
    exact ⟨by rw [fzAt_out g3]; exact g1, g2, (by rw [empties]; exact fun z => nomatch z)⟩⟩
  refine ⟨_, B, _, _, _, s2, hw, fun v' H' F' As' c z env' po2 t2 ⟨hz, hR⟩ => ?_⟩
  have F2H : Same (fzAt F H As.flatten) H' := po2.ext.trans po2.so.same
  have keepA : ∀ x ∈ As.flatten, H' x = H x := by
    intro x hx
    obtain ⟨o, ho⟩ := there x hx
    rw [ho]; exact F2H x o (by rw [fzAt_in hx]; exact ho)
  have so' : SO X.K F H' B env σ As := ⟨ef.trans F2H, s.env.frame (Same.refl _) keepA, s.nd, s.fr, fun b hb => by
    obtain ⟨g1, ⟨o, g2⟩, g3⟩ := s.out b hb
    exact ⟨g1, ⟨o, by rw [po2.keep b hb]; exact g2⟩, g3⟩⟩
  refine k v' H' F As c z env ⟨Same.refl _, so', po2.keep, fun _ => ⟨rfl, rfl, keepA⟩⟩ ?_ hR
  unfold outD at hz
  split at hz
  · obtain ⟨rfl, rfl⟩ := t2.rep.sc_inv
    exact .sc so' _
  · rename_i xs
    obtain ⟨ws, hws⟩ := Option.isSome_iff_exists.mp hz
    have := D.scs_some hws
    subst this
    obtain ⟨g1, g2, g3, g4⟩ := t2
    cases g1 with
    | own hc rr =>
      rename_i q us A0
      obtain ⟨rfl, rfl⟩ := rr.sc_inv
      have hq := g3 q (List.mem_cons_self ..)
      have na : q ∉ As.flatten := by
        intro z
        obtain ⟨o, ho⟩ := there q z
        have := po2.ext q o (by rw [fzAt_in z]; exact ho)
        rw [hq] at this; cases this
      have hF : F q = none := by
        cases hFq : F q with
        | none => rfl
        | some o =>
          have := po2.ext q o (ef q o hFq)
          rw [hq] at this; cases this
      exact ⟨.own hc (RepL.sc_of _), by simpa using ⟨fun x hx z => na (List.mem_flatten.mpr ⟨x, hx, z⟩), s.nd⟩, fun x hx => by rw [List.mem_singleton.mp hx]; exact hF, fun x hx => g4 x hx⟩
  · exact absurd hz (by simp)
/-- name.pop(i), i may draw -/
def wPopAtN (i : Nat) (wi : WE) : WE := fun env R => ownL (env[i]?) fun _ => wi env fun k e1 => asI k fun kk => ownL (e1[i]?) fun xs => -(2 ^ 63) ≤ kk ∧ kk < 2 ^ 63 ∧ ∃ j x, L2.ixN xs.length kk = some j ∧ xs[j]? = some x ∧ x.fz = true ∧ R x (e1.set i (some (.lst true (xs.eraseIdx j))))
theorem de_popAtN {X : Cx} {p : Bool} {o e : Expr} {wi : WE} {apos cpos : Pos} {i : Nat} (ho : PE X o (tVar i)) (hi : DE p X e wi) (hbase : attributeBase o "pop" X.env (eval o X.env) = eval o X.env := by rfl)
    (hfew : ((backTo cpos (starEach (e :: []) X.env)).all (fun x => !x.1) && (backToKw cpos (keywordEach [] X.env)).all (fun x => x.1.isSome)
      && decide ((e :: []).length + ([] : List Keyword).length + (if ([] : List Keyword).isEmpty then 0 else 1) < 30)) = true := by rfl)
    (hline : (apos.endLine == cpos.line) = true := by rfl) (hs : starEach (e :: []) X.env = (false, eval e X.env) :: starEach [] X.env := by rfl) (hplain : (backTo cpos (starEach [] X.env)).any (·.1) = false := by rfl) :
    DE false X (.Call (.Attribute o "pop" apos) [e] [] cpos) (wPopAtN i wi) := by
  refine ⟨PEimp (pe_bm PySem.F.plainAttrs_list PySem.F.slot_list_pop PySem.F.type_list_pop mt_popAt ho (pa_cons hi.pe pa_nil hs) hbase hfew hline hs hplain) ?_⟩
  rintro σ H Q ⟨F, B, env, As, R, s, hw, k⟩
  obtain ⟨xs0, e0, hw⟩ := ownL_inv hw
  obtain ⟨v, A0, h1, h2, h3⟩ := s.env.get e0
  obtain ⟨q, vs0, e1, e2⟩ := (Foc.root h3).tyL
  subst e1
  refine ⟨_, h1, .inl ⟨rfl, vs0, .of e2⟩, F, B, env, As, _, s, hw, fun yv H2 F2 As2 ay y env2 po2 t2 g => ?_⟩
  obtain ⟨kk, rfl, g⟩ := asI_inv g
  obtain ⟨rfl, _⟩ := t2.rep.sc_inv
  obtain ⟨xs, g1, hk1, hk2, j, x, hj, hx, z, g⟩ := ownL_inv g
  obtain ⟨v', A, g2, g3, g4⟩ := po2.so.env.get g1
  rw [h1] at g2; cases g2
  obtain ⟨q', vs, A3, eq, hq, r, nd3, ap, go⟩ := list_core (a := []) po2.so g1 h1 g3 (.root g4) (by simpa using po2.so.nd) (fun _ z => nomatch z) (fun _ z => nomatch z)
  cases eq
  obtain ⟨w, A4, A5, A6, h3', h4, h5, h6⟩ := r.erase hx
  have := h5.fzNil z; subst this
  obtain ⟨As', s', kb, _⟩ := go _ _ (A4 ++ A6) h6 (by rw [h4] at nd3; exact nodup3 nd3) fun x hx => .inl (by rw [h4]; simpa using hx)
  have hj2 := ixN_seq hj
  refine ⟨q, vs, kk, j, w, rfl, rfl, hq, hk1, hk2, by rw [← r.length]; exact hj2.1, h3', ?_⟩
  exact k _ _ F2 As' [] x _ ⟨po2.ext, s', fun b hb => (kb b hb).trans (po2.keep b hb), fun z => nomatch z⟩ (.fz (h5.frame (Same.refl _) fun _ z => nomatch z) s') g
end PL

/-! PLp: statements that are never reached. -/
namespace PL
open PySem L2
/-- a statement that is never reached -/
def sNever : WS := fun _ _ => False
theorem ds_never {kp : List Nat} {X : Cx} {st : Stmt} : DS kp X st sNever := ⟨PSimp ps_never fun D σ H ⟨F, B, env, As, RD, s, hw, _⟩ => hw.elim⟩
end PL

/-! PLq: data in order: sorted, min, max of any data; <, <=, >, >= of them. -/
namespace PL
open PySem L2
/-- x < y as Python compares data -/
def dLt (x y : D) : Bool := PySem.W.dataLt x.py y.py
/-- data that can be compared -/
structure OrdL (xs : List D) : Prop where
  fz : D.fzL xs = true
  shp : ∀ x ∈ xs, x.shp = true
  ali : PySem.W.AllAlike (D.pyL xs)
  srt : PySem.W.Sortable (D.pyL xs)
  dep : ∀ x ∈ xs, x.py.depth ≤ 60
  len : xs.length ≤ sizeLine
def sortD (xs : List D) : List D := xs.mergeSort (PySem.W.dataLe false D.py)
theorem sortD_perm (xs : List D) : (sortD xs).Perm xs := List.mergeSort_perm ..
theorem dLt_irrefl (x : D) : dLt x x = false := PyProof.Rows.lex_irrefl _
theorem dLt_trans {x y z : D} (h : dLt x y = true) (k : dLt y z = true) : dLt x z = true := PyProof.Rows.lex_trans _ _ _ h k
theorem dLt_neg {x y z : D} (h : dLt x y = false) (k : dLt y z = false) : dLt x z = false := by
  rw [← Bool.not_eq_true]
  intro q
  cases hyx : dLt y x with
  | true => have := dLt_trans hyx q; rw [k] at this; cases this
  | false =>
    have e := PyProof.Rows.lex_total _ _ h hyx
    unfold dLt PySem.W.dataLt at q k
    rw [e] at q; rw [q] at k; cases k
theorem sortD_sorted (xs : List D) : (sortD xs).Pairwise fun x y => dLt y x = false := by
  have h := List.pairwise_mergeSort (le := PySem.W.dataLe false D.py) (l := xs) ?_ ?_
  · refine h.imp fun {x y} h => ?_
    rw [PySem.W.dataLe_eq] at h
    simpa [dLt] using h
  · intro a b c h k
    rw [PySem.W.dataLe_eq] at *
    simp at *
    exact dLt_neg (x := c) (y := b) (z := a) k h
  · intro a b
    rw [PySem.W.dataLe_eq]
    simp
    cases h : PySem.W.dataLt b.py a.py with
    | false => exact .inl rfl
    | true =>
      right
      rw [← Bool.not_eq_true]
      intro q
      have := PyProof.Rows.lex_trans _ _ _ h q
      rw [PyProof.Rows.lex_irrefl] at this
      cases this
section
variable {K : PySem.W.Frag} {F H : Hp}
/-- what a value stands for -/
def RV (K : PySem.W.Frag) (F H : Hp) (v : Value) (d : D) : Prop := ∃ u : V, RelV u v ∧ Rep K F H d u []
theorem each_of : ∀ {xs : List D} {us : List V} {its : List Value}, RepL K F H xs us [] → Vals us its → PySem.W.EachIs (RV K F H) its xs
  | [], _, _, r, rv => by
    obtain ⟨rfl, _⟩ := r.nil_inv
    cases rv
    exact .nil
  | x :: xs, _, _, r, rv => by
    obtain ⟨v, us, A1, A2, rfl, e, r1, r2⟩ := r.cons_inv
    obtain ⟨rfl, rfl⟩ := List.append_eq_nil_iff.mp e.symm
    cases rv with
    | cons h hs => exact .cons ⟨v, h, r1⟩ (each_of r2 hs)
theorem each_to : ∀ {xs : List D} {its : List Value}, PySem.W.EachIs (RV K F H) its xs → ∃ us, Vals us its ∧ RepL K F H xs us []
  | _, _, .nil => ⟨[], .nil, .nil⟩
  | _, _, .cons ⟨u, h, r⟩ hs => by
    obtain ⟨us, h2, r2⟩ := each_to hs
    exact ⟨u :: us, .cons h h2, .cons (A := []) (B := []) r r2⟩
end
section
variable {X : Cx}
theorem ord_reads {pins : List (Addr × Obj)} {σ : L2.St} {H F : Hp} {s : Shared} {xs : List D} (I : Inv X pins σ H s) (sm : Same F H) (hx : ∀ x ∈ xs, x.shp = true) : ∀ {its : List Value}, PySem.W.EachIs (RV X.K F H) its xs → PySem.W.EachIs (fun v d => ∃ as, PySem.Reads s.heap v (D.py d) as) its xs := by
  induction xs with
  | nil => intro its h; cases h; exact .nil
  | cons x xs ih =>
    intro its h
    cases h with
    | cons h hs =>
      obtain ⟨u, h1, r⟩ := h
      exact .cons (Dp.reads I _ _ _ (r.dp sm (hx _ (List.mem_cons_self ..))) h1) (ih (fun z hz => hx z (List.mem_cons_of_mem _ hz)) hs)
def rSortedDat (K : PySem.W.Frag) : List V → Hp → VK → Prop := fun vs H Q => ∃ F a xs us, vs = [V.ref a] ∧ SqL K H a us ∧ Same F H ∧ RepL K F H xs us [] ∧ OrdL xs ∧
  ∀ outV p, RepL K F H (sortD xs) outV [] → H p = none → Q (.ref p) (upd H p (.lst outV))
theorem cr_sortedDat (hu : X.A.units + 64 < cLine) : CallR X (.builtin "sorted") (rSortedDat X.K) := by
  intro pins s σ H vs us Q I r h
  obtain ⟨F, a, xs, ws, rfl, hs, sm, rl, o, q⟩ := h
  obtain ⟨its, rv, hl, hz⟩ := I.list hs
  rw [Vals.ref1 r]
  have e := each_of rl rv
  have hp := D.pyL_map xs
  have h1 := o.ali
  have h2 := o.srt
  rw [hp] at h1 h2
  refine PySem.W.sorted_data hl.isList e (ord_reads I sm o.shp e) h1 h2 o.len (fun b hb => by have := o.dep b hb; omega) fun out ho eo => ?_
  obtain ⟨outV, k1, k2⟩ := each_to eo
  obtain ⟨ep, he'⟩ := PyProof.Rows.sortedAll_at s.heap its out.toArray
  have hlen : outV.length ≤ sizeLine := by rw [Paired.length k1, ho]; exact o.len
  exact ⟨.ref _, upd H (s.heap.objs.size + 1) (.lst outV), I.laid (t' := s.toks) (fun _ _ => PyProof.Rows.sortedAll_old) (Nat.le_succ _) ⟨hlen, out, ep, k1, he'⟩, rfl, q _ _ k2 (I.hok.fresh (Nat.le_succ _))⟩
def rdSortedD : RDA
  | [.obj _ sh xs], R => isSeq sh = true ∧ OrdL xs ∧ R (.lst true (sortD xs))
  | _, _ => False
theorem sSortedD {K : PySem.W.Frag} : SndA K (rSortedDat K) rdSortedD := by
  intro F H B env σ As ds vs a R Q s r h k
  unfold rdSortedD at h
  split at h
  · obtain ⟨hs, o, h⟩ := h
    obtain ⟨v, rfl, a', r⟩ := r.one_inv'
    obtain ⟨p, us, a2, rfl, e1, r1⟩ := r.seq_inv hs s.same
    exact ⟨F, p, _, us, rfl, e1, s.same, r1.fz_mem o.fz, o, fun outV q r2 hq => out_lst s r2 h k q hq⟩
  · exact h.elim
theorem each_at : ∀ {xs : List D} {its : List Value} {K : PySem.W.Frag} {F H : Hp}, PySem.W.EachIs (RV K F H) its xs → ∀ {i : Nat} {v : Value}, its[i]? = some v → ∃ d u, xs[i]? = some d ∧ RelV u v ∧ Rep K F H d u []
  | _, _, _, _, _, .nil, i, v, h => by simp at h
  | _, _, _, _, _, .cons ⟨u, hu, r⟩ hs, 0, v, h => by
    simp at h; subst h
    exact ⟨_, u, rfl, hu, r⟩
  | _, _, _, _, _, .cons _ hs, i + 1, v, h => by
    simp at h
    obtain ⟨d, u, h1, h2, h3⟩ := each_at hs h
    exact ⟨d, u, by simpa using h1, h2, h3⟩
theorem reads_all : ∀ {xs : List D} {its : List Value} {h : Heap}, PySem.W.EachIs (fun v d => ∃ as, PySem.Reads h v (D.py d) as) its xs → ∃ as, PySem.ReadsAll h its (xs.map D.py) as
  | _, _, _, .nil => ⟨_, .nil⟩
  | _, _, _, .cons ⟨as, r⟩ hs => by
    obtain ⟨bs, r2⟩ := reads_all hs
    exact ⟨_, .cons r r2⟩
/-- the least of data, as the fold tells it -/
theorem minD_spec (x : D) : ∀ (xs : List D), ∃ m ∈ x :: xs, PySem.W.minD x.py (xs.map D.py) = m.py ∧ ∀ y ∈ x :: xs, dLt y m = false := by
  have go : ∀ (xs seen : List D) (a : D), a ∈ x :: seen → (∀ y ∈ x :: seen, dLt y a = false) → ∃ m ∈ x :: (seen ++ xs), List.foldl (fun a y => if PySem.W.dataLt y a then y else a) a.py (xs.map D.py) = m.py ∧ ∀ y ∈ x :: (seen ++ xs), dLt y m = false := by
    intro xs
    induction xs with
    | nil => intro seen a ha hm; exact ⟨a, by simpa using ha, rfl, by simpa using hm⟩
    | cons z xs ih =>
      intro seen a ha hm
      rw [List.map_cons, List.foldl_cons]
      cases hz : PySem.W.dataLt z.py a.py with
      | true =>
        have := ih (seen ++ [z]) z (by simp) (fun y hy => by
          have e : dLt a z = false := by
            rw [← Bool.not_eq_true]; intro q
            have := dLt_trans (x := z) hz q
            rw [dLt_irrefl] at this; cases this
          rcases List.mem_cons.mp hy with rfl | hy
          · exact dLt_neg (hm _ (List.mem_cons_self ..)) e
          · rcases List.mem_append.mp hy with hy | hy
            · exact dLt_neg (hm y (List.mem_cons_of_mem _ hy)) e
            · rw [List.mem_singleton.mp hy]; exact dLt_irrefl z)
        simpa using this
      | false =>
        have := ih (seen ++ [z]) a (by rcases List.mem_cons.mp ha with h | h <;> simp [h]) (fun y hy => by
          rcases List.mem_cons.mp hy with rfl | hy
          · exact hm _ (List.mem_cons_self ..)
          · rcases List.mem_append.mp hy with hy | hy
            · exact hm y (List.mem_cons_of_mem _ hy)
            · rw [List.mem_singleton.mp hy]; exact hz)
        simpa using this
  intro xs
  have := go xs [] x (by simp) (fun y hy => by simp at hy; subst hy; exact dLt_irrefl _)
  unfold PySem.W.minD
  simpa using this
/-- min of a list of data -/
def rMinDat (K : PySem.W.Frag) : List V → Hp → VK → Prop := fun vs H Q => ∃ F a xs us, vs = [V.ref a] ∧ SqL K H a us ∧ Same F H ∧ RepL K F H xs us [] ∧ OrdL xs ∧ xs ≠ [] ∧ (∀ x ∈ xs, x.py ≠ .none) ∧
  ∀ d u, d ∈ xs → Rep K F H d u [] → (∀ y ∈ xs, dLt y d = false) → Q u H
theorem cr_minDat (hc : X.calm = true) (hu : X.A.units + 64 < cLine) : CallR X (.builtin "min") (rMinDat X.K) := by
  intro pins s σ H vs us Q I r h
  obtain ⟨F, a, xs, ws, rfl, hs, sm, rl, o, ne, nn, q⟩ := h
  obtain ⟨its, rv, hl, hz⟩ := I.list hs
  rw [Vals.ref1 r]
  have e := each_of rl rv
  have h1 := o.ali
  rw [D.pyL_map xs] at h1
  obtain ⟨as, ra⟩ := reads_all (ord_reads I sm o.shp e)
  have hd : PyData.depthAll (xs.map D.py) ≤ 60 := by
    have : ∀ l : List D, (∀ x ∈ l, x.py.depth ≤ 60) → PyData.depthAll (l.map D.py) ≤ 60 := by
      intro l
      induction l with
      | nil => intro _; exact Nat.zero_le _
      | cons x l ih =>
        intro hx
        rw [List.map_cons]
        simp only [PyData.depthAll]
        have := hx x (List.mem_cons_self ..)
        have := ih fun z hz => hx z (List.mem_cons_of_mem _ hz)
        omega
    exact this xs o.dep
  cases xs with
  | nil => exact absurd rfl ne
  | cons x xs =>
    rw [List.map_cons] at ra h1 hd
    refine PySem.W.min_list_data (I.ok.hd hc) hl.isList (by simpa using ra) ⟨fun d hd d' hd' => h1 d hd d' hd', fun d hd => ?_⟩ (by omega) fun i v h' tk bs hi hr hk => ?_
    · rcases List.mem_cons.mp hd with rfl | hd
      · exact nn x (List.mem_cons_self ..)
      · obtain ⟨z, hz, rfl⟩ := List.mem_map.mp hd
        exact nn z (List.mem_cons_of_mem _ hz)
    · obtain ⟨d, u, g1, g2, g3⟩ := each_at e (i := i) (v := v) (by simpa using hi)
      have hm := List.mem_of_getElem? g1
      obtain ⟨m, mm, me, ml⟩ := minD_spec x xs
      have I2 : Inv X pins σ H { s with heap := h', toks := tk } := I.kept hk
      obtain ⟨as2, r2⟩ := Dp.reads I2 _ _ _ (g3.dp sm (o.shp d hm)) g2
      have ed : d.py = PySem.W.minD x.py (xs.map D.py) := by
        refine PySem.W.alike_unique _ _ _ _ _ ?_ r2 hr
        rw [me]
        have mem : ∀ z ∈ x :: xs, z.py ∈ x.py :: xs.map D.py := fun z hz => by
          rw [← List.map_cons]; exact List.mem_map.mpr ⟨z, hz, rfl⟩
        exact h1 _ (mem d hm) _ (mem m mm)
      exact ⟨u, H, I2, g2, q d u hm g3 fun y hy => by
        have := ml y hy
        unfold dLt at this ⊢
        rw [ed, me]; exact this⟩
def rdMinD : RDA
  | [.obj _ sh xs], R => isSeq sh = true ∧ OrdL xs ∧ xs ≠ [] ∧ (∀ x ∈ xs, x.py ≠ .none) ∧ ∀ d ∈ xs, (∀ y ∈ xs, dLt y d = false) → R d
  | _, _ => False
theorem sMinD {K : PySem.W.Frag} : SndA K (rMinDat K) rdMinD := by
  intro F H B env σ As ds vs a R Q s r h k
  unfold rdMinD at h
  split at h
  · obtain ⟨hs, o, ne, nn, h⟩ := h
    obtain ⟨v, rfl, a', r⟩ := r.one_inv'
    obtain ⟨p, us, a2, rfl, e1, r1⟩ := r.seq_inv hs s.same
    exact ⟨F, p, _, us, rfl, e1, s.same, r1.fz_mem o.fz, o, ne, nn, fun d u hd rd hm => out_old s rd (h d hd hm) k⟩
  · exact h.elim
/-! <, <=, >, >= of data -/
def rCmpDat (K : PySem.W.Frag) (f : PyData → PyData → Bool) : R2 := fun x y H Q => ∃ d e, Dp K H x d ∧ Dp K H y e ∧ PySem.W.alike d e = true ∧ d ≠ .none ∧ min d.depth e.depth ≤ 60 ∧ Q (.bl (f d e)) H
theorem op_ltDat (hu : X.A.units + 64 < cLine) : OpR X (compareOp .Lt) (rCmpDat X.K fun d e => PySem.W.dataLt d e) := by
  intro pins s σ H x y v u Q I rx ry h
  obtain ⟨d, e, hd, he, ha, hn, hp, q⟩ := h
  obtain ⟨as, r1⟩ := Dp.reads I d x v hd rx
  obtain ⟨bs, r2⟩ := Dp.reads I e y u he ry
  exact PySem.W.lt_data r1 r2 ha hn (by omega) ⟨.bl _, H, I, rfl, q⟩
theorem op_gtDat (hu : X.A.units + 64 < cLine) : OpR X (compareOp .Gt) (rCmpDat X.K fun d e => PySem.W.dataLt e d) := by
  intro pins s σ H x y v u Q I rx ry h
  obtain ⟨d, e, hd, he, ha, hn, hp, q⟩ := h
  obtain ⟨as, r1⟩ := Dp.reads I d x v hd rx
  obtain ⟨bs, r2⟩ := Dp.reads I e y u he ry
  exact PySem.W.gt_data r1 r2 ha hn (by omega) ⟨.bl _, H, I, rfl, q⟩
theorem op_leDat (hu : X.A.units + 64 < cLine) : OpR X (compareOp .LtE) (rCmpDat X.K fun d e => !PySem.W.dataLt e d) := by
  intro pins s σ H x y v u Q I rx ry h
  obtain ⟨d, e, hd, he, ha, hn, hp, q⟩ := h
  obtain ⟨as, r1⟩ := Dp.reads I d x v hd rx
  obtain ⟨bs, r2⟩ := Dp.reads I e y u he ry
  exact PySem.W.le_data r1 r2 ha hn (by omega) ⟨.bl _, H, I, rfl, q⟩
theorem op_geDat (hu : X.A.units + 64 < cLine) : OpR X (compareOp .GtE) (rCmpDat X.K fun d e => !PySem.W.dataLt d e) := by
  intro pins s σ H x y v u Q I rx ry h
  obtain ⟨d, e, hd, he, ha, hn, hp, q⟩ := h
  obtain ⟨as, r1⟩ := Dp.reads I d x v hd rx
  obtain ⟨bs, r2⟩ := Dp.reads I e y u he ry
  exact PySem.W.ge_data r1 r2 ha hn (by omega) ⟨.bl _, H, I, rfl, q⟩
def rdCmpD (f : D → D → Bool) : RD2 := fun x y R => x.shp = true ∧ y.shp = true ∧ PySem.W.alike x.py y.py = true ∧ x.py ≠ .none ∧ min x.py.depth y.py.depth ≤ 60 ∧ R (.bl (f x y))
abbrev rdLtD : RD2 := rdCmpD fun x y => dLt x y
abbrev rdGtD : RD2 := rdCmpD fun x y => dLt y x
abbrev rdLeD : RD2 := rdCmpD fun x y => !dLt y x
abbrev rdGeD : RD2 := rdCmpD fun x y => !dLt x y
theorem sCmpD {K : PySem.W.Frag} {f : PyData → PyData → Bool} : Snd2 K (rCmpDat K f) (rdCmpD fun x y => f x.py y.py) := by
  intro F H B env σ As x y v u a b R Q s r1 r2 h k
  obtain ⟨h1, h2, h3, h4, h5, h⟩ := h
  exact ⟨_, _, r1.dp s.same h1, r2.dp s.same h2, h3, h4, h5, out_sc s h k⟩
theorem sLtD {K : PySem.W.Frag} : Snd2 K (rCmpDat K fun d e => PySem.W.dataLt d e) rdLtD := sCmpD (f := fun d e => PySem.W.dataLt d e)
theorem sGtD {K : PySem.W.Frag} : Snd2 K (rCmpDat K fun d e => PySem.W.dataLt e d) rdGtD := sCmpD (f := fun d e => PySem.W.dataLt e d)
theorem sLeD {K : PySem.W.Frag} : Snd2 K (rCmpDat K fun d e => !PySem.W.dataLt e d) rdLeD := sCmpD (f := fun d e => !PySem.W.dataLt e d)
theorem sGeD {K : PySem.W.Frag} : Snd2 K (rCmpDat K fun d e => !PySem.W.dataLt d e) rdGeD := sCmpD (f := fun d e => !PySem.W.dataLt d e)
end
end PL

/-! PLr: name = other[i], where the item is an own thing: it is lent to the name for the rest of the block. -/
namespace PL
open PySem L2
section
variable {K : PySem.W.Frag} {p : Bool} {kp : List Nat} {F F' F2 H H' H2 : Hp} {B : Addr → Prop} {env env' env2 : En} {σ σ' σ2 : L2.St} {As As' As2 : List (List Addr)} {d d' d2 x t : D} {v v2 v0 w : V} {a a2 A A' : List Addr} {xs ys : List D} {i j n : Nat}
/-- the item of an own list at hand, and the list without it -/
theorem TO.split (s : SO K F H B env σ As) (t : TO K F H B As (.obj true .lst xs) v a) (e : xs[n]? = some x) :
    ∃ q vs w A1 A' A2, v = .ref q ∧ H q = some (.lst vs) ∧ vs[n]? = some w ∧ xs.length = vs.length ∧ a = A1 ++ A' ++ A2 ∧ TO K F H B As (.obj true .lst (xs.set n (.sc w))) v (A1 ++ A2) ∧ Rep K F H x w A' := by
  obtain ⟨q, vs, w, A', rfl, hq, hw, hl, A1, A2, rfl, r, up⟩ := (Foc.root t.rep).item e
  have u := up F H (.sc w) [] (Same.refl F) (fun _ _ => rfl) .sc
  have nd := t.nd
  rw [List.append_assoc] at nd
  refine ⟨q, vs, w, A1, A', A2, rfl, hq, hw, hl, rfl, ⟨by simpa using u, ?_, fun y hy => t.fr y ?_, fun y hy => t.nb y ?_⟩, r⟩
  · have pm : (A1 ++ A' ++ (A2 ++ As.flatten)).Perm (A' ++ (A1 ++ A2 ++ As.flatten)) := by
      rw [List.append_assoc A1, List.append_assoc A1]
      refine (List.Perm.append_left A1 (List.Perm.refl _)).trans ?_
      rw [← List.append_assoc A1 A', ← List.append_assoc A' A1]
      exact List.Perm.append_right _ List.perm_append_comm
    exact (List.nodup_append.mp (pm.nodup_iff.mp nd)).2.1
  · rcases List.mem_append.mp hy with z | z <;> simp [z]
  · rcases List.mem_append.mp hy with z | z <;> simp [z]
/-- an item is lent to slot j -/
theorem SO.part (s : SO K F H B env σ As) (e1 : env[i]? = some (some (.obj true .lst xs))) (e2 : xs[n]? = some x) :
    ∃ q vs w As', σ[i]? = some (some (.ref q)) ∧ H q = some (.lst vs) ∧ vs[n]? = some w ∧ xs.length = vs.length ∧ SO K F H B ((env.set i (some (.obj true .lst (xs.set n (.sc w))))).set j (some x)) (σ.set j (some w)) As' := by
  obtain ⟨v, a, h1, h2, s1, t1⟩ := s.take e1
  obtain ⟨q, vs, w, A1, A', A2, rfl, hq, hw, hl, rfl, t2, rx⟩ := t1.split s1 e2
  have hi : i < As.length := s.lt e1
  have s2 := s1.put (s.emptied hi) t2 h1
  rw [set_set, set_set] at s2
  have nd := t1.nd
  have pm2 := flat_set As i (A1 ++ A2) hi
  have t3 : TO K F H B (As.set i (A1 ++ A2)) x w A' := by
    refine ⟨rx, ?_, fun y hy => t1.fr y (by simp [hy]), fun y hy => t1.nb y (by simp [hy])⟩
    refine (List.Perm.nodup_iff ?_).mp nd
    refine List.Perm.trans ?_ (List.Perm.append_left A' pm2.symm)
    rw [← List.append_assoc A', ← List.append_assoc A']
    exact List.Perm.append_right _ (List.Perm.append_right _ List.perm_append_comm)
  exact ⟨q, vs, w, _, h1, hq, hw, hl, s2.assign t3 j⟩
/-- what was lent is given back -/
theorem SO.rejoin (s : SO K F H B env σ As) (hij : i ≠ j) (e1 : env[i]? = some (some (.obj true .lst ys))) (e2 : ys[n]? = some (.sc w)) (e3 : env[j]? = some (some t)) (hσ : σ[j]? = some (some w)) :
    ∃ As', SO K F H B ((env.set j none).set i (some (.obj true .lst (ys.set n t)))) σ As' := by
  obtain ⟨v, a, h1, h2, s1, t1⟩ := s.take e3
  rw [hσ] at h1; cases h1
  have e1' : (env.set j none)[i]? = some (some (.obj true .lst ys)) := by rw [List.getElem?_set_ne (fun z => hij z.symm)]; exact e1
  obtain ⟨v2, a2, g1, g2, s2, t2⟩ := s1.take e1'
  have hi := s1.lt e1'
  obtain ⟨q, vs, w2, A', rfl, hq, hw, hl, A1, A2, rfl, r, up⟩ := (Foc.root t2.rep).item e2
  obtain ⟨rfl, rfl⟩ := r.sc_inv
  have u := up F H t a (Same.refl F) (fun _ _ => rfl) t1.rep
  have pm0 := flat_at (As.set j []) i _ g2
  have t4 : TO K F H B ((As.set j []).set i []) (.obj true .lst (ys.set n t)) (.ref q) (A1 ++ a ++ A2) := by
    refine ⟨by simpa using u, ?_, fun y hy => ?_, fun y hy => ?_⟩
    · refine (List.Perm.nodup_iff ?_).mp t1.nd
      refine (List.Perm.append_left a pm0).trans ?_
      rw [← List.append_assoc a, List.append_nil]
      refine List.Perm.append_right _ ?_
      rw [← List.append_assoc a]
      exact List.Perm.append_right _ List.perm_append_comm
    · rcases List.mem_append.mp hy with z | z
      · rcases List.mem_append.mp z with z | z
        · exact t2.fr y (by simp [z])
        · exact t1.fr y z
      · exact t2.fr y (by simp [z])
    · rcases List.mem_append.mp hy with z | z
      · rcases List.mem_append.mp z with z | z
        · exact t2.nb y (by simp [z])
        · exact t1.nb y z
      · exact t2.nb y (by simp [z])
  have s3 := s2.put (s1.emptied hi) t4 g1
  rw [set_set, set_set] at s3
  exact ⟨_, s3⟩
theorem SO.rejoinT (s : SO K F H B env σ As) (u : TO K F H B As d v a) (hij : i ≠ j) (e1 : env[i]? = some (some (.obj true .lst ys))) (e2 : ys[n]? = some (.sc w)) (e3 : env[j]? = some (some t)) (hσ : σ[j]? = some (some w)) :
    ∃ As', SO K F H B ((env.set j none).set i (some (.obj true .lst (ys.set n t)))) σ As' ∧ TO K F H B As' d v a := by
  obtain ⟨As', s'⟩ := (s.push u).rejoin hij e1 e2 e3 hσ
  refine ⟨As', s'.pop, u.rep, ?_, u.fr, u.nb⟩
  refine List.nodup_append.mpr ⟨(List.nodup_append.mp u.nd).1, s'.nd, fun x hx y hy z => (s'.out x (.inr hx)).2.2 (z ▸ hy)⟩
/-- name j = name i[e]; rest: what stands behind it in the block -/
def sLend (i j : Nat) (wi : WE) (wr : WS) : WS := fun env RD => (∃ d, env[i]? = some (some d)) ∧ j < env.length ∧ wi env fun k e1 => asI k fun kk => ownL (e1[i]?) fun xs => ∃ n x, L2.ixN xs.length kk = some n ∧ xs[n]? = some x ∧
  ∀ w : V, wr ((e1.set i (some (.obj true .lst (xs.set n (.sc w))))).set j (some x))
    { nx := fun e2 => ownL (e2[i]?) fun ys => ys[n]? = some (.sc w) ∧ ∃ t, e2[j]? = some (some t) ∧ RD.nx ((e2.set j none).set i (some (.obj true .lst (ys.set n t)))),
      rt := fun d e2 => ownL (e2[i]?) fun ys => ys[n]? = some (.sc w) ∧ ∃ t, e2[j]? = some (some t) ∧ RD.rt d ((e2.set j none).set i (some (.obj true .lst (ys.set n t)))),
      bk := fun e2 => ownL (e2[i]?) fun ys => ys[n]? = some (.sc w) ∧ ∃ t, e2[j]? = some (some t) ∧ RD.bk ((e2.set j none).set i (some (.obj true .lst (ys.set n t)))),
      ct := fun e2 => ownL (e2[i]?) fun ys => ys[n]? = some (.sc w) ∧ ∃ t, e2[j]? = some (some t) ∧ RD.ct ((e2.set j none).set i (some (.obj true .lst (ys.set n t)))) }
theorem dss_lend {X : Cx} {o b : Expr} {wi : WE} {wr : WS} {rest : List Stmt} {y : Str} {py tp pos : Pos} (ho : PE X o (tVar i)) (hi : DE p X b wi) (hs : PlainIx b) (hN : X.N.Nodup) (hy : X.N[j]? = some y) (hl : Loc X.env.scope y) (hk : j ∉ kp) (hij : i ≠ j)
    (hr : DSs (j :: kp) X rest wr) (hsw : swapsWith (.Subscript o b tp) (some (.Name y py)) pos.line X.env = pure false := by rfl) (hf : X.fn y = true ∨ X.env.scope.names.lookup y = some .local := by first | exact .inl rfl | exact .inr rfl | assumption) :
    DSs kp X (.Assign [.Name y py] (.Subscript o b tp) pos :: rest) (sLend i j wi wr) := by
  refine ⟨PSsimp (pss_cons (ps_set hN hy hl (pe_ix ix_list ho hi.pe hs) hsw hf) hr.ps) ?_⟩
  rintro D σ H ⟨F, B, env, As, RD, s, ⟨⟨d0, hd0⟩, hjl, hw⟩, k1, k2, k3, k4⟩
  obtain ⟨v0, A0, g1, _, _⟩ := s.env.get hd0
  refine ⟨v0, g1, F, B, env, As, _, s, hw, fun kv H2 F2 As2 a kd env2 po2 t2 h2 => ?_⟩
  obtain ⟨kk, rfl, h2⟩ := asI_inv h2
  obtain ⟨rfl, _⟩ := t2.rep.sc_inv
  obtain ⟨xs, e1, n, x, hn, hx, h2⟩ := ownL_inv h2
  obtain ⟨q, vs, w, As3, q1, hq, hw', hl', so3⟩ := po2.so.part (j := j) e1 hx
  rw [g1] at q1; cases q1
  refine ⟨q, vs, kk, w, rfl, rfl, .of hq, by unfold L2.atI; rw [← hl', hn]; exact hw', ?_⟩
  have hjl : j < σ.length := by rw [← s.env.len.1]; exact hjl
  have po3 : PostS X.K kp F H B σ F2 H2 ((env2.set i (some (.obj true .lst (xs.set n (.sc w))))).set j (some x)) (σ.set j (some w)) As3 :=
    ⟨po2.ext, so3, po2.keep, fun m hm => List.getElem?_set_ne (fun z : j = m => hk (z ▸ hm)), List.length_set ..⟩
  have back : ∀ {σ' H' F' As' e2}, PostS X.K (j :: kp) F2 H2 B (σ.set j (some w)) F' H' e2 σ' As' → PostS X.K kp F2 H2 B (σ.set j (some w)) F' H' e2 σ' As' ∧ σ'[j]? = some (some w) := fun {σ' H' F' As' e2} po => by
    refine ⟨⟨po.ext, po.so, po.keep, fun m hm => po.kp m (List.mem_cons_of_mem _ hm), po.len⟩, ?_⟩
    rw [po.kp j (List.mem_cons_self ..), List.getElem?_set_self hjl]
  refine ⟨F2, B, _, As3, _, so3, h2 w, ?_, ?_, ?_, ?_⟩
  · intro σ' H' F' As' e2 po h
    obtain ⟨po', hσ⟩ := back po
    obtain ⟨ys, f1, f2, t, f3, h⟩ := ownL_inv h
    obtain ⟨As4, so4⟩ := po'.so.rejoin hij f1 f2 f3 hσ
    exact k1 σ' H' F' As4 _ (po3.trans ⟨po'.ext, so4, po'.keep, po'.kp, po'.len⟩) h
  · intro σ' H' F' As' e2 po h
    obtain ⟨po', hσ⟩ := back po
    obtain ⟨ys, f1, f2, t, f3, h⟩ := ownL_inv h
    obtain ⟨As4, so4⟩ := po'.so.rejoin hij f1 f2 f3 hσ
    exact k2 σ' H' F' As4 _ (po3.trans ⟨po'.ext, so4, po'.keep, po'.kp, po'.len⟩) h
  · intro σ' H' F' As' e2 po h
    obtain ⟨po', hσ⟩ := back po
    obtain ⟨ys, f1, f2, t, f3, h⟩ := ownL_inv h
    obtain ⟨As4, so4⟩ := po'.so.rejoin hij f1 f2 f3 hσ
    exact k3 σ' H' F' As4 _ (po3.trans ⟨po'.ext, so4, po'.keep, po'.kp, po'.len⟩) h
  · intro r σ' H' F' As' ar dr e2 po tr h
    obtain ⟨po', hσ⟩ := back po
    obtain ⟨ys, f1, f2, t, f3, h⟩ := ownL_inv h
    obtain ⟨As4, so4, t4⟩ := po'.so.rejoinT tr hij f1 f2 f3 hσ
    exact k4 r σ' H' F' As4 ar dr _ (po3.trans ⟨po'.ext, so4, po'.keep, po'.kp, po'.len⟩) t4 h
end
end PL

/-! PLs: a, b = a list; x or y, x and y by truth; in, by data. -/
namespace PL
open PySem L2
section
variable {X : Cx} {p : Bool} {kp : List Nat} {a b e : Expr} {rest : List Expr} {es : List Expr} {wa wr : WE} {gs : WGs} {pos : Pos}
/-- a, b, .. = a list -/
def gLs (n : Nat) (gs : WGs) : WG
  | .obj o sh ds, env, R => isSeq sh = true ∧ ds.length = n ∧ gs ds env R
  | _, _, _ => False
theorem dg_lst {k n : Nat} (hc : X.calm = true) (h : DGs kp X es gs) (hn : (assignEach es X.env).length = n := by rfl) (hst : (assignEach es X.env).findIdx? (·.1) = none := by rfl) : DG kp X (.Tuple es k pos) (gLs n gs) := by
  refine ⟨PGimp (pg_lst hc h.pg hn hst) ?_⟩
  rintro v σ H Q ⟨F, B, env, As, d, a, R, s, t, hw, k⟩
  unfold gLs at hw
  split at hw
  · rename_i o sh ds
    obtain ⟨hs, hl, hw⟩ := hw
    cases o with
    | false =>
      obtain ⟨q, vs, rfl, e1, r1⟩ := Rep.frz_seq (o := false) hs t.rep
      have ha := t.rep
      refine ⟨q, vs, rfl, s.same.seq e1, by rw [← r1.length]; exact hl, F, B, env, As, ds, [], R, s, ⟨r1, by simpa using s.nd, (fun _ z => nomatch z), (fun _ z => nomatch z)⟩, hw, k⟩
    | true =>
      have nd := t.nd
      have fr := t.fr
      have nb := t.nb
      cases t.rep with
      | @own _ q vs _ A h r =>
        cases sh with
        | lst =>
          refine ⟨q, vs, rfl, .of h, by rw [← r.length]; exact hl, F, B, env, As, ds, A, R, s, ⟨r, ?_, fun x hx => fr x (List.mem_cons_of_mem _ hx), fun x hx => nb x (List.mem_cons_of_mem _ hx)⟩, hw, k⟩
          rw [List.cons_append] at nd
          exact (List.nodup_cons.mp nd).2
        | sq => exact h.elim
        | dK _ => cases hs
        | dT _ => cases hs
        | ins _ _ => cases hs
  · exact hw.elim
/-- x or y, by truth -/
def wOrT (wa wb : WE) : WE := fun env R => wa env fun d e1 => truD d fun c => if c = true then R d e1 else wb e1 R
def wAndT (wa wb : WE) : WE := fun env R => wa env fun d e1 => truD d fun c => if c = true then wb e1 R else R d e1
theorem de_orT (ha : DE p X a wa) (hb : DE p X (.BoolOp .Or (b :: rest) pos) wr) : DE p X (.BoolOp .Or (a :: b :: rest) pos) (wOrT wa wr) := by
  refine ⟨PEimp (pe_orT ha.pe hb.pe) ?_⟩
  rintro σ H Q ⟨F, B, env, As, R, s, hw, k⟩
  refine ⟨F, B, env, As, _, s, hw, fun v H1 F1 As1 a x e1 po1 t1 h1 => ?_⟩
  obtain ⟨c, hc, h2⟩ := t1.rep.tru po1.so.same h1
  refine ⟨c, hc, ?_⟩
  cases c with
  | false => exact ⟨F1, B, e1, As1, R, po1.so, h2, fun v H2 F2 As2 a d e2 po2 t2 h2 => k v H2 F2 As2 a d e2 (po1.trans po2) t2 h2⟩
  | true => exact k _ H1 F1 As1 a _ e1 po1 t1 h2
theorem de_andT (ha : DE p X a wa) (hb : DE p X (.BoolOp .And (b :: rest) pos) wr) : DE p X (.BoolOp .And (a :: b :: rest) pos) (wAndT wa wr) := by
  refine ⟨PEimp (pe_andT ha.pe hb.pe) ?_⟩
  rintro σ H Q ⟨F, B, env, As, R, s, hw, k⟩
  refine ⟨F, B, env, As, _, s, hw, fun v H1 F1 As1 a x e1 po1 t1 h1 => ?_⟩
  obtain ⟨c, hc, h2⟩ := t1.rep.tru po1.so.same h1
  refine ⟨c, hc, ?_⟩
  cases c with
  | true => exact ⟨F1, B, e1, As1, R, po1.so, h2, fun v H2 F2 As2 a d e2 po2 t2 h2 => k v H2 F2 As2 a d e2 (po1.trans po2) t2 h2⟩
  | false => exact k _ H1 F1 As1 a _ e1 po1 t1 h2
end
/-- in, by data -/
def rdInD (neg : Bool) : RD2
  | x, .obj o .lst ys, R => x.shp = true ∧ (D.obj o .lst ys).shp = true ∧ R (.bl (if neg then !ys.any fun z => deq z x else ys.any fun z => deq z x))
  | _, _, _ => False
theorem any_py (x : D) (ys : List D) : ((D.pyL ys).any fun z => PyData.eqv z x.py) = ys.any fun z => deq z x := by
  rw [D.pyL_map, List.any_map]; rfl
theorem sInD {K : PySem.W.Frag} : Snd2 K (rInD K) (rdInD false) := by
  intro F H B env σ As x y v u a b R Q s r1 r2 h k
  unfold rdInD at h
  split at h
  · obtain ⟨h1, h2, h⟩ := h
    refine ⟨_, _, r1.dp s.same h1, r2.dp s.same h2, h1, h2, out_sc s ?_ k⟩
    rw [any_py]; exact h
  · exact h.elim
theorem sNotInD {K : PySem.W.Frag} : Snd2 K (rNotInD K) (rdInD true) := by
  intro F H B env σ As x y v u a b R Q s r1 r2 h k
  unfold rdInD at h
  split at h
  · obtain ⟨h1, h2, h⟩ := h
    refine ⟨_, _, r1.dp s.same h1, r2.dp s.same h2, h1, h2, out_sc s ?_ k⟩
    rw [any_py]; exact h
  · exact h.elim
/-! a list display whose items are moved out of their names once all are there -/
theorem envR_repL {K : PySem.W.Frag} {F H : Hp} : ∀ {ds : List D} {vs : List V} {AA : List (List Addr)}, EnvR K F H (ds.map some) (vs.map some) AA → RepL K F H ds vs AA.flatten
  | [], vs, AA, h => by
    generalize hx : List.map some ([] : List D) = xs at h
    generalize hy : vs.map some = ys at h
    cases h with
    | nil => cases vs with
      | nil => exact .nil
      | cons _ _ => cases hy
    | emp _ => cases hx
    | val _ _ => cases hx
  | d :: ds, vs, AA, h => by
    generalize hx : (d :: ds).map some = xs at h
    generalize hy : vs.map some = ys at h
    cases h with
    | nil => cases hx
    | emp _ => cases hx
    | val r rr =>
      cases vs with
      | nil => cases hy
      | cons v vs =>
        rw [List.map_cons, List.cons.injEq] at hx hy
        obtain ⟨e1, rfl⟩ := hx
        obtain ⟨e2, rfl⟩ := hy
        cases e1; cases e2
        exact .cons r (envR_repL rr)
def wLstC (wc : WC) : WE := fun env R => wc env fun is e1 => is.length ≤ sizeLine ∧ match takeA e1 is with
  | some (ds, e2) => R (.lst true ds) e2
  | none => False
theorem de_lstC {X : Cx} {es : List Expr} {wc : WC} {pos : Pos} (h : DC X es wc) : DE false X (.List es pos) (wLstC wc) := by
  refine ⟨PEimp (pe_lst h.pa) ?_⟩
  rintro σ H Q ⟨F, B, env, As, R, s, hw, k⟩
  refine ⟨F, B, env, As, _, s, hw, fun vs H1 F1 As1 a is e1 po1 t1 ⟨hl, h1⟩ => ⟨by rw [← t1.rep.length]; exact hl, fun q hq => ?_⟩⟩
  split at h1
  · rename_i ds e2 ht
    obtain ⟨As2, AA, s2, er, nd, fr, sub, _, _, _, _⟩ := take_ok po1.so t1 ht
    have r := envR_repL er
    have nq := not_mem_of_none hq r.there
    have po2 := s2.newO (o := .lst vs) hq
    refine k _ _ F1 As2 (q :: AA.flatten) _ e2 ⟨po1.ext, po2.so, fun b hb => (po2.keep b hb).trans (po1.keep b hb), fun z => Bool.noConfusion z⟩ ⟨.own (show CellO (upd H1 q (.lst vs)) .lst q vs from upd_same) (r.frame (Same.refl _) fun x hx => upd_ne fun z => nq (z ▸ hx)), ?_, fun x hx => ?_, fun x hx => ?_⟩ h1
    · refine List.nodup_cons.mpr ⟨fun z => ?_, nd⟩
      rcases List.mem_append.mp z with z | z
      · exact nq z
      · exact s2.notAs hq z
    · rcases List.mem_cons.mp hx with rfl | hx
      · exact s2.freeF hq
      · exact (fr x hx).1
    · rcases List.mem_cons.mp hx with rfl | hx
      · exact s2.notB hq
      · exact (fr x hx).2
  · exact h1.elim
theorem units65 {k : Nat} {A : Around} (r : Room k A) : A.units + 65 < cLine := by have := r.un; omega
/-- a test, where all own values are looked at as frozen -/
def wViewT (w : WT) : WT := fun env R => w (seeE env) fun b _ => R b env
theorem dt_view {X : Cx} {p q : Bool} {e : Expr} {w : WT} (h : DT q X e w) : DT p X e (wViewT w) := by
  refine ⟨PTimp h.pt ?_⟩
  rintro σ H Q ⟨F, B, env, As, R, s, hw, k⟩
  have ef := fzAt_same (H := H) s.fr
  have there : ∀ x ∈ As.flatten, ∃ o, H x = some o := s.env.there
  have s2 : SO X.K (fzAt F H As.flatten) H B (seeE env) σ (As.map fun _ => []) := ⟨fzAt_sub s.same, s.env.see ef fun a ha => fzAt_in ha, by rw [empties]; exact List.nodup_nil, (by rw [empties]; exact fun _ z => nomatch z), fun b hb => by
    obtain ⟨g1, g2, g3⟩ := s.out b hb
    exact ⟨by rw [fzAt_out g3]; exact g1, g2, (by rw [empties]; exact fun z => nomatch z)⟩⟩
  refine ⟨_, B, _, _, _, s2, hw, fun c H' F' As' env' po2 hR => ?_⟩
  have F2H : Same (fzAt F H As.flatten) H' := po2.ext.trans po2.so.same
  have keepA : ∀ x ∈ As.flatten, H' x = H x := by
    intro x hx
    obtain ⟨o, ho⟩ := there x hx
    rw [ho]; exact F2H x o (by rw [fzAt_in hx]; exact ho)
  have so' : SO X.K F H' B env σ As := ⟨ef.trans F2H, s.env.frame (Same.refl _) keepA, s.nd, s.fr, fun b hb => by
    obtain ⟨g1, ⟨o, g2⟩, g3⟩ := s.out b hb
    exact ⟨g1, ⟨o, by rw [po2.keep b hb]; exact g2⟩, g3⟩⟩
  exact k c H' F As env ⟨Same.refl _, so', po2.keep, fun _ => ⟨rfl, rfl, keepA⟩⟩ hR
end PL

/-! PLt: sum of a tuple of ints; str of a list or a tuple. -/
namespace PL
open PySem L2
section
variable {X : Cx}
def rSumT (K : PySem.W.Frag) : List V → Hp → VK → Prop := fun vs H Q => ∃ (a : Addr) (ns : List Int), vs = [V.ref a] ∧ SqT K H a (ns.map V.int) ∧ Q (.int ns.sum) H
open PyProof.Rows in
theorem cr_sumT (hc : X.calm = true) : CallR X (.builtin "sum") (rSumT X.K) := by
  intro pins s σ H vs us Q I r h
  obtain ⟨a, ns, rfl, hs, q⟩ := h
  obtain ⟨its, rv, ht, _⟩ := I.tuple hs
  rw [Vals.ref1 r]
  have hi := rv.ints
  obtain ⟨xs, e⟩ := hi.allInts.items
  have hn : numsOf (intItems xs).toList = ns := by rw [← e]; exact hi.numsOf
  rw [nums_intItems] at hn
  rw [e] at ht
  refine PySem.W.ktm_sumG (I.ok.hd hc) ht fun h' tk t' hk => ?_
  rw [preSum_eq, List.take_of_length_le (by simp), hn]
  exact ⟨.int _, H, I.kept hk, ⟨_, rfl⟩, q⟩
def rdSumT : RDA
  | [.tup xs], R => ∃ ns : List Int, xs = ns.map (fun n => D.sc (V.int n)) ∧ R (.int ns.sum)
  | _, _ => False
theorem sSumT {K : PySem.W.Frag} : SndA K (rSumT K) rdSumT := by
  intro F H B env σ As ds vs a R Q s r h k
  unfold rdSumT at h
  split at h
  · obtain ⟨ns, rfl, h⟩ := h
    obtain ⟨v, rfl, a', r⟩ := r.one_inv'
    obtain ⟨p, us, rfl, e1, r1⟩ := r.tup_inv s.same
    rw [map_sc] at r1
    obtain ⟨rfl, _⟩ := r1.sc_inv
    exact ⟨p, ns, rfl, e1, out_sc s h k⟩
  · exact h.elim
/-- str of a list or a tuple of data -/
def rStrD (K : PySem.W.Frag) : List V → Hp → VK → Prop := fun xs H Q => ∃ p d, xs = [.ref p] ∧ Dp K H (.ref p) d ∧ d.showable = true ∧ d.canLay0 = true ∧ d.depth ≤ 61 ∧ d.shown.length ≤ sizeLine ∧ Q (.str d.shown) H
open PySem.Spec PyProof.Rows in
theorem call_strD (hgd : X.A.guards = some []) (hu : X.A.units + 64 < cLine) : CallR X (.type "str") (rStrD X.K) := by
  rintro pins s σ H xs us Q I r ⟨p, d, rfl, dp, h1, h2, h3, h4, q⟩
  obtain ⟨u, rfl, ru⟩ := r.one
  obtain rfl : u = Value.ref p := ru
  obtain ⟨as, rd⟩ := Dp.reads I d _ _ dp rfl
  exact str_of_reads rd h1 (fun z => by rw [noDict h2] at z; cases z) hgd (by omega) (fun _ _ e => e) (fun h' u tk hk => ⟨.str d.shown, H, I.kept hk, ⟨_, rfl⟩, q⟩) h4
def rdStrD : RDA
  | [x], R => isBox x = true ∧ x.py.showable = true ∧ x.py.canLay0 = true ∧ x.py.depth ≤ 61 ∧ x.py.shown.length ≤ sizeLine ∧ R (.str x.py.shown)
  | _, _ => False
theorem sStrD {K : PySem.W.Frag} : SndA K (rStrD K) rdStrD := by
  intro F H B env σ As ds vs a R Q s r h k
  unfold rdStrD at h
  split at h
  · obtain ⟨h0, h1, h2, h3, h4, h⟩ := h
    obtain ⟨v, rfl, a', r⟩ := r.one_inv'
    have dp := (Rep.dps s.same).1 r h2
    obtain ⟨p, rfl⟩ : ∃ p, v = .ref p := by
      cases r with
      | sc => simp [isBox] at h0
      | tup _ _ => exact ⟨_, rfl⟩
      | own _ _ => exact ⟨_, rfl⟩
      | frz _ _ => exact ⟨_, rfl⟩
    exact ⟨p, _, rfl, dp, h1, h2, h3, h4, out_sc s h k⟩
  · exact h.elim
end
end PL

/-! PLu: a call that is lent items of own lists: f(name, other[0], other[1], ..). -/
namespace PL
open PySem L2
/-- an argument: what an own name holds, an item of an own list that is lent, an item that is read -/
inductive AI where
  | own (i : Nat) | itm (i k : Nat) | rd (i k : Nat)
/-- the call, with slots laid on for the items lent -/
def wItems (f : WF) : List AI → List AV → En → (D → En → Prop) → Prop
  | [], is, env, R => match takeA env is with
    | some (ds, e2) => f ds fun r ds' => R r (putA e2 is ds')
    | none => False
  | .own i :: l, is, env, R => (∃ d, env[i]? = some (some d)) ∧ wItems f l (is ++ [.ref i]) env R
  | .rd i k :: l, is, env, R => ownL (env[i]?) fun xs => ∃ x, xs[k]? = some x ∧ x.fz = true ∧ wItems f l (is ++ [.val x]) env R
  | .itm i k :: l, is, env, R => ownL (env[i]?) fun xs => ∃ x, xs[k]? = some x ∧ ∀ w : V, wItems f l (is ++ [.ref env.length]) (((env ++ [none]).set i (some (.obj true .lst (xs.set k (.sc w))))).set env.length (some x))
      fun r e2 => e2.length = env.length + 1 ∧ ownL (e2[i]?) fun ys => ys[k]? = some (.sc w) ∧ ∃ t, e2[env.length]? = some (some t) ∧ R r ((((e2.set env.length none).set i (some (.obj true .lst (ys.set k t))))).take env.length)
section
variable {K : PySem.W.Frag} {F F' H H' : Hp} {B : Addr → Prop} {env : En} {σ : St} {As : List (List Addr)}
/-- what the arguments come to -/
inductive AR (H : Hp) (σ : St) : List AI → List V → Prop
  | nil : AR H σ [] []
  | own {i v l vs} : σ[i]? = some (some v) → AR H σ l vs → AR H σ (.own i :: l) (v :: vs)
  | itm {i k q us v l vs} : σ[i]? = some (some (.ref q)) → H q = some (.lst us) → us[k]? = some v → AR H σ l vs → AR H σ (.itm i k :: l) (v :: vs)
  | rd {i k q us v l vs} : σ[i]? = some (some (.ref q)) → H q = some (.lst us) → us[k]? = some v → AR H σ l vs → AR H σ (.rd i k :: l) (v :: vs)
theorem AR.more {l vs} (h : AR H σ l vs) (o : Option V) : AR H (σ ++ [o]) l vs := by
  have e : ∀ {i : Nat} {v : V}, σ[i]? = some (some v) → (σ ++ [o])[i]? = some (some v) := fun {i v} z => by
    rw [List.getElem?_append_left (List.getElem?_eq_some_iff.mp z).1]; exact z
  induction h with
  | nil => exact .nil
  | own a _ ih => exact .own (e a) ih
  | itm a b c _ ih => exact .itm (e a) b c ih
  | rd a b c _ ih => exact .rd (e a) b c ih
theorem IR.more {is vs a} (h : IR K F H σ is vs a) (o : Option V) : IR K F H (σ ++ [o]) is vs a := by
  induction h with
  | nil => exact .nil
  | val x _ ih => exact .val x ih
  | ref a _ ih => exact .ref (by rw [List.getElem?_append_left (List.getElem?_eq_some_iff.mp a).1]; exact a) ih
theorem EnvR.more {es : En} (r : EnvR K F H es σ As) (o : Option V) : EnvR K F H (es ++ [none]) (σ ++ [o]) (As ++ [[]]) := by
  induction r with
  | nil => exact .emp .nil
  | emp r ih => exact .emp ih
  | val x r ih => exact .val x ih
theorem EnvR.less {es : En} {o : Option V} : ∀ {σ : St} {As : List (List Addr)} {n : Nat}, EnvR K F H es (σ ++ [o]) As → n = σ.length → es[n]? = some none → EnvR K F H (es.take n) σ (As.take n) ∧ (As.take n).flatten = As.flatten := by
  intro σ
  induction σ generalizing es with
  | nil =>
    intro As n r hn e
    subst hn
    cases r with
    | emp r => cases r with | nil => exact ⟨.nil, rfl⟩
    | val x r => simp at e
  | cons s σ ih =>
    intro As n r hn e
    subst hn
    rw [List.cons_append] at r
    cases r with
    | emp r =>
      obtain ⟨r1, r2⟩ := ih r rfl (by simpa using e)
      exact ⟨.emp r1, by simpa using r2⟩
    | val x r =>
      obtain ⟨r1, r2⟩ := ih r rfl (by simpa using e)
      exact ⟨.val x r1, by simpa using r2⟩
theorem SO.more (s : SO K F H B env σ As) (o : Option V) : SO K F H B (env ++ [none]) (σ ++ [o]) (As ++ [[]]) := by
  have e : (As ++ [[]]).flatten = As.flatten := by simp
  exact ⟨s.same, s.env.more o, by rw [e]; exact s.nd, by rw [e]; exact s.fr, by rw [e]; exact s.out⟩
theorem SO.less {o : Option V} {n : Nat} (s : SO K F H B env (σ ++ [o]) As) (hn : n = σ.length) (e : env[n]? = some none) : SO K F H B (env.take n) σ (As.take n) ∧ (As.take n).flatten = As.flatten := by
  obtain ⟨r, f⟩ := s.env.less hn e
  exact ⟨⟨s.same, r, by rw [f]; exact s.nd, by rw [f]; exact s.fr, by rw [f]; exact s.out⟩, f⟩
theorem items_ok {f : WF} {E : XK} : ∀ (l : List AI) (is : List AV) (vs1 vs2 : List V) (env : En) (σ : St) (As : List (List Addr)) (R : D → En → Prop) (Q : VK), SO K F H B env σ As → IR K F H σ is vs1 [] → AR H σ l vs2 → wItems f l is env R →
    (∀ v H' F' As' c r env', PostE K false F H B env σ As F' H' env' As' → TO K F' H' B As' r v c → R r env' → Q v H') → spD K f (vs1 ++ vs2) H Q E := by
  intro l
  induction l with
  | nil =>
    intro is vs1 vs2 env σ As R Q s ir ar hw k
    cases ar
    rw [List.append_nil]
    exact call_at s ⟨ir, by simpa using s.nd, (fun _ z => nomatch z), (fun _ z => nomatch z)⟩ hw k
  | cons x l ih =>
    intro is vs1 vs2 env σ As R Q s ir ar hw k
    cases ar with
    | @own i v _ vs hv ar =>
      rw [show vs1 ++ v :: vs = vs1 ++ [v] ++ vs by simp]
      exact ih _ _ _ env σ As R Q s (ir.app (.ref hv .nil)) ar hw.2 k
    | @rd i kk q us v _ vs hq hu hv ar =>
      obtain ⟨xs, e1, x, hx, fx, hw⟩ := ownL_inv hw
      rw [show vs1 ++ v :: vs = vs1 ++ [v] ++ vs by simp]
      obtain ⟨v0, a0, g1, g2, g3⟩ := s.env.get e1
      rw [hq] at g1; cases g1
      obtain ⟨q', us', w, A', e, hq', hw', hl, A1, A2, rfl, r, up⟩ := (Foc.root g3).item hx
      cases e
      rw [hu] at hq'; cases hq'
      rw [hv] at hw'; cases hw'
      have := r.fzNil fx
      subst this
      exact ih _ _ _ env σ As R Q s (ir.app (by simpa using IR.val r .nil)) ar hw k
    | @itm i kk q us v _ vs hq hu hv ar =>
      obtain ⟨xs, e1, x, hx, hw⟩ := ownL_inv hw
      rw [show vs1 ++ v :: vs = vs1 ++ [v] ++ vs by simp]
      have hi : i < env.length := (List.getElem?_eq_some_iff.mp e1).1
      have hl : env.length = σ.length := s.env.len.1
      have s1 := s.more none
      have e1' : (env ++ [none])[i]? = some (some (.obj true .lst xs)) := by rw [List.getElem?_append_left hi]; exact e1
      obtain ⟨q', us', w, As1, g1, hq', hw', _, s2⟩ := s1.part (j := env.length) e1' hx
      rw [List.getElem?_append_left (by omega), hq] at g1; cases g1
      rw [hu] at hq'; cases hq'
      rw [hv] at hw'; cases hw'
      have es : (σ ++ [none]).set env.length (some v) = σ ++ [some v] := by rw [hl]; simp
      rw [es] at s2
      refine ih _ _ _ _ _ As1 _ Q s2 ((ir.more (some v)).app (.ref (by rw [hl]; simp) .nil)) (ar.more (some v)) (hw v) ?_
      intro u H' F' As' c r env' po t h
      obtain ⟨hlen, h⟩ := h
      obtain ⟨ys, f1, f2, t2, f3, h⟩ := ownL_inv h
      obtain ⟨As4, s4, t4⟩ := po.so.rejoinT t (by omega) f1 f2 f3 (by rw [hl]; simp)
      obtain ⟨s5, fl⟩ := s4.less (n := env.length) hl (by
        rw [List.getElem?_set_ne (by omega), List.getElem?_set_self (by omega)])
      refine k u H' F' _ c r _ ⟨po.ext, s5, po.keep, fun z => Bool.noConfusion z⟩ ⟨t4.rep, by rw [fl]; exact t4.nd, t4.fr, t4.nb⟩ h
end
end PL
namespace PL
open PySem L2
/-- the arguments, read where they stand: nothing is changed by that -/
structure DIT (X : Cx) (es : List Expr) (l : List AI) : Prop where
  pa : PA X es fun σ H Q => ∃ vs, AR H σ l vs ∧ Q vs H
section
variable {X : Cx} {e o : Expr} {es : List Expr} {l : List AI} {i : Nat} {pos tp cp : Pos}
theorem di_nil : DIT X [] [] := ⟨PAimp pa_nil fun σ H Q ⟨vs, a, q⟩ => by cases a; exact q⟩
theorem di_own (h : PE X e (tVar i)) (hs : DIT X es l) (st : starEach (e :: es) X.env = (false, eval e X.env) :: starEach es X.env := by rfl) : DIT X (e :: es) (.own i :: l) := by
  refine ⟨PAimp (pa_cons h hs.pa st) ?_⟩
  rintro σ H Q ⟨vs, a, q⟩
  cases a with
  | own hv a => exact ⟨_, hv, _, a, q⟩
theorem ix_at {k : Nat} {us : List V} {v : V} (h : us[k]? = some v) : L2.atI us (k : Int) = some v := by
  have := (List.getElem?_eq_some_iff.mp h).1
  unfold L2.atI L2.ixN
  rw [if_pos (by omega), if_pos (by omega)]
  simpa using h
theorem di_itm {k : Nat} {j} (h : PE X o (tVar i)) (hp : PlainIx (.Constant (.int (k : Int)) j cp)) (hs : DIT X es l) (st : starEach (.Subscript o (.Constant (.int (k : Int)) j cp) tp :: es) X.env = (false, eval (.Subscript o (.Constant (.int (k : Int)) j cp) tp) X.env) :: starEach es X.env := by rfl) : DIT X (.Subscript o (.Constant (.int (k : Int)) j cp) tp :: es) (.itm i k :: l) := by
  refine ⟨PAimp (pa_cons (pe_ix ix_list h pe_int hp) hs.pa st) ?_⟩
  rintro σ H Q ⟨vs, a, q⟩
  cases a with
  | itm hq hu hv a => exact ⟨_, hq, _, _, _, _, rfl, rfl, .of hu, ix_at hv, _, a, q⟩
theorem di_rd {k : Nat} {j} (h : PE X o (tVar i)) (hp : PlainIx (.Constant (.int (k : Int)) j cp)) (hs : DIT X es l) (st : starEach (.Subscript o (.Constant (.int (k : Int)) j cp) tp :: es) X.env = (false, eval (.Subscript o (.Constant (.int (k : Int)) j cp) tp) X.env) :: starEach es X.env := by rfl) : DIT X (.Subscript o (.Constant (.int (k : Int)) j cp) tp :: es) (.rd i k :: l) := by
  refine ⟨PAimp (pa_cons (pe_ix ix_list h pe_int hp) hs.pa st) ?_⟩
  rintro σ H Q ⟨vs, a, q⟩
  cases a with
  | rd hq hu hv a => exact ⟨_, hq, _, _, _, _, rfl, rfl, .of hu, ix_at hv, _, a, q⟩
end
/-- what the items' values are, is not known ahead; that they are there, is -/
def hasI (env : En) : List AI → Prop
  | [] => True
  | .own i :: l => (∃ d, env[i]? = some (some d)) ∧ hasI env l
  | .itm i k :: l => (ownL (env[i]?) fun xs => k < xs.length) ∧ hasI env l
  | .rd i k :: l => (ownL (env[i]?) fun xs => k < xs.length) ∧ hasI env l
theorem hasI.ar {K : PySem.W.Frag} {F H : Hp} {B : Addr → Prop} {env : En} {σ : St} {As : List (List Addr)} (s : SO K F H B env σ As) : ∀ {l : List AI}, hasI env l → ∃ vs, AR H σ l vs := by
  intro l
  have get : ∀ {i k : Nat}, (ownL (env[i]?) fun xs => k < xs.length) → ∃ q us v, σ[i]? = some (some (.ref q)) ∧ H q = some (.lst us) ∧ us[k]? = some v := by
    intro i k h
    obtain ⟨xs, e, hk⟩ := ownL_inv h
    obtain ⟨v0, a0, g1, g2, g3⟩ := s.env.get e
    obtain ⟨q, us, w, A', rfl, hq, hw, _⟩ := (Foc.root g3).item (List.getElem?_eq_getElem hk)
    exact ⟨q, us, w, g1, hq, hw⟩
  induction l with
  | nil => exact fun _ => ⟨[], .nil⟩
  | cons x l ih =>
    intro h
    cases x with
    | own i =>
      obtain ⟨⟨d, hd⟩, h⟩ := h
      obtain ⟨vs, a⟩ := ih h
      obtain ⟨v, _, g1, _⟩ := s.env.get hd
      exact ⟨_, .own g1 a⟩
    | itm i k =>
      obtain ⟨vs, a⟩ := ih h.2
      obtain ⟨q, us, v, g1, g2, g3⟩ := get h.1
      exact ⟨_, .itm g1 g2 g3 a⟩
    | rd i k =>
      obtain ⟨vs, a⟩ := ih h.2
      obtain ⟨q, us, v, g1, g2, g3⟩ := get h.1
      exact ⟨_, .rd g1 g2 g3 a⟩
def wCallI (f : WF) (l : List AI) : WE := fun env R => hasI env l ∧ wItems f l [] env R
section
variable {X : Cx} {e : Expr} {es : List Expr} {l : List AI} {f : WF}
theorem de_calI {k j : Nat} {x : Str} {st : Stmt} {ps : List Str} {q pos : Pos} (C : Cal X.prog X.w X.K X.mg X.base k x st ps f) (hr : Room j X.A) (hj : k ≤ j) (hgd : X.A.guards = some []) (hg : Gl X x) (ha : DIT X (e :: es) l)
    (hdb : (x == ("__debug__" : Str)) = false := by decide) (he : starEach (e :: es) X.env = (false, eval e X.env) :: starEach es X.env := by rfl) (hpl : (backTo pos (starEach es X.env)).any (·.1) = false := by rfl) :
    DE false X (.Call (.Name x q) (e :: es) [] pos) (wCallI f l) := by
  obtain ⟨f, fd, G, hm, hk, hb, _⟩ := C.ex
  refine ⟨PEimp (peg_call G (hr.mono hj) hgd hg hm hk hb .nil pass0 ha.pa hdb he hpl) ?_⟩
  rintro σ H Q ⟨F, B, env, As, R, s, ⟨hh, hw⟩, k⟩
  obtain ⟨vs, a⟩ := hh.ar s
  refine ⟨vs, a, ?_⟩
  show spD X.K _ (vs ++ []) H Q E0
  rw [List.append_nil]
  exact items_ok l [] [] vs env σ As R Q s .nil a hw fun v H' F' As' c r env' po t h => k v H' F' As' c r env' po t h
end
end PL

set_option maxHeartbeats 4000000
/-! PLv: sorted(set(ns)) of a list of ints. -/
namespace PL
open PySem PySem.Spec PyProof.Rows L2
section
variable {P : Program} {w : World} {A : Around} {E : Value → Shared → Prop} {s : Shared}
/-- the set of nothing, as set() makes it -/
abbrev bare (w : World) : Obj := { cls := .type "set", dict := none, data := .set #[] 0 (.fresh 0 0 (!w.params.followText "set-order")) }
/-- what is left behind: a set of these -/
def Filled (w : World) (s : Shared) (S : Addr) (ns : List Int) (old : Addr) (r : Value) (t : Shared) : Prop :=
  r = .none ∧ ∃ h tk c, t = { s with heap := h, toks := tk } ∧ SetR w h S (fun j => decide (j ∈ ns)) c ∧ c ≤ ns.length ∧ ∀ b o, b < old → s.heap.get? b = some o → h.get? b = some o
theorem init_ints {S l : Addr} {its : Array Value} {ns : List Int} (hh : A.handled = none) (hS : s.heap.get? S = some (bare w)) (hl : s.heap.IsList l its) (hlS : l < S) (hi : IntsAre its.toList ns) (hb : ns.length + 1 < scanBound) :
    codeAny (model P w) A (.builtin "set.__init__" ⟨[.ref S, .ref l], []⟩) (wants (Filled w s S ns S) E) s := by
  have sz : its.size = ns.length := by rw [← IntsAre.length hi, Array.length_toList]
  refine codeAny_builtin F.entry_set_init ?_
  rw [Around.under_plainId F.called_set.init.plain _]
  obtain ⟨⟨c0, d0, x0, o0⟩, g0, g1, n0, g2⟩ := hl
  simp only at g1 g2
  subst g1; subst g2
  have isL : s.heap.IsList l its := ⟨_, g0, rfl, n0, rfl⟩
  have a1 := F.sub_list_set
  have a2 := F.sub_list_frozenset
  have a3 : (Value.type "list" == Value.type "dict") = false := by decide
  unfold Builtin.«set.__init__» noKeywords Builtin.Frozenset.updateFrom
  generalize hit : pyIter = it
  wp_walk
  subst hit
  refine wpAny_pyIter_list isL (wpAny_bind (wpAny_runValue ?_))
  have far : A.in1.in1.handled = none := by simp [hh]
  have ne1 : l ≠ s.heap.objs.size := Nat.ne_of_lt (Heap.lt_size g0)
  have ne2 : S ∉ [s.heap.objs.size, l] := by
    have q1 := Heap.lt_size hS
    intro z
    rcases List.mem_cons.mp z with z | z
    · exact Nat.ne_of_lt q1 z
    · rcases List.mem_cons.mp z with z | z
      · exact Nat.ne_of_gt hlS z
      · cases z
  refine set_update_ints (Walks.list far _ l ne1 its).toS S ne2 ns sz hb (fun i v hv => ?_) _ 0 _ rfl (Nat.zero_le _) ⟨⟨_, Heap.get?_push_size _ rfl, rfl, rfl⟩, isL.push _⟩ ⟨0, Nat.le_refl 0, setR_new_at (Heap.get?_push_of_some _ hS)⟩ fun t c mv hc hR => ?_
  · obtain ⟨tk, e⟩ := IntsAre.int_at hi i v (by rw [Array.getElem?_toList]; exact hv)
    have hil : i < ns.length := by rw [← sz]; exact (Array.getElem?_eq_some_iff.mp hv).1
    exact ⟨ns[i], tk, List.getElem?_eq_getElem hil, by rw [e, List.getD_eq_getElem?_getD, List.getElem?_eq_getElem hil]; rfl⟩
  · obtain ⟨h, g, d, tk, o⟩ := t
    have m1 := mv.gens
    have m2 := mv.drawn
    have m3 := mv.os
    simp only at m1 m2 m3
    subst m1; subst m2; subst m3
    refine wpAny_pure (wpAny_pure ⟨rfl, h, tk, c, rfl, hR, by rw [← sz]; exact hc, fun b u hbS hu => ?_⟩)
    have q1 := Heap.lt_size hu
    refine mv.heap b u (fun z => ?_) (Heap.get?_push_of_some _ hu)
    rcases List.mem_cons.mp z with z | z
    · exact Nat.ne_of_lt hbS z
    · rcases List.mem_cons.mp z with z | z
      · exact Nat.ne_of_lt q1 z
      · cases z
theorem call_set_ints {l : Addr} {its : Array Value} {ns : List Int} {Q : Value → Shared → Prop} (hh : A.handled = none) (hl : s.heap.IsList l its) (hi : IntsAre its.toList ns) (hb : ns.length + 1 < scanBound)
    (h : ∀ (g : Heap) (tk c : Nat), SetR w g s.heap.objs.size (fun j => decide (j ∈ ns)) c → c ≤ ns.length → (∀ b o, s.heap.get? b = some o → g.get? b = some o) → Q (.ref s.heap.objs.size) { s with heap := g, toks := tk }) :
    wpAny (model P w) A (call (.type "set") [.ref l]) Q E s := by
  obtain ⟨c, tl, hmro⟩ := F.called_set.mro
  have k1 := F.called_set.made
  have k2 := F.called_set.sub
  have k3 := F.called_set.notType
  have k4 := F.called_set.canCreate
  have k5 := F.typeCall_set_1 (.ref l)
  refine wpAny_call (codeAny_of_tree ?_)
  show wpAny _ _ (callAny (.type "set") _) _ _ _
  refine wpAny_pure ⟨Code.quiet_builtin _ (by decide +kernel), codeAny_builtin F.entry_type_call ?_⟩
  rw [Around.under_plain (weight_type_call_type "set" [.ref l] []) rfl]
  repeat (any_goals (first | assumption | wp_step))
  refine codeAny_mono (code_set_led1 (.ref l) (E := E) (Q₁ := fun x t => x = .ref s.heap.objs.size ∧ t = { s with heap := s.heap.push (bare w) }) ⟨rfl, rfl⟩) fun r t hr => ?_
  rcases r with e | f
  · exact hr
  cases f with
  | ret x =>
    obtain ⟨rfl, rfl⟩ := hr
    have b0 : (s.heap.push (bare w)).get? s.heap.objs.size = some (bare w) := Heap.get?_push_size _ rfl
    have ty : Shared.TypeIs { s with heap := s.heap.push (bare w) } (.ref s.heap.objs.size) "set" := ⟨_, b0, rfl⟩
    have k6 := F.called_set.init.lookup
    have k7 := F.called_set.init.bind (.ref s.heap.objs.size)
    repeat (any_goals (first | assumption | wp_step))
    have b1 : (s.heap.push (bare w)).IsList l its := hl.push _
    have b2 : l < s.heap.objs.size := by
      obtain ⟨o, g0, _⟩ := hl
      exact Heap.lt_size g0
    refine codeAny_mono (codeAny_call_builtin_code (plainId_quiet F.called_set.init.plain _) (check_set_init_1 ty (init_ints (E := E) (s := { s with heap := s.heap.push (bare w) }) (by simp [hh]) b0 b1 b2 hi hb))) fun r2 t2 hr2 => ?_
    rcases r2 with e | f2
    · exact hr2
    cases f2 with
    | ret y =>
      obtain ⟨rfl, g, tk, c, rfl, hR, hc, hk⟩ := hr2
      repeat (any_goals (first | assumption | wp_step))
      exact h g tk c hR hc fun b o e => hk b o (Heap.lt_size e) (Heap.get?_push_of_some _ e)
    | _ => exact hr2.elim
  | _ => exact hr.elim
end
/-- set(l), l a list of ints -/
def rSetLI (K : PySem.W.Frag) (w : World) : List V → Hp → VK → Prop := fun xs H Q => ∃ l, ∃ ns : List Int, xs = [.ref l] ∧ SqL K H l (ns.map V.int) ∧ ns.length + 1 < scanBound ∧ ∀ p c, H p = none → c ≤ ns.length → Q (.ref p) (upd H p (SetO w p (fun j => decide (j ∈ ns)) c))
section
variable {X : Cx} {p : Bool} {whole inner e : Expr} {we : WE}
theorem cr_setLI (hc : X.calm = true) : CallR X (.type "set") (rSetLI X.K X.w) := by
  intro pins s σ H xs us Q I r h
  obtain ⟨l, ns, rfl, hl, hb, q⟩ := h
  rw [Vals.ref1 r]
  obtain ⟨its, rv, pl, _⟩ := I.list hl
  refine call_set_ints (I.ok.hd hc) pl.isList (ints_of_vals rv) hb fun g tk c hR hc hk => ?_
  have hn : H s.heap.objs.size = none := I.hok.fresh (Nat.le_refl _)
  exact ⟨.ref _, upd H s.heap.objs.size (SetO X.w s.heap.objs.size (fun j => decide (j ∈ ns)) c), I.call (ch := []) (Un.laid hk (Nat.le_refl _) hn) (I.hok.laid hk (Nat.le_refl _) (setO_new hR)) I.bare (fun _ z => nomatch z), rfl, q _ c hn hc⟩
/-- sorted(set(e)), e a list of ints, fewer than 63 -/
def wSorSet (we : WE) : WE := fun env R => we env fun d e1 => match d with
  | .obj _ .lst xs => ∃ ns : List Int, xs = ns.map (fun n => D.sc (V.int n)) ∧ ns.length < 63 ∧ ∀ ms : List Int, ms.Pairwise (· < ·) → (∀ k, k ∈ ms ↔ k ∈ ns) → R (.lst true (ms.map fun n => D.sc (V.int n))) e1
  | _ => False
theorem de_sorSet (hS : CallS X whole [inner] (rSortedSet X.w)) (hI : CallS X inner [e] (rSetLI X.K X.w)) (h : DE p X e we) (s1 : starEach [e] X.env = (false, eval e X.env) :: starEach [] X.env := by rfl) (s2 : starEach [inner] X.env = (false, eval inner X.env) :: starEach [] X.env := by rfl) :
    DE p X whole (wSorSet we) := by
  refine ⟨PEimp (hS _ (pa_cons (hI _ (pa_cons h.pe pa_nil s1)) pa_nil s2)) ?_⟩
  rintro σ H Q ⟨F, B, env, As, R, s, hw, k⟩
  refine ⟨F, B, env, As, _, s, hw, fun v H1 F1 As1 a d e1 po1 t1 h1 => ?_⟩
  split at h1
  · obtain ⟨ns, rfl, hn, h1⟩ := h1
    obtain ⟨l, us, a', rfl, hq, r1⟩ := t1.rep.seq_inv rfl po1.so.same
    rw [map_sc] at r1
    obtain ⟨rfl, _⟩ := r1.sc_inv
    refine ⟨l, ns, rfl, hq, by unfold scanBound; omega, fun q c hqn hc => ?_⟩
    refine ⟨q, _, c, rfl, upd_same, by omega, fun ms p2 pw mem len hp2 => ?_⟩
    have po2 := po1.so.newO (o := SetO X.w q (fun j => decide (j ∈ ns)) c) hqn
    have hR := h1 ms pw fun k => by rw [mem k]; simp
    exact out_lst po2.so (xs := ms.map fun n => D.sc (V.int n)) (by rw [map_sc]; exact RepL.sc_of _) hR (fun v' H' F' c z po3 t3 hz => k v' H' F' As1 c z e1 (po1.trans ((po2.trans po3).imp fun _ => rfl)) t3 hz) p2 hp2
  · exact h1.elim
end
end PL

/-! PLw: x in t, x not in t, by data, t a tuple. -/
namespace PL
open PySem PySem.Spec PyProof.Rows L2
def rInTD (K : PySem.W.Frag) (neg : Bool) : R2 := fun x y H Q => ∃ d ds, (Dp K H x d ∧ SeqAt.shaped d = true) ∧ (Dp K H y (.tuple ds) ∧ SeqAt.shaped (.tuple ds) = true) ∧ Q (.bl (if neg then !ds.any fun z => PyData.eqv z d else ds.any fun z => PyData.eqv z d)) H
section
variable {X : Cx}
theorem op_inTD (hu : X.A.units + 65 < cLine) : OpR X (compareOp .In) (rInTD X.K false) := by
  intro pins s σ H x y v u Q I rx ry ⟨d, ds, ⟨g1, g2⟩, ⟨g3, g4⟩, q⟩
  obtain ⟨_, a1⟩ := Dp.reads I d x v g1 rx
  obtain ⟨_, a2⟩ := Dp.reads I (.tuple ds) y u g3 ry
  exact SeqAt.in_tuple_reads a2 a1 (SeqAt.canLay_of_shaped g4) (SeqAt.canLay_of_shaped g2) (room_in_shaped g2 hu) ⟨.bl _, H, I, rfl, q⟩
theorem op_notInTD (hu : X.A.units + 65 < cLine) : OpR X (compareOp .NotIn) (rInTD X.K true) := by
  intro pins s σ H x y v u Q I rx ry ⟨d, ds, ⟨g1, g2⟩, ⟨g3, g4⟩, q⟩
  obtain ⟨_, a1⟩ := Dp.reads I d x v g1 rx
  obtain ⟨_, a2⟩ := Dp.reads I (.tuple ds) y u g3 ry
  exact SeqAt.notIn_tuple_reads a2 a1 (SeqAt.canLay_of_shaped g4) (SeqAt.canLay_of_shaped g2) (room_in_shaped g2 hu) ⟨.bl _, H, I, rfl, q⟩
end
def rdInTD (neg : Bool) : RD2
  | x, .tup ys, R => x.shp = true ∧ (D.tup ys).shp = true ∧ R (.bl (if neg then !ys.any fun z => deq z x else ys.any fun z => deq z x))
  | _, _, _ => False
theorem sInTD {K : PySem.W.Frag} {neg : Bool} : Snd2 K (rInTD K neg) (rdInTD neg) := by
  intro F H B env σ As x y v u a b R Q s r1 r2 h k
  unfold rdInTD at h
  split at h
  · obtain ⟨h1, h2, h⟩ := h
    refine ⟨_, _, ⟨r1.dp s.same h1, h1⟩, ⟨r2.dp s.same h2, h2⟩, out_sc s ?_ k⟩
    rw [any_py]; exact h
  · exact h.elim
@[simp ↓] theorem e_inTD {neg : Bool} {x : D} {ys : List D} {R : D → Prop} : rdInTD neg x (.tup ys) R = (x.shp = true ∧ (D.tup ys).shp = true ∧ R (.bl (if neg then !ys.any fun z => deq z x else ys.any fun z => deq z x))) := rfl
end PL

/-! PLx: three comparisons in a row; dicts by tuples of ints: a comprehension, an item. -/
namespace PL
open PySem L2

/-! ### a op1 b op2 c op3 d -/
def tChain3 (r1 r2 r3 : R2) (ta tb tc td : TE) : TE := fun σ H Q => ta σ H fun x H1 => tb σ H1 fun y H2 => r1 x y H2 fun z H3 => ∃ k, z = .bl k ∧
  (if k = true then tc σ H3 fun u H4 => r2 y u H4 fun z H5 => ∃ k, z = .bl k ∧ (if k = true then td σ H5 fun t H6 => r3 u t H6 Q else Q (.bl false) H5) else Q (.bl false) H3)
section
variable {X : Cx} {a b c d : Expr} {ta tb tc td : TE} {pos : Pos}
open PySem.Spec PyProof.Rows in
theorem pe_chain3 {o1 o2 o3 : CmpOp} {r1 r2 r3 : R2} (h1 : OpR X (compareOp o1) r1) (h2 : OpR X (compareOp o2) r2) (h3 : OpR X (compareOp o3) r3) (ha : PE X a ta) (hb : PE X b tb) (hc : PE X c tc) (hd : PE X d td)
    (hm : lastMarks [o1, o2, o3] [b, c, d] = false := by with_unfolding_all rfl) : PE X (.Compare a [o1, o2, o3] [b, c, d] pos) (tChain3 r1 r2 r3 ta tb tc td) := by
  refine ⟨fun pins s σ H Q I h => Compare_chain (thn (ha.run pins s σ H _ I h) fun v1 s1 ⟨x1, H1, I1, g1, q1⟩ => chain_link (thn (hb.run pins s1 σ H1 _ I1 q1) fun v2 s2 ⟨x2, H2, I2, g2, q2⟩ =>
    thn (h1 pins s2 σ H2 x1 x2 v1 v2 _ I2 g1 g2 q2) fun w s3 ⟨z, H3, I3, g3, k, e, q3⟩ => ?_)) hm⟩
  subst e
  cases g3
  refine wpAny_truthy_bool ?_
  cases k with
  | false => exact ite_ff ⟨.bl false, H3, I3, rfl, q3⟩
  | true =>
    refine ite_tt (chain_link (thn (hc.run pins s3 σ H3 _ I3 q3) fun v3 s4 ⟨x3, H4, I4, g4, q4⟩ => thn (h2 pins s4 σ H4 x2 x3 v2 v3 _ I4 g2 g4 q4) fun w s5 ⟨z, H5, I5, g5, k, e, q5⟩ => ?_))
    subst e
    cases g5
    refine wpAny_truthy_bool ?_
    cases k with
    | false => exact ite_ff ⟨.bl false, H5, I5, rfl, q5⟩
    | true => exact ite_tt (chain_last (thn (hd.run pins s5 σ H5 _ I5 q5) fun v4 s6 ⟨x4, H6, I6, g6, q6⟩ => h3 pins s6 σ H6 x3 x4 v3 v4 Q I6 g4 g6 q6))
open PySem.Spec PyProof.Rows in
theorem pt_chain3 {o1 o2 o3 : CmpOp} {r1 r2 r3 : R2} (h1 : OpR X (compareOp o1) r1) (h2 : OpR X (compareOp o2) r2) (h3 : OpR X (compareOp o3) r3) (ha : PE X a ta) (hb : PE X b tb) (hc : PE X c tc) (hd : PE X d td)
    (hm : lastMarks [o1, o2, o3] [b, c, d] = false := by with_unfolding_all rfl) : PT X (.Compare a [o1, o2, o3] [b, c, d] pos) (tTest (tChain3 r1 r2 r3 ta tb tc td)) := by
  refine ⟨fun pins s σ H Q I h => isTrue_chain (thn (ha.run pins s σ H _ I h) fun v1 s1 ⟨x1, H1, I1, g1, q1⟩ => test_link (thn (hb.run pins s1 σ H1 _ I1 q1) fun v2 s2 ⟨x2, H2, I2, g2, q2⟩ =>
    thn (h1 pins s2 σ H2 x1 x2 v1 v2 _ I2 g1 g2 q2) fun w s3 ⟨z, H3, I3, g3, k, e, q3⟩ => ?_)) hm⟩
  subst e
  cases g3
  refine wpAny_truthy_bool ?_
  cases k with
  | false =>
    obtain ⟨k', e', q'⟩ := q3
    cases e'
    exact ite_ff ⟨H3, I3, q'⟩
  | true =>
    refine ite_tt (test_link (thn (hc.run pins s3 σ H3 _ I3 q3) fun v3 s4 ⟨x3, H4, I4, g4, q4⟩ => thn (h2 pins s4 σ H4 x2 x3 v2 v3 _ I4 g2 g4 q4) fun w s5 ⟨z, H5, I5, g5, k, e, q5⟩ => ?_))
    subst e
    cases g5
    refine wpAny_truthy_bool ?_
    cases k with
    | false =>
      obtain ⟨k', e', q'⟩ := q5
      cases e'
      exact ite_ff ⟨H5, I5, q'⟩
    | true =>
      refine ite_tt (test_last (thn (hd.run pins s5 σ H5 _ I5 q5) fun v4 s6 ⟨x4, H6, I6, g6, q6⟩ => thn (h3 pins s6 σ H6 x3 x4 v3 v4 _ I6 g4 g6 q6) fun w s7 ⟨z, H7, I7, g7, k, e, q7⟩ => ?_))
      subst e
      cases g7
      exact wpAny_truthy_bool ⟨H7, I7, q7⟩
end
def wChain3 (rd1 rd2 rd3 : RD2) (wa wb wc wd : WE) : WE := fun env R => wa env fun x e1 => wb e1 fun y e2 => y.fz = true ∧ rd1 x y fun z => asB z fun c => if c = true then wc e2 fun u e3 => u.fz = true ∧ rd2 y u fun z => asB z fun c =>
  if c = true then wd e3 fun t e4 => rd3 u t fun z => R z e4 else R (.bl false) e3 else R (.bl false) e2
section
variable {X : Cx} {p : Bool} {a b c d : Expr} {wa wb wc wd : WE} {pos : Pos}
theorem chain3_lift {r1 r2 r3 : R2} {rd1 rd2 rd3 : RD2} (h1 : Snd2 X.K r1 rd1) (h2 : Snd2 X.K r2 rd2) (h3 : Snd2 X.K r3 rd3) :
    ∀ σ H Q, liftE X.K p (wChain3 rd1 rd2 rd3 wa wb wc wd) σ H Q → tChain3 r1 r2 r3 (liftE X.K p wa) (liftE X.K p wb) (liftE X.K p wc) (liftE X.K p wd) σ H Q := by
  rintro σ H Q ⟨F, B, env, As, R, s, hw, k⟩
  refine ⟨F, B, env, As, _, s, hw, fun v H1 F1 As1 a x e1 po1 t1 g1 => ?_⟩
  refine ⟨F1, Bx B a, e1, As1, _, po1.so.push t1, g1, fun u H2 F2 As2 b y e2 po2 t2 ⟨yz, g2⟩ => ?_⟩
  refine h1 po2.so.pop (t1.keep po2).rep t2.rep g2 fun zv H3 F3 c z po3 t3 g3 => ?_
  obtain ⟨cb, rfl, g3⟩ := asB_inv g3
  obtain ⟨rfl, _⟩ := t3.rep.sc_inv
  refine ⟨cb, rfl, ?_⟩
  have po13 := (po1.trans po2.pop).trans (po3.imp fun _ => rfl)
  cases cb with
  | false => exact k _ H3 F3 As2 [] _ e2 po13 (.sc po3.so _) g3
  | true =>
    have r2 := t2.rep
    have := r2.fzNil yz; subst this
    refine ⟨F3, B, e2, As2, _, po3.so, g3, fun w H4 F4 As4 c4 u e4 po4 t4 ⟨uz, g4⟩ => ?_⟩
    have r4 := t4.rep
    have := r4.fzNil uz; subst this
    refine h2 po4.so (r2.frame (po3.ext.trans po4.ext) fun _ z => nomatch z) r4 g4 fun zv H5 F5 c5 z5 po5 t5 g5 => ?_
    obtain ⟨cb, rfl, g5⟩ := asB_inv g5
    obtain ⟨rfl, _⟩ := t5.rep.sc_inv
    refine ⟨cb, rfl, ?_⟩
    have po15 := (po13.trans po4).trans (po5.imp fun _ => rfl)
    cases cb with
    | false => exact k _ H5 F5 As4 [] _ e4 po15 (.sc po5.so _) g5
    | true =>
      refine ⟨F5, B, e4, As4, _, po5.so, g5, fun w H6 F6 As6 c6 t e6 po6 t6 g6 => ?_⟩
      refine h3 po6.so (r4.frame (po5.ext.trans po6.ext) fun _ z => nomatch z) t6.rep g6 fun zv H7 F7 c7 z7 po7 t7 g7 => ?_
      exact k _ H7 F7 As6 c7 z7 e6 ((po15.trans po6).trans (po7.imp fun _ => rfl)) t7 g7
theorem de_chain3 {o1 o2 o3 : CmpOp} {r1 r2 r3 : R2} {rd1 rd2 rd3 : RD2} (g1 : OpR X (compareOp o1) r1) (h1 : Snd2 X.K r1 rd1) (g2 : OpR X (compareOp o2) r2) (h2 : Snd2 X.K r2 rd2) (g3 : OpR X (compareOp o3) r3) (h3 : Snd2 X.K r3 rd3)
    (ha : DE p X a wa) (hb : DE p X b wb) (hc : DE p X c wc) (hd : DE p X d wd) (hm : lastMarks [o1, o2, o3] [b, c, d] = false := by with_unfolding_all rfl) : DE p X (.Compare a [o1, o2, o3] [b, c, d] pos) (wChain3 rd1 rd2 rd3 wa wb wc wd) :=
  ⟨PEimp (pe_chain3 g1 g2 g3 ha.pe hb.pe hc.pe hd.pe hm) (chain3_lift h1 h2 h3)⟩
theorem dt_chain3 {o1 o2 o3 : CmpOp} {r1 r2 r3 : R2} {rd1 rd2 rd3 : RD2} (g1 : OpR X (compareOp o1) r1) (h1 : Snd2 X.K r1 rd1) (g2 : OpR X (compareOp o2) r2) (h2 : Snd2 X.K r2 rd2) (g3 : OpR X (compareOp o3) r3) (h3 : Snd2 X.K r3 rd3)
    (ha : DE p X a wa) (hb : DE p X b wb) (hc : DE p X c wc) (hd : DE p X d wd) (hm : lastMarks [o1, o2, o3] [b, c, d] = false := by with_unfolding_all rfl) : DT p X (.Compare a [o1, o2, o3] [b, c, d] pos) (wTst (wChain3 rd1 rd2 rd3 wa wb wc wd)) :=
  ⟨PTimp (pt_chain3 g1 g2 g3 ha.pe hb.pe hc.pe hd.pe hm) (tst_lift (chain3_lift h1 h2 h3))⟩
end

/-! ### dicts by tuples of ints -/
/-- d[u] = r of a comprehension: P tells, by the tracked heap, what it leaves -/
abbrev DStep := Addr → V → V → Hp → (Hp → Prop) → Prop
def DStores (X : Cx) (P : DStep) : Prop := ∀ {Y : Cx} {pins : List (Addr × Obj)} {σ : L2.St} {H : Hp} {s : Shared} {E : Value → Shared → Prop} {D : Addr} {y z : V} {u r : Value} {Nx : Hp → Prop} {Q : Unit → Shared → Prop}, Y.prog = X.prog → Y.w = X.w → Y.A = X.A →
  Inv Y pins σ H s → P D y z H Nx → RelV y u → RelV z r → (∀ s' H', Inv Y pins σ H' s' → Nx H' → Q () s') → wpAny (model Y.prog Y.w) Y.A (dictSet D u r) Q E s
/-- the turns: o0 the new dict as it is tracked -/
def tDcP (o0 : HO) (P : DStep) (wi : L2.TI) (g : TG) (tt : TT) (tk tv : TE) (vs : List Nat) : TE := fun σ H0 Q => wi σ H0 fun J H1 => ∀ D, H1 D = none → ∃ W : Nat → Nat → Hp → Prop, (∃ m0, W 0 m0 (upd H1 D o0)) ∧ ∀ i m H, W i m H →
  (J.stop i H ∧ Q (.ref D) H) ∨ (J.go i H ∧ ∃ Nx : Hp → Prop, (∀ H', Nx H' → ∃ m', m' < m ∧ W (i + 1) m' H') ∧
    ∀ x H', J.yld i H x H' → g x (wipe σ vs) H' fun σ2 H2 => wipe σ2 vs = wipe σ vs ∧ tt σ2 H2 fun b H3 => if b = true then tk σ2 H3 fun y H4 => tv σ2 H4 fun z H5 => P D y z H5 Nx else Nx H3)
section
variable {X : Cx} {kx vx tg iter : Expr} {ifs : List Expr} {scope : Scope} {own : List (Str × Nat)} {pos : Pos} {wi : L2.TI} {g : TG} {tt : TT} {tk tv : TE} {o0 : HO} {P : DStep}
open PySem.Spec PyProof.Rows in
theorem pe_dcP (hP : DStores X P) (h0 : ∀ {H : Hp} (h : Heap), sysModules < h.objs.size → ObjOk X.prog X.w H (h.push { cls := .type "dict", data := .dict #[] }) h.objs.size o0) (hc : X.calm = true) (hN : X.N.Nodup) (hi : PI X tg iter wi) (ok : BlkOk X.N X.env.scope scope own)
    (hg : ∀ (s : Shared) (H : Hp) (C : Addr) (cl : List (Str × Addr)) (fp : List Addr), PG (X.blk s H scope (compEnvC scope cl C X.env) fp) tg g)
    (ht : ∀ (s : Shared) (H : Hp) (C : Addr) (cl : List (Str × Addr)) (fp : List Addr), PTs (X.blk s H scope (compEnvC scope cl C X.env) fp) ifs tt)
    (hk : ∀ (s : Shared) (H : Hp) (C : Addr) (cl : List (Str × Addr)) (fp : List Addr), PE (X.blk s H scope (compEnvC scope cl C X.env) fp) kx tk)
    (he : ∀ (s : Shared) (H : Hp) (C : Addr) (cl : List (Str × Addr)) (fp : List Addr), PE (X.blk s H scope (compEnvC scope cl C X.env) fp) vx tv) (hs : ∀ x, foldedSetIterable iter X.env x = pure x := by intro _; rfl) :
    PE X (.DictComp kx vx [⟨tg, iter, ifs, 0⟩] scope pos) (tDcP o0 P wi g tt tk tv (own.map (·.2))) := by
  refine ⟨fun pins s0 σ H0 Q I0 hq => ?_⟩
  rw [arm_eval_DictComp]
  have free : ∀ y ∈ scope.names, y.2 = .free → ∃ c, X.env.cells.lookup y.1 = some c := fun y hy e => (ok.free y hy e).elim (fun z => I0.ok.has _ (.inl z)) fun z => I0.ok.has _ (.inr z)
  refine wpAny_comprehension_free (use := none) rfl hs (closure_ok free) ok.kind (fun y hy e => by rw [ok.uniq y hy, e]) (thn (hi.run pins s0 σ H0 _ I0 hq) fun _ _ h1 => thn h1 fun _ s1 ⟨it, fp, tn, J, H1, e1, I1, T, st1, f1, q1⟩ => ?_)
  subst e1
  refine wpAny_newObj_type (newEnv_comp ?_)
  have fresh : H1 s1.heap.objs.size = none := I1.hok.fresh (Nat.le_refl _)
  have new := h0 (H := upd H1 s1.heap.objs.size o0) s1.heap I1.big
  revert fresh new
  generalize hD : s1.heap.objs.size = D
  intro fresh new
  obtain ⟨W, ⟨m0, w0⟩, turn⟩ := q1 D fresh
  generalize hs2 : ({ s1 with heap := s1.heap.push { cls := .type "dict", data := .dict #[] } } : Shared) = s2
  have I2 : Inv X pins σ (upd H1 D o0) s2 := by
    rw [← hs2]
    exact I1.laid (t' := s1.toks) (fun b o e => Heap.get?_push_of_some _ e) (Nat.le_of_eq hD) new
  have hp2 : s2.heap = s1.heap.push { cls := .type "dict", data := .dict #[] } := by rw [← hs2]
  have f2 : ∀ b ∈ fp, FpOk X pins (upd H1 D o0) b ∧ b < s2.heap.objs.size := fun b hb => by
    obtain ⟨o, e, _⟩ := T.obj _ _ st1 b hb
    have lt := Heap.lt_size e
    refine ⟨⟨(upd_ne (by rw [← hD]; exact Nat.ne_of_lt lt)).trans (f1 b hb).1, (f1 b hb).2⟩, ?_⟩
    rw [hp2, Heap.size_push]
    exact Nat.lt_succ_of_lt lt
  have st2 : tn 0 s2.heap := T.keep _ _ _ st1 fun b _ o e => by rw [hp2]; exact Heap.get?_push_of_some _ e
  have I3 := block_start I2 ok hN f2
  generalize hH2 : upd H1 D o0 = H2 at I2 I3 w0 f2
  have pg := hg s2 H2 s2.heap.objs.size (cellsFrom (s2.heap.objs.size + 1) scope.names (cloFrom X.env.cells scope.names [])) fp
  have pt := ht s2 H2 s2.heap.objs.size (cellsFrom (s2.heap.objs.size + 1) scope.names (cloFrom X.env.cells scope.names [])) fp
  have pk := hk s2 H2 s2.heap.objs.size (cellsFrom (s2.heap.objs.size + 1) scope.names (cloFrom X.env.cells scope.names [])) fp
  have pv := he s2 H2 s2.heap.objs.size (cellsFrom (s2.heap.objs.size + 1) scope.names (cloFrom X.env.cells scope.names [])) fp
  show codeAny _ _ (.compStart (.DictComp kx vx [⟨tg, iter, ifs, 0⟩] scope pos) 0 (.ref it) (.ref D) (compEnvC scope (cellsFrom (s2.heap.objs.size + 1) scope.names (cloFrom X.env.cells scope.names [])) s2.heap.objs.size X.env)) (compPost (model X.prog X.w) X.A X.xe none _ (.ref D) s2.heap.objs.size) { s2 with heap := pushCells (s2.heap.push { cls := .type "dict", data := .dict #[] }) scope.names }
  generalize hce : compEnvC scope (cellsFrom (s2.heap.objs.size + 1) scope.names (cloFrom X.env.cells scope.names [])) s2.heap.objs.size X.env = ce at I3 pg pt pk pv ⊢
  have loc : ce.locals = s2.heap.objs.size := by rw [← hce]; rfl
  generalize hs3 : ({ s2 with heap := pushCells (s2.heap.push { cls := .type "dict", data := .dict #[] }) scope.names } : Shared) = s3 at I3 ⊢
  have st3 : tn 0 s3.heap := T.keep _ _ _ st2 fun b _ o e => by rw [← hs3]; exact pushCells_keeps _ _ _ _ (Heap.get?_push_of_some _ e)
  have fpok : ∀ {σ' : L2.St} {H' : Hp} {s' : Shared}, Inv (X.blk s2 H2 scope ce fp) [] σ' H' s' → (∀ b ∈ fp, H' b = none) → ∀ b ∈ fp, FpOk (X.blk s2 H2 scope ce fp) [] H' b := fun I' n b hb =>
    ⟨n b hb, (I'.ok.exf b hb).1, I'.ok.exfs b hb, .inl hb, fun x c e => (I'.ok.exf b hb).2 x c e, fun p hp => by simp at hp⟩
  have main : codeAny (model X.prog X.w) X.A (.compLoop (.DictComp kx vx [⟨tg, iter, ifs, 0⟩] scope pos) 0 (.ref it) (.ref D) ce) (compPost (model X.prog X.w) X.A X.xe none (fun v s' => ∃ x H', Inv X pins σ H' s' ∧ RelV x v ∧ Q x H') (.ref D) s2.heap.objs.size) s3 := by
    refine compLoop_anyD (fun n s' => ∃ i H', Inv (X.blk s2 H2 scope ce fp) [] (wipe σ (own.map (·.2))) H' s' ∧ tn i s'.heap ∧ (∀ b ∈ fp, H' b = none) ∧ W i n H') (fun n s4 hw => ?_) m0 ⟨0, H2, I3, st3, fun b hb => (f2 b hb).1.1, w0⟩
    obtain ⟨i, H4, I4, st4, n4, w4⟩ := hw
    rcases turn i n H4 w4 with ⟨stop, done⟩ | ⟨go, Nx, less, step⟩
    · refine thnF (T.done (X.blk s2 H2 scope ce fp) rfl rfl rfl hc i [] s4 _ H4 (fun _ _ => False) I4 (fpok I4 n4) st4 stop) fun r s5 ⟨er, I5⟩ => ?_
      subst er
      have out : Inv X pins σ H4 s5 := I2.call' (ch := fp) I5.os I5.base I5.hok I5.bare fun b hb => let z := (f2 b hb).1; ⟨z.2.2.2.1, z.2.1, z.2.2.2.2.1, z.2.2.2.2.2⟩
      have gone : H4 s2.heap.objs.size = none := by rw [← loc]; exact I5.free
      obtain ⟨mm, hn, _⟩ := I5.loc
      have hn : s5.heap.Ns ce.locals mm := hn
      rw [loc] at hn
      refine ⟨mm, hn, fun h'' sb => ?_⟩
      obtain ⟨k0, k1, k2, k3, k4, k5⟩ := I2.fpOk (Nat.le_refl _) gone
      exact ⟨.ref D, H4, out.turned (t' := s5.toks) (fun b o hb e => (sb.2 b hb).trans e) k0 k1 k3 k4 k5, rfl, done⟩
    · refine thnF (T.item (X.blk s2 H2 scope ce fp) rfl rfl rfl hc i [] s4 _ H4 (fun _ _ => False) I4 (fpok I4 n4) st4 go) fun r s5 ⟨u, er, h5⟩ => ?_
      subst er
      refine thnF h5 fun _ s6 ⟨x, H6, I6, r6, y6, st6, n6⟩ => ?_
      refine thnF (pg.run _ s6 _ H6 x u _ (I6.pinned (fpok I6 n6) (T.obj _ _ st6)) r6 (step x H6 y6)) fun _ s7 ⟨σ7, H7, I7, w7, q7⟩ => ?_
      refine thnF (pt.run _ s7 σ7 H7 _ I7 q7) fun b s8 ⟨H8, I8, q8⟩ => ?_
      have back : ∀ {s' : Shared} {H' : Hp}, Inv (X.blk s2 H2 scope ce fp) ([] ++ pinsAt fp s6.heap) σ7 H' s' → Nx H' → ∃ m, m < n ∧ ∃ i H', Inv (X.blk s2 H2 scope ce fp) [] (wipe σ (own.map (·.2))) H' s' ∧ tn i s'.heap ∧ (∀ b ∈ fp, H' b = none) ∧ W i m H' := fun {s' H'} I' nx => by
        obtain ⟨m', lt, w'⟩ := less H' nx
        have pin : ∀ b ∈ fp, ∀ o, s6.heap.get? b = some o → s'.heap.get? b = some o ∧ H' b = none := fun b hb o e =>
          let z := I'.pin (b, o) (List.mem_append_right _ (List.mem_append_right _ (mem_pinsAt hb e)))
          ⟨z.1, z.2.1⟩
        refine ⟨m', lt, i + 1, H', (I'.unpinned (pins := [])).weak (by rw [← w7, wipe_length]) (fun j v e => by rw [← w7] at e; exact (wipe_some e).1), T.keep _ _ _ st6 fun b hb o e => (pin b hb o e).1, fun b hb => ?_, w'⟩
        obtain ⟨o, e, _⟩ := T.obj _ _ st6 b hb
        exact (pin b hb o e).2
      cases b with
      | false =>
        simp only [Bool.false_eq_true, if_false] at q8 ⊢
        exact back I8 q8
      | true =>
        simp only [if_true] at q8 ⊢
        refine thnF (pk.run _ s8 σ7 H8 _ I8 q8) fun ku s9 ⟨yk, H9, I9, r9, q9⟩ => ?_
        refine thnF (pv.run _ s9 σ7 H9 _ I9 q9) fun vu s10 ⟨yv, H10, I10, r10, q10⟩ => ?_
        exact hP (Y := X.blk s2 H2 scope ce fp) rfl rfl rfl I10 q10 r9 r10 fun s' H' I' nx => back I' nx
  exact codeAny_compStart_dict main (T.self X.A 0 _ _ _ st3 main)
end
/-- the store by a tuple of scalars -/
def stT : DStep := fun D y z H Nx => ∃ kvs k b, y = .ref b ∧ H b = some (.tup (k.map kV)) ∧ H D = some (.dT kvs) ∧ kvs.length < sizeLine ∧ Nx (upd H D (.dT (putK kvs k z)))
open PySem.Spec PyProof.Rows in
theorem stT_ok {X : Cx} (hu : X.A.units < cLine) : DStores X stT := by
  intro Y pins σ H s E D y z u r Nx Q e1 e2 e3 I hst ry rz h
  obtain ⟨kvs, k, b, rfl, hb, hD, hl, nx⟩ := hst
  cases (show u = Value.ref b from ry)
  obtain ⟨z1, hd, xs, rel, dd⟩ := dt_of I.hok hD
  have hz : xs.length ≤ sizeLine := by rw [← Paired.length rel]; exact z1
  have hl2 : (putK kvs k z).length ≤ sizeLine := by have := length_putK kvs k z; omega
  rw [← e3] at hu
  refine wpAny_dictSet_heap (hsz := hz) hu (key_of I.hok hb) dd fun h' dd' hs => h _ _ ?_ nx
  obtain ⟨q, es, ep, hq, h2, h3, h4, _, h5⟩ := dd'
  refine d_write I (by rw [hD]; exact True.intro) hs ⟨q, hq⟩ ⟨hl2, hd, _, (rel.put k hb rz).keeps fun c ys ec => ?_, q, es, ep, hq, h2, h3, h4, h5⟩
  rw [upd_ne (ne_of ec hD (fun z => nomatch z))]
  exact ec
/-! by data -/
def keyD (k : Key) : D := .sc (kV k)
/-- a dict by tuples of scalars, its values scalars -/
def dctD (o : Bool) (kvs : List (List Key × V)) : D := .obj o (.dT (kvs.map (·.1))) (kvs.map fun p => D.sc p.2)
theorem zip_fs {α β : Type} : ∀ l : List (α × β), (l.map (·.1)).zip (l.map (·.2)) = l
  | [] => rfl
  | p :: l => by simp [zip_fs l]
/-- the turns, by data -/
def dcompT (vs : List Nat) (g : WG) (wt : WT) (wk : WA) (wv : WE) : List D → List (List Key × V) → En → (List (List Key × V) → En → Prop) → Prop
  | [], acc, env, R => R acc env
  | x :: xs, acc, env, R => g x (wipeE none vs env) fun e1 => wt e1 fun b e2 => if b = true then wk e2 fun ds e3 => ∃ k, ds = k.map keyD ∧ k.length ≤ sizeLine ∧ wv e3 fun y e4 => ∃ v, y = .sc v ∧ acc.length < sizeLine ∧ dcompT vs g wt wk wv xs (putK acc k v) e4 R
    else dcompT vs g wt wk wv xs acc e2 R
def wDcT (wi : WI) (vs : List Nat) (g : WG) (wt : WT) (wk : WA) (wv : WE) : WE := fun env R => wi env fun items e1 => dcompT vs g wt wk wv items [] e1 fun acc e2 => R (dctD true acc) (restE e1 vs (wipeE none vs e2))
section
variable {K : PySem.W.Frag} {F H : Hp} {B : Addr → Prop} {env : En} {σ : L2.St} {As : List (List Addr)}
/-- one more object that stays -/
theorem SO.hold {p : Addr} {o : HO} (s : SO K F H B env σ As) (h : H p = none) : SO K F (upd H p o) (Bx B [p]) env σ As := by
  have s2 := (s.newO (o := o) h).so
  refine ⟨s2.same, s2.env, s2.nd, s2.fr, fun b hb => ?_⟩
  rcases hb with hb | hb
  · exact s2.out b hb
  · rw [List.mem_singleton.mp hb]
    exact ⟨s.freeF h, ⟨o, upd_same⟩, s.notAs h⟩
theorem dcT_lift {wi : WI} {vs : List Nat} {g : WG} {wt : WT} {wk : WA} {wv : WE} {ti : L2.TI} {tg : TG} {tt : TT} {ta : TA} {tv : TE} {n : Nat} (hi : ∀ σ H Q, liftI K false wi σ H Q → ti σ H Q)
    (hg : ∀ v σ H Q, liftG K (outK n vs) g v σ H Q → tg v σ H Q) (ht : ∀ σ H Q, liftT K false wt σ H Q → tt σ H Q) (hk : ∀ σ H Q, liftA K false wk σ H Q → ta σ H Q) (hv : ∀ σ H Q, liftE K false wv σ H Q → tv σ H Q) :
    ∀ (σ : L2.St) H Q, σ.length = n → liftE K false (wDcT wi vs g wt wk wv) σ H Q → tDcP (.dT []) stT ti tg tt (tTup ta) tv vs σ H Q := by
  rintro σ H Q hn ⟨F, B, env, As, R, s, hw, k⟩
  refine hi σ H _ ⟨F, B, env, As, _, s, hw, fun J H1 F1 As1 e1 items po1 it h1 D hD => ?_⟩
  refine ⟨fun i m H' => m = items.length - i ∧ i ≤ items.length ∧ ∃ F' As' env' acc, Same F1 F' ∧ SO K F' H' (Bx B [D]) (wipeE none vs env') (wipeE none vs σ) As' ∧ (∀ b, B b → H' b = H1 b) ∧ H' D = some (.dT acc) ∧
      dcompT vs g wt wk wv (items.drop i) acc env' (fun acc e2 => R (dctD true acc) (restE e1 vs (wipeE none vs e2))), ⟨items.length, rfl, Nat.zero_le _, ?_⟩, ?_⟩
  · exact ⟨F1, _, e1, [], Same.refl _, (po1.so.hold hD).wipe vs, fun b hb => upd_ne fun z => po1.so.notB hD (z ▸ hb), upd_same, h1⟩
  · rintro i m H2 ⟨rfl, hle, F2, As2, e2, acc, sm, s2, kb, hD2, h2⟩
    by_cases hlt : i < items.length
    · refine .inr ⟨it.go i H2 (sm.trans s2.same) hlt, fun H' => ∃ F' As' env' acc, Same F1 F' ∧ SO K F' H' (Bx B [D]) (wipeE none vs env') (wipeE none vs σ) As' ∧ (∀ b, B b → H' b = H1 b) ∧ H' D = some (.dT acc) ∧
        dcompT vs g wt wk wv (items.drop (i + 1)) acc env' (fun acc e2 => R (dctD true acc) (restE e1 vs (wipeE none vs e2))), fun H' h => ⟨items.length - (i + 1), by omega, rfl, hlt, h⟩, fun x H3 y => ?_⟩
      rw [List.drop_eq_getElem_cons hlt] at h2
      obtain ⟨F3, po3, t3⟩ := it.item s2 sm y (List.getElem?_eq_getElem hlt)
      rw [wipe_eq]
      have same : ∀ {σ4 H4 F4 As4 e4}, PostS K (outK n vs) F2 H2 (Bx B [D]) (wipeE none vs σ) F4 H4 e4 σ4 As4 → wipeE none vs σ4 = wipeE none vs σ := fun {σ4 _ _ _ _} po => by
        have hl4 : σ4.length = σ.length := by rw [po.len, wipeE_len]
        refine List.ext_getElem? fun j => ?_
        by_cases hj : j ∈ vs
        · by_cases hjl : j < σ.length
          · rw [wipeE_in none hj (by omega), wipeE_in none hj hjl]
          · rw [List.getElem?_eq_none (by rw [wipeE_len]; omega), List.getElem?_eq_none (by rw [wipeE_len]; omega)]
        · rw [wipeE_out none hj, wipeE_out none hj]
          by_cases hjl : j < n
          · rw [po.kp j (outK_mem.mpr ⟨hjl, hj⟩), wipeE_out none hj]
          · rw [List.getElem?_eq_none (by omega), List.getElem?_eq_none (by omega)]
      have back : ∀ {σ4 H4 F4 As4 e4}, PostS K (outK n vs) F2 H2 (Bx B [D]) (wipeE none vs σ) F4 H4 e4 σ4 As4 → SO K F4 H4 (Bx B [D]) (wipeE none vs e4) (wipeE none vs σ) (wipeE [] vs As4) := fun po => by
        rw [← same po]; exact po.so.wipe vs
      refine hg x _ H3 _ ⟨F3, Bx B [D], _, As2, _, [], _, po3.so, t3, h2, fun σ4 H4 F4 As4 e4 po4 h4 => ?_⟩
      have po24 := (po3.ps (kp := outK n vs)).trans po4
      refine ⟨by rw [wipe_eq, same po24], ?_⟩
      refine ht σ4 H4 _ ⟨F4, Bx B [D], e4, As4, _, po4.so, h4, fun b H5 F5 As5 e5 po5 h5 => ?_⟩
      have po25 := po24.trans (po5.ps (kp := outK n vs))
      cases b with
      | false =>
        exact ⟨F5, _, e5, acc, sm.trans po25.ext, back po25, fun b hb => (po25.keep b (.inl hb)).trans (kb b hb), (po25.keep D (.inr (List.mem_singleton.mpr rfl))).trans hD2, h5⟩
      | true =>
        refine hk σ4 H5 _ ⟨F5, Bx B [D], e5, As5, _, po5.so, h5, fun ks H6 F6 As6 ak ds e6 po6 t6 ⟨kk, hds, hl, h6⟩ => ?_⟩
        subst hds
        have po26 := po25.trans (po6.ps (kp := outK n vs))
        have rk := t6.rep
        rw [show kk.map keyD = (kk.map kV).map PL.D.sc by rw [List.map_map]; rfl] at rk
        obtain ⟨rfl, rfl⟩ := rk.sc_inv
        refine ⟨by rw [List.length_map]; exact hl, fun p hp => ?_⟩
        have s6 := po6.so.hold (o := .tup (kk.map kV)) hp
        have nD : D ≠ p := fun z => by
          have := (po26.so.out D (.inr (List.mem_singleton.mpr rfl))).2.1
          rw [z, hp] at this
          obtain ⟨_, e⟩ := this
          cases e
        refine hv σ4 _ _ ⟨F6, _, e6, As6, _, s6, h6, fun yv H7 F7 As7 ay y e7 po7 t7 ⟨v, hy, hl2, h7⟩ => ?_⟩
        subst hy
        obtain ⟨rfl, rfl⟩ := t7.rep.sc_inv
        have hp7 : H7 p = some (.tup (kk.map kV)) := (po7.keep p (.inr (List.mem_singleton.mpr rfl))).trans upd_same
        have keep7 : ∀ b, Bx B [D] b → H7 b = H2 b := fun b hb => (po7.keep b (.inl hb)).trans ((upd_ne fun z => by
          have := (po26.so.out b hb).2.1
          rw [z, hp] at this
          obtain ⟨_, e⟩ := this
          cases e).trans (po26.keep b hb))
        have po67 : PostS K (outK n vs) F2 H2 (Bx B [D]) (wipeE none vs σ) F7 H7 e7 σ4 As7 := ⟨po26.ext.trans po7.ext, po7.so.pop, keep7, po26.kp, po26.len⟩
        have hD7 : H7 D = some (.dT acc) := (keep7 D (.inr (List.mem_singleton.mpr rfl))).trans hD2
        refine ⟨acc, kk, p, rfl, hp7, hD7, hl2, F7, _, e7, putK acc kk yv, sm.trans po67.ext, (back po67).updB (.inr (List.mem_singleton.mpr rfl)), fun b hb => ?_, upd_same, h7⟩
        have nb : b ≠ D := fun z => po1.so.notB hD (z ▸ hb)
        exact (upd_ne nb).trans ((keep7 b (.inl hb)).trans (kb b hb))
    · have e : i = items.length := by omega
      subst e
      rw [List.drop_length] at h2
      refine .inl ⟨it.stop _ H2 (sm.trans s2.same) (Nat.le_refl _), ?_⟩
      have nE : ∀ i : Nat, (wipeE none vs e2)[i]? ≠ some none → σ[i]? = (wipeE none vs σ)[i]? := fun j hj => by
        by_cases hv : j ∈ vs
        · by_cases hl : j < σ.length
          · exact absurd (wipeE_in none hv (by have := s2.env.len.1; rw [wipeE_len, wipeE_len] at this; omega)) hj
          · rw [List.getElem?_eq_none (by omega), List.getElem?_eq_none (by rw [wipeE_len]; omega)]
        · rw [wipeE_out none hv]
      have oD := s2.out D (.inr (List.mem_singleton.mpr rfl))
      have s3 : SO K F2 H2 B (wipeE none vs e2) σ As2 := ⟨s2.same, s2.env.slots (wipeE_len none vs σ).symm nE, s2.nd, s2.fr, s2.pop.out⟩
      obtain ⟨As3, s4, sub⟩ := po1.so.rest sm s3 vs
      refine k (.ref D) H2 F2 As3 [D] _ _ ⟨po1.ext.trans sm, s4, fun b hb => (kb b hb).trans (po1.keep b hb), fun z => Bool.noConfusion z⟩ ⟨?_, ?_, fun x hx => ?_, fun x hx => ?_⟩ h2
      · refine .own (vs := acc.map (·.2)) (A := []) (show CellO H2 (.dT (acc.map (·.1))) D (acc.map (·.2)) from ⟨by rw [zip_fs]; exact hD2, by simp⟩) ?_
        have := RepL.sc_of (K := K) (F := F2) (H := H2) (acc.map (·.2))
        rw [List.map_map] at this
        exact this
      · exact List.nodup_append.mpr ⟨by simp, s4.nd, fun x hx z hz e => by
          subst e
          rw [List.mem_singleton.mp hx] at hz
          exact oD.2.2 (sub _ hz)⟩
      · rw [List.mem_singleton.mp hx]; exact oD.1
      · rw [List.mem_singleton.mp hx]; exact po1.so.notB hD
end
section
variable {X : Cx} {kes : List Expr} {vx tg iter : Expr} {ifs : List Expr} {scope : Scope} {own : List (Str × Nat)} {pos kpos : Pos} {x1} {wi : WI} {g : WG} {wt : WT} {wk : WA} {wv : WE}
theorem de_dcT (hu : X.A.units < cLine) (hc : X.calm = true) (hN : X.N.Nodup) (hi : DI false X tg iter wi) (ok : BlkOk X.N X.env.scope scope own)
    (hg : ∀ (s : Shared) (H : Hp) (C : Addr) (cl : List (Str × Addr)) (fp : List Addr), DG (outK X.N.length (own.map (·.2))) (X.blk s H scope (compEnvC scope cl C X.env) fp) tg g)
    (ht : ∀ (s : Shared) (H : Hp) (C : Addr) (cl : List (Str × Addr)) (fp : List Addr), DTs false (X.blk s H scope (compEnvC scope cl C X.env) fp) ifs wt)
    (hk : ∀ (s : Shared) (H : Hp) (C : Addr) (cl : List (Str × Addr)) (fp : List Addr), DA false (X.blk s H scope (compEnvC scope cl C X.env) fp) kes wk)
    (he : ∀ (s : Shared) (H : Hp) (C : Addr) (cl : List (Str × Addr)) (fp : List Addr), DE false (X.blk s H scope (compEnvC scope cl C X.env) fp) vx wv) (hs : ∀ x, foldedSetIterable iter X.env x = pure x := by intro _; rfl) :
    DE false X (.DictComp (.Tuple kes x1 kpos) vx [⟨tg, iter, ifs, 0⟩] scope pos) (wDcT wi (own.map (·.2)) g wt wk wv) :=
  ⟨PEimpN (pe_dcP (o0 := .dT []) (g := liftG X.K (outK X.N.length (own.map (·.2))) g) (tt := liftT X.K false wt) (tk := tTup (liftA X.K false wk)) (tv := liftE X.K false wv) (stT_ok hu) (fun h hb => dt_empty h hb) hc hN hi.pi ok
    (fun s H C cl fp => (hg s H C cl fp).pg) (fun s H C cl fp => (ht s H C cl fp).pt) (fun s H C cl fp => pe_tup (hk s H C cl fp).pa) (fun s H C cl fp => (he s H C cl fp).pe) hs) fun σ H Q hn h =>
    dcT_lift (fun _ _ _ h => h) (fun _ _ _ _ h => h) (fun _ _ _ h => h) (fun _ _ _ h => h) (fun _ _ _ h => h) σ H Q hn h⟩
end
/-! d[a, b] -/
def rIxDT (K : PySem.W.Frag) : R2 := fun x y H Q => ∃ a b kvs k v, x = .ref a ∧ y = .ref b ∧ Rd H a (.dT kvs) ∧ SqT K H b (k.map kV) ∧ valV kvs k = some v ∧ Q v H
open PySem.Spec PyProof.Rows in
theorem ix_dT {X : Cx} (hu : X.A.units + 1 < cLine) : IxR X (rIxDT X.K) := by
  intro value slice pins s σ H x y v u Q I rx ry h hs
  obtain ⟨a, b, kvs, k, z, rfl, rfl, e, hq, l, q⟩ := h
  cases rx
  cases ry
  obtain ⟨its, r, pl, _⟩ := I.tuple hq
  obtain ⟨o, h1, h2, n, h3⟩ := pl
  have key : (tupleKind (mixKind X.prog X.w)).is s.heap k b := ⟨o, its.toArray, n, h1, h2, h3, by simpa using items_are r⟩
  obtain ⟨_, hd, xs, rel, dd⟩ := dt_rd I.hok e
  obtain ⟨w', hw, rw'⟩ := RelO.some_of (v := z) (o := (atKey xs k).map (·.2)) (by rw [← l]; exact rel.val k)
  obtain ⟨p, hp, hp2⟩ := Option.map_eq_some_iff.mp hw
  refine subscriptTail_builtinR (x := w') dd.typeIs PySem.F.slot_dict_getitem.lookup (wpAny_getItem_heap (tupleKind_room_in1 hu) key dd hp ?_) hs
  exact ⟨hp2, z, H, I.tok _, by rw [hp2]; exact rw', q⟩
def rdIxDT : RD2 := fun x y R => ∃ o kvs k v, x = dctD o kvs ∧ y = .tup (k.map keyD) ∧ valV kvs k = some v ∧ R (.sc v)
theorem sIxDT {K : PySem.W.Frag} : Snd2 K (rIxDT K) rdIxDT := by
  intro F H B env σ As x y v u a b R Q s rx ry h k
  obtain ⟨o, kvs, ks, w, rfl, rfl, l, h⟩ := h
  obtain ⟨p, us, rfl, e1, r1⟩ := ry.tup_inv s.same
  rw [show ks.map keyD = (ks.map kV).map D.sc by rw [List.map_map]; rfl] at r1
  obtain ⟨rfl, _⟩ := r1.sc_inv
  have cell : ∃ q, v = .ref q ∧ H q = some (.dT kvs) := by
    have vals : ∀ {ws : List V} {A : List Addr}, RepL K F H (kvs.map fun p => D.sc p.2) ws A → ws = kvs.map (·.2) := fun {ws A} r => by
      have r : RepL K F H ((kvs.map (·.2)).map D.sc) ws A := by rw [List.map_map]; exact r
      exact r.sc_inv.1
    unfold dctD at rx
    cases rx with
    | own hc r => exact ⟨_, rfl, by have := hc.1; rw [vals r, zip_fs] at this; exact this⟩
    | frz hc r => exact ⟨_, rfl, by have := s.same _ _ hc.1; rw [vals r, zip_fs] at this; exact this⟩
  obtain ⟨q, rfl, hq⟩ := cell
  exact ⟨q, p, kvs, ks, w, rfl, rfl, .inl hq, e1, l, out_sc s h k⟩
theorem units1 {a : Nat} (h : a + 65 < cLine) : a + 1 < cLine := by omega
theorem units0 {a : Nat} (h : a + 65 < cLine) : a < cLine := by omega
end PL

/-! what each def of the law computes, by data (printed by gen.py) -/
namespace LAW_K70
open PySem L2 PL

/- met_by: 0 house 1 tape 2 room 3 moment 4 door 5 way -/
def wb_met_by : WS :=
  (sRet (wCB rdLen (aCons (wComp false (iSeq (wSl (wBin rdIx (wVal 1) (wC (.int 0))) oNo (oSo (wVal 3)))) [4, 5] (gTp 2 (gsCons (gNm 4) (gsCons (gNm 5) gsNil))) (wTst (wBin (rdIn false) (wVal 2) (wBin rdIx (wBin rdIx (wVal 0) (wC (.int 1))) (wVal 4)))) (wVal 4)) aNil)))
def F_met_by : WF := fnW [true, true, true, true] 2 wb_met_by

/- looks_at: 0 tape 1 room 2 moment 3 when 4 where 5 low 6 high -/
def wb_looks_at : WS :=
  (sRet (wComp false (iSeq (wBin rdIx (wVal 0) (wC (.int 1)))) [3, 4, 5, 6] (gTp 4 (gsCons (gNm 3) (gsCons (gNm 4) (gsCons (gNm 5) (gsCons (gNm 6) gsNil))))) (wAnd (wTst (wBin rdEq (wVal 3) (wVal 2))) (wTst (wBin rdEq (wVal 4) (wVal 1)))) (wTup (aCons (wVal 5) (aCons (wVal 6) aNil)))))
def F_looks_at : WF := fnW [true, true, true] 4 wb_looks_at

/- most_out: 0 house 1 begin 2 tape 3 room 4 moment 5 top 6 low 7 high -/
def wb_most_out : WS :=
  (sSeq (sIf (wTst (wBin rdEq (wVal 4) (wC (.int 0)))) (sRet (wC (.int 0))) sNext)
    (sSeq (sAsg (wCB rdMaxL (aCons (wBin rdAdd (wLst (aCons (wC (.int 0)) aNil)) (wComp false (iSeq (wCall F_looks_at (cValF (wVal 2) (cValF (wVal 3) (cValF (wVal 4) cNil))))) [6, 7] (gTp 2 (gsCons (gNm 6) (gsCons (gNm 7) gsNil))) wYes (wVal 6))) aNil)) (gFz 5))
    (sRet (wBin rdFdiv (wBin rdSub (wBin rdAdd (wBin rdIx (wVal 1) (wVal 3)) (wCall F_met_by (cValF (wVal 0) (cValF (wVal 2) (cValF (wVal 3) (cValF (wVal 4) cNil)))))) (wVal 5)) (wC (.int 2))))))
def F_most_out : WF := fnW [true, true, true, true, true] 3 wb_most_out

/- least_out: 0 house 1 begin 2 tape 3 room 4 moment 5 had 6 low 7 high -/
def wb_least_out : WS :=
  (sSeq (sIf (wTst (wBin rdEq (wVal 4) (wC (.int 0)))) (sRet (wC (.int 0))) sNext)
    (sSeq (sAsg (wBin rdAdd (wBin rdIx (wVal 1) (wVal 3)) (wCall F_met_by (cValF (wVal 0) (cValF (wVal 2) (cValF (wVal 3) (cValF (wVal 4) cNil)))))) (gFz 5))
    (sRet (wCB rdMaxL (aCons (wBin rdAdd (wLst (aCons (wC (.int 0)) aNil)) (wComp false (iSeq (wCall F_looks_at (cValF (wVal 2) (cValF (wVal 3) (cValF (wVal 4) cNil))))) [6, 7] (gTp 2 (gsCons (gNm 6) (gsCons (gNm 7) gsNil))) wYes (wBin rdFdiv (wBin rdAdd (wBin rdSub (wVal 5) (wVal 7)) (wC (.int 1))) (wC (.int 2))))) aNil)))))
def F_least_out : WF := fnW [true, true, true, true, true] 3 wb_least_out

/- may_leave: 0 house 1 bead 2 door 3 way 4 ends -/
def wb_may_leave : WS :=
  (sSeq (sAsg (wVal 1) (gTp 2 (gsCons (gFz 2) (gsCons (gFz 3) gsNil))))
    (sSeq (sAsg (wCB rdList (aCons (wBin rdIx (wBin rdIx (wVal 0) (wC (.int 1))) (wVal 2)) aNil)) (gFz 4))
    (sRet (wIf (wTst (wBin rdEq (wVal 3) (wC (.int (-1))))) (wVal 4) (wLst (aCons (wBin rdIx (wVal 4) (wVal 3)) aNil))))))
def F_may_leave : WF := fnW [true, true] 3 wb_may_leave

/- look_wrong: 0 house 1 begin 2 tape 3 moment 4 room 5 looks 6 look 7 low 8 high -/
def wb_look_wrong : WS :=
  (sSeq (sIf (wTst (wBin rdEq (wVal 3) (wC (.int 0)))) (sSeq (sAsg (wComp false (iSeq (wBin rdIx (wVal 2) (wC (.int 1)))) [6] (gNm 6) (wTst (wBin rdEq (wSl (wVal 6) oNo (oSo (wC (.int 2)))) (wTup (aCons (wC (.int 0)) (aCons (wVal 4) aNil))))) (wSl (wVal 6) (oSo (wC (.int 2))) oNo)) (gFz 5))
    (sRet (wCB rdAny (aCons (wComp false (iSeq (wVal 5)) [7, 8] (gTp 2 (gsCons (gNm 7) (gsCons (gNm 8) gsNil))) wYes (wNotV (wChain rdLe rdLe (wVal 7) (wBin rdIx (wVal 1) (wVal 4)) (wVal 8)))) aNil)))) sNext)
    (sRet (wBin rdGt (wCall F_least_out (cValF (wVal 0) (cValF (wVal 1) (cValF (wVal 2) (cValF (wVal 4) (cValF (wVal 3) cNil)))))) (wCall F_most_out (cValF (wVal 0) (cValF (wVal 1) (cValF (wVal 2) (cValF (wVal 4) (cValF (wVal 3) cNil)))))))))
def F_look_wrong : WF := fnW [true, true, true, true, true] 4 wb_look_wrong

/- story_right: 0 house 1 begin 2 tape 3 ways 4 beads 5 looks 6 here 7 rows 8 door 9 seen 10 way 11 moment 12 room 13 low 14 high -/
def wb_story_right : WS :=
  (sSeq (sAsg (wVal 2) (gTp 2 (gsCons (gFz 4) (gsCons (gFz 5) gsNil))))
    (sSeq (sIf (wTst (wBin rdNe (wCB rdLen (aCons (wVal 3) aNil)) (wCB rdLen (aCons (wVal 4) aNil)))) (sRet (wC (.bl false))) sNext)
    (sSeq (sAsg (wCB rdList (aCons (wVal 1) aNil)) (gNm 6))
    (sSeq (sAsg (wLst (aCons (wCB rdList (aCons (wVal 1) aNil)) aNil)) (gNm 7))
    (sSeq (sFor (iZp (aCons (wVal 4) (aCons (wVal 3) aNil))) (gTp 2 (gsCons (gTp 2 (gsCons (gFz 8) (gsCons (gFz 9) gsNil))) (gsCons (gFz 10) gsNil))) (sSeq (sIf (wOr (wTst (wBin (rdIn true) (wVal 10) (wTup (aCons (wC (.int 0)) (aCons (wC (.int 1)) aNil))))) (wTst (wBin (rdIn true) (wVal 9) (wTup (aCons (wC (.int (-1))) (aCons (wVal 10) aNil)))))) (sRet (wC (.bl false))) sNext)
    (sSeq (sAugIx (rdI0 fun i j => .int (i - j)) (mName 6) (wBin rdIx (wBin rdIx (wBin rdIx (wVal 0) (wC (.int 1))) (wVal 8)) (wVal 10)) (wC (.int 1)))
    (sSeq (sAugIx (rdI0 fun i j => .int (i + j)) (mName 6) (wBin rdIx (wBin rdIx (wBin rdIx (wVal 0) (wC (.int 1))) (wVal 8)) (wBin rdSub (wC (.int 1)) (wVal 10))) (wC (.int 1)))
    (sSeq (sIf (wTst (wBin rdLt (wCBB rdMinL (bCons (bName 6) bNil)) (wC (.int 0)))) (sRet (wC (.bl false))) sNext)
    (sDrop (wAppN false 7 (wCBB rdList (bCons (bName 6) bNil)))))))))
    (sRet (wCB rdAll (aCons (wComp false (iSeq (wVal 5)) [11, 12, 13, 14] (gTp 4 (gsCons (gNm 11) (gsCons (gNm 12) (gsCons (gNm 13) (gsCons (gNm 14) gsNil))))) wYes (wChain rdLe rdLe (wVal 13) (wBinBE rdIx (bIx (bName 7) (wVal 11)) (wVal 12)) (wVal 14))) aNil))))))))
def F_story_right : WF := fnW [true, true, true, true] 11 wb_story_right

/- are_stretches: 0 house 1 tape 2 rows 3 room 4 first 5 last 6 one 7 other -/
def wb_are_stretches : WS :=
  (sSeq (sFor (iSeq (wVal 2)) (gTp 3 (gsCons (gFz 3) (gsCons (gFz 4) (gsCons (gFz 5) gsNil)))) (sIf (wOr (wNot (wTst (wChain rdLe rdLt (wC (.int 0)) (wVal 3) (wBin rdIx (wVal 0) (wC (.int 0)))))) (wNot (wTst (wChain3 rdLe rdLe rdLe (wC (.int 1)) (wVal 4) (wVal 5) (wCB rdLen (aCons (wBin rdIx (wVal 1) (wC (.int 0))) aNil)))))) (sRet (wC (.bl false))) sNext))
    (sSeq (sFor (iZp (aCons (wVal 2) (aCons (wSl (wVal 2) (oSo (wC (.int 1))) oNo) aNil))) (gTp 2 (gsCons (gFz 6) (gsCons (gFz 7) gsNil))) (sIf (wOr (wTst (wBin rdGeD (wVal 6) (wVal 7))) (wAnd (wTst (wBin rdEq (wBin rdIx (wVal 6) (wC (.int 0))) (wBin rdIx (wVal 7) (wC (.int 0))))) (wTst (wBin rdLt (wBin rdIx (wVal 7) (wC (.int 1))) (wBin rdAdd (wBin rdIx (wVal 6) (wC (.int 2))) (wC (.int 2))))))) (sRet (wC (.bl false))) sNext))
    (sRet (wC (.bl true)))))
def F_are_stretches : WF := fnW [true, true, true] 5 wb_are_stretches

/- in_some: 0 rows 1 room 2 moment 3 where 4 first 5 last -/
def wb_in_some : WS :=
  (sRet (wCB rdAny (aCons (wComp false (iSeq (wVal 0)) [3, 4, 5] (gTp 3 (gsCons (gNm 3) (gsCons (gNm 4) (gsCons (gNm 5) gsNil)))) wYes (wAndV (wBin rdEq (wVal 3) (wVal 1)) (wChain rdLe rdLe (wVal 4) (wVal 2) (wVal 5)))) aNil)))
def F_in_some : WF := fnW [true, true, true] 3 wb_in_some

/- ends_of: 0 rows 1 room 2 first 3 last -/
def wb_ends_of : WS :=
  (sRet (wBin rdAdd (wComp false (iSeq (wVal 0)) [1, 2, 3] (gTp 3 (gsCons (gNm 1) (gsCons (gNm 2) (gsCons (gNm 3) gsNil)))) wYes (wTup (aCons (wVal 1) (aCons (wBin rdSub (wVal 2) (wC (.int 1))) aNil)))) (wComp false (iSeq (wVal 0)) [1, 2, 3] (gTp 3 (gsCons (gNm 1) (gsCons (gNm 2) (gsCons (gNm 3) gsNil)))) wYes (wTup (aCons (wVal 1) (aCons (wVal 3) aNil))))))
def F_ends_of : WF := fnW [true] 3 wb_ends_of

/- paper_right: 0 house 1 begin 2 tape 3 paper 4 kind 5 moment 6 room 7 rows 8 hit 9 k 10 bead 11 most 12 low 13 top 14 need 15 first 16 last 17 one -/
def wb_paper_right : WS :=
  (sSeq (sIf (wTst (wBin rdEq (wBin rdIx (wVal 3) (wC (.int 0))) (wC (.str "look")))) (sSeq (sAsg (wVal 3) (gTp 3 (gsCons (gFz 4) (gsCons (gFz 5) (gsCons (gFz 6) gsNil)))))
    (sSeq (sIf (wOr (wNot (wTst (wChain rdLe rdLe (wC (.int 0)) (wVal 5) (wCB rdLen (aCons (wBin rdIx (wVal 2) (wC (.int 0))) aNil))))) (wNot (wTst (wChain rdLe rdLt (wC (.int 0)) (wVal 6) (wBin rdIx (wVal 0) (wC (.int 0))))))) (sRet (wC (.bl false))) sNext)
    (sRet (wCall F_look_wrong (cValF (wVal 0) (cValF (wVal 1) (cValF (wVal 2) (cValF (wVal 5) (cValF (wVal 6) cNil))))))))) sNext)
    (sSeq (sAsg (wVal 3) (gTp 2 (gsCons (gFz 4) (gsCons (gFz 7) gsNil))))
    (sSeq (sIf (wNot (wTru (wCall F_are_stretches (cValF (wVal 0) (cValF (wVal 2) (cValF (wVal 7) cNil)))))) (sRet (wC (.bl false))) sNext)
    (sSeq (sAsg (wLst aNil) (gNm 8))
    (sSeq (sFor (iEnm (aCons (wBin rdIx (wVal 2) (wC (.int 0))) aNil)) (gTp 2 (gsCons (gFz 9) (gsCons (gFz 10) gsNil))) (sDrop (wAppN false 8 (wComp false (iSeq (wCall F_may_leave (cValF (wVal 0) (cValF (wVal 10) cNil)))) [6] (gNm 6) wYes (wCall F_in_some (cValF (wVal 7) (cValF (wVal 6) (cValF (wBin rdAdd (wVal 9) (wC (.int 1))) cNil))))))))
    (sSeq (sAsg (wDcT (iSeq (wCall F_ends_of (cValF (wVal 7) cNil))) [6, 5] (gTp 2 (gsCons (gNm 6) (gsCons (gNm 5) gsNil))) wYes (aCons (wVal 6) (aCons (wVal 5) aNil)) (wCall F_most_out (cValF (wVal 0) (cValF (wVal 1) (cValF (wVal 2) (cValF (wVal 6) (cValF (wVal 5) cNil))))))) (gFz 11))
    (sSeq (sAsg (wDcT (iSeq (wCall F_ends_of (cValF (wVal 7) cNil))) [6, 5] (gTp 2 (gsCons (gNm 6) (gsCons (gNm 5) gsNil))) wYes (aCons (wVal 6) (aCons (wVal 5) aNil)) (wCall F_least_out (cValF (wVal 0) (cValF (wVal 1) (cValF (wVal 2) (cValF (wVal 6) (cValF (wVal 5) cNil))))))) (gFz 12))
    (sSeq (sIf (wTst (wBin rdEq (wVal 4) (wC (.str "many")))) (sSeq (sAsg (wCB rdSum (aCons (wComp false (iSeq (wVal 7)) [6, 15, 16] (gTp 3 (gsCons (gNm 6) (gsCons (gNm 15) (gsCons (gNm 16) gsNil)))) wYes (wBin rdSub (wBin rdIxDT (wVal 11) (wTup (aCons (wVal 6) (aCons (wVal 16) aNil)))) (wBin rdIxDT (wVal 12) (wTup (aCons (wVal 6) (aCons (wBin rdSub (wVal 15) (wC (.int 1))) aNil)))))) aNil)) (gFz 13))
    (sRet (wBin rdGt (wView (wCB rdLen (aCons (wComp false (iSeq (wVal 8)) [17] (gNm 17) (wTst (wCB rdAll (aCons (wVal 17) aNil))) (wVal 17)) aNil))) (wVal 13)))) sNext)
    (sSeq (sAsg (wCB rdSum (aCons (wComp false (iSeq (wVal 7)) [6, 15, 16] (gTp 3 (gsCons (gNm 6) (gsCons (gNm 15) (gsCons (gNm 16) gsNil)))) wYes (wBin rdSub (wBin rdIxDT (wVal 12) (wTup (aCons (wVal 6) (aCons (wVal 16) aNil)))) (wBin rdIxDT (wVal 11) (wTup (aCons (wVal 6) (aCons (wBin rdSub (wVal 15) (wC (.int 1))) aNil)))))) aNil)) (gFz 14))
    (sRet (wBin rdLt (wView (wCB rdLen (aCons (wComp false (iSeq (wVal 8)) [17] (gNm 17) (wTst (wCB rdAny (aCons (wVal 17) aNil))) (wVal 17)) aNil))) (wVal 14))))))))))))
def F_paper_right : WF := fnW [true, true, true, true] 14 wb_paper_right

/- _law_jug: 0 script 1 k 2 cell -/
def wb_law_jug : WS :=
  (sSeq (sAsg (wIf (wTst (wBin rdLt (wVal 1) (wCB rdLen (aCons (wVal 0) aNil)))) (wBin rdIx (wVal 0) (wVal 1)) (wC (.int 0))) (gFz 2))
    (sRet (wLst (aCons (wCB rdMax2 (aCons (wC (.int 0)) (aCons (wBin rdSub (wVal 2) (wBin rdPow (wC (.int 10)) (wC (.int 18)))) aNil))) (aCons (wBin rdAdd (wBin rdMul (wBin rdMod (wVal 2) (wBin rdAdd (wBin rdPow (wC (.int 10)) (wC (.int 34))) (wC (.int 193)))) (wC (.int 64))) (wVal 1)) (aCons (wC (.int 0)) aNil))))))
def F_law_jug : WF := fnW [true, true] 1 wb_law_jug

/- _law_dip: 0 jug 1 many 2 found 3 mixed -/
def wb_law_dip : WS :=
  (sSeq (sIf (wTst (wBinBE rdGt (bIx (bName 0) (wC (.int 0))) (wC (.int 0)))) (sSeq (sAsg (wBinBE rdMod (bIx (bName 0) (wC (.int 0))) (wVal 1)) (gFz 2))
    (sSeq (sSetIx false (wBinBE rdFdiv (bIx (bName 0) (wC (.int 0))) (wVal 1)) (mName 0) (wC (.int 0)))
    (sRet (wVal 2)))) sNext)
    (sSeq (sSetIx false (wBinBE rdAdd (bIx (bName 0) (wC (.int 2))) (wC (.int 1))) (mName 0) (wC (.int 2)))
    (sSeq (sAsg (wBin rdMod (wBin rdPow (wBinBE rdAdd (bIx (bName 0) (wC (.int 1))) (wBinEB rdMul (wC (.int 7368787)) (bIx (bName 0) (wC (.int 2))))) (wC (.int 3))) (wBin rdAdd (wBin rdPow (wC (.int 10)) (wC (.int 36))) (wC (.int 67)))) (gFz 3))
    (sSeq (sAsg (wBin rdMod (wBin rdPow (wBin rdAdd (wVal 3) (wBinEB rdMul (wC (.int 15485863)) (bIx (bName 0) (wC (.int 2))))) (wC (.int 5))) (wBin rdAdd (wBin rdPow (wC (.int 10)) (wC (.int 38))) (wC (.int 133)))) (gFz 3))
    (sRet (wBin rdMod (wBin rdFdiv (wVal 3) (wC (.int 65536))) (wVal 1)))))))
def F_law_dip : WF := fnW [true, true] 2 wb_law_dip

/- _law_house: 0 jug 1 most 2 more 3 rooms 4 doors 5 k 6 one -/
def wb_law_house : WS :=
  (sSeq (sAsg (wBin rdIx (wLst (aCons (wBin rdAdd (wC (.int 1)) (wCall F_law_dip (cRef 0 (cValF (wVal 1) cNil)))) (aCons (wBin rdAdd (wC (.int 2)) (wCall F_law_dip (cRef 0 (cValF (wBin rdSub (wVal 1) (wC (.int 1))) cNil)))) aNil))) (wCB rdInt1 (aCons (wBin rdGt (wCall F_law_dip (cRef 0 (cValF (wC (.int 4)) cNil))) (wC (.int 0))) aNil))) (gFz 3))
    (sSeq (sAsg (wLst aNil) (gNm 4))
    (sSeq (sFor (iRng (aCons (wBin rdMul (wBin rdAdd (wC (.int 1)) (wCall F_law_dip (cRef 0 (cValF (wBin rdSub (wVal 2) (wC (.int 1))) cNil)))) (wCB rdInt1 (aCons (wBin rdGt (wVal 3) (wC (.int 1))) aNil))) aNil)) (gFz 5) (sSeq (sAsg (wCall F_law_dip (cRef 0 (cValF (wVal 3) cNil))) (gFz 6))
    (sDrop (wAppN false 4 (wTup (aCons (wVal 6) (aCons (wBin rdMod (wBin rdAdd (wBin rdAdd (wVal 6) (wC (.int 1))) (wCall F_law_dip (cRef 0 (cValF (wBin rdSub (wVal 3) (wC (.int 1))) cNil)))) (wVal 3)) aNil)))))))
    (sRet (wTup (aCons (wVal 3) (aCons (wVar 4) aNil)))))))
def F_law_house : WF := fnW [true, true, true] 4 wb_law_house

/- _law_folk: 0 jug 1 home 2 few 3 spot -/
def wb_law_folk : WS :=
  (sSeq (sAsg (wBin rdIx (wLst (aCons (wC (.int 1)) (aCons (wC (.int 2)) (aCons (wC (.int 2)) (aCons (wC (.int 4)) (aCons (wBin rdPow (wC (.int 10)) (wC (.int 18))) aNil)))))) (wCall F_law_dip (cRef 0 (cValF (wC (.int 5)) cNil)))) (gFz 2))
    (sRet (wComp false (iRng (aCons (wBin rdIx (wVal 1) (wC (.int 0))) aNil)) [3] (gNm 3) wYes (wCall F_law_dip (cRef 0 (cValF (wBin rdAdd (wVal 2) (wC (.int 1))) cNil))))))
def F_law_folk : WF := fnW [true, true] 2 wb_law_folk

/- _law_gone: 0 jug 1 home 2 start 3 most 4 here 5 moves 6 rows 7 k 8 door 9 side 10 pair -/
def wb_law_gone : WS :=
  (sSeq (sAsg (wCB rdList (aCons (wVal 2) aNil)) (gNm 4))
    (sSeq (sAsg (wLst aNil) (gNm 5))
    (sSeq (sAsg (wLst (aCons (wCB rdList (aCons (wVal 2) aNil)) aNil)) (gNm 6))
    (sSeq (sFor (iRng (aCons (wBin rdMul (wCall F_law_dip (cRef 0 (cValF (wBin rdAdd (wVal 3) (wC (.int 1))) cNil))) (wCB rdInt1 (aCons (wBin rdNe (wBin rdIx (wVal 1) (wC (.int 1))) (wLst aNil)) aNil))) aNil)) (gFz 7) (sSeq (sPar 8 9 (aCons (wCall F_law_dip (cRef 0 (cValF (wCB rdLen (aCons (wBin rdIx (wVal 1) (wC (.int 1))) aNil)) cNil))) (aCons (wCall F_law_dip (cRef 0 (cValF (wC (.int 2)) cNil))) aNil)))
    (sSeq (sAsg (wBin rdIx (wBin rdIx (wVal 1) (wC (.int 1))) (wVal 8)) (gFz 10))
    (sSeq (sIf (wTst (wBinBE rdEq (bIx (bName 4) (wBin rdIx (wVal 10) (wVal 9))) (wC (.int 0)))) (sAsg (wBin rdSub (wC (.int 1)) (wVal 9)) (gFz 9)) sNext)
    (sIf (wTst (wBinBE rdGt (bIx (bName 4) (wBin rdIx (wVal 10) (wVal 9))) (wC (.int 0)))) (sSeq (sSetIx false (wBinBE rdSub (bIx (bName 4) (wBin rdIx (wVal 10) (wVal 9))) (wC (.int 1))) (mName 4) (wBin rdIx (wVal 10) (wVal 9)))
    (sSeq (sSetIx false (wBinBE rdAdd (bIx (bName 4) (wBin rdIx (wVal 10) (wBin rdSub (wC (.int 1)) (wVal 9)))) (wC (.int 1))) (mName 4) (wBin rdIx (wVal 10) (wBin rdSub (wC (.int 1)) (wVal 9))))
    (sSeq (sDrop (wAppN false 5 (wTup (aCons (wVal 8) (aCons (wVal 9) aNil)))))
    (sDrop (wAppN false 6 (wCBB rdList (bCons (bName 4) bNil))))))) sNext)))))
    (sRet (wTup (aCons (wVar 5) (aCons (wVar 6) aNil))))))))
def F_law_gone : WF := fnW [true, true, true, true] 7 wb_law_gone

/- _law_hidden: 0 jug 1 moves 2 often 3 door 4 side -/
def wb_law_hidden : WS :=
  (sSeq (sAsg (wBin rdIx (wLst (aCons (wC (.int 2)) (aCons (wC (.int 5)) (aCons (wC (.int 9)) aNil)))) (wCall F_law_dip (cRef 0 (cValF (wC (.int 3)) cNil)))) (gFz 2))
    (sRet (wComp false (iSeq (wVal 1)) [3, 4] (gTp 2 (gsCons (gNm 3) (gsCons (gNm 4) gsNil))) wYes (wTup (aCons (wVal 3) (aCons (wIf (wTst (wBin rdEq (wCall F_law_dip (cRef 0 (cValF (wVal 2) cNil))) (wC (.int 0)))) (wVal 4) (wNeg (wC (.int 1)))) aNil))))))
def F_law_hidden : WF := fnW [true, true] 3 wb_law_hidden

/- _law_look: 0 jug 1 home 2 rows 3 when 4 spot 5 number 6 kind 7 some -/
def wb_law_look : WS :=
  (sSeq (sPar 3 4 (aCons (wCall F_law_dip (cRef 0 (cValF (wCB rdLen (aCons (wVal 2) aNil)) cNil))) (aCons (wCall F_law_dip (cRef 0 (cValF (wBin rdIx (wVal 1) (wC (.int 0))) cNil))) aNil)))
    (sSeq (sAsg (wBin rdIx (wBin rdIx (wVal 2) (wVal 3)) (wVal 4)) (gFz 5))
    (sSeq (sAsg (wCall F_law_dip (cRef 0 (cValF (wC (.int 8)) cNil))) (gFz 6))
    (sSeq (sIf (wTst (wBin rdLt (wVal 6) (wC (.int 4)))) (sRet (wTup (aCons (wVal 3) (aCons (wVal 4) (aCons (wBin rdSub (wVal 5) (wCall F_law_dip (cRef 0 (cValF (wC (.int 3)) cNil)))) (aCons (wBin rdAdd (wVal 5) (wCall F_law_dip (cRef 0 (cValF (wC (.int 3)) cNil)))) aNil)))))) sNext)
    (sSeq (sIf (wTst (wBin rdLt (wVal 6) (wC (.int 6)))) (sRet (wTup (aCons (wVal 3) (aCons (wVal 4) (aCons (wBin rdSub (wBin rdAdd (wVal 5) (wC (.int 1))) (wCall F_law_dip (cRef 0 (cValF (wC (.int 3)) cNil)))) (aCons (wBin rdAdd (wVal 5) (wC (.int 1))) aNil)))))) sNext)
    (sSeq (sAsg (wLst (aCons (wTup (aCons (wC (.int 0)) (aCons (wC (.int 0)) aNil))) (aCons (wTup (aCons (wC (.int 1)) (aCons (wBin rdPow (wC (.int 10)) (wC (.int 19))) aNil))) (aCons (wTup (aCons (wBin rdSub (wC (.int 0)) (wBin rdPow (wC (.int 10)) (wC (.int 19)))) (aCons (wC (.int 0)) aNil))) (aCons (wTup (aCons (wC (.int 3)) (aCons (wC (.int 1)) aNil))) (aCons (wTup (aCons (wNeg (wC (.int 3))) (aCons (wNeg (wC (.int 1))) aNil))) (aCons (wTup (aCons (wBin rdPow (wC (.int 10)) (wC (.int 19))) (aCons (wBin rdPow (wC (.int 10)) (wC (.int 19))) aNil))) aNil))))))) (gFz 7))
    (sRet (wBin rdAdd (wTup (aCons (wVal 3) (aCons (wVal 4) aNil))) (wBin rdIx (wVal 7) (wCall F_law_dip (cRef 0 (cValF (wC (.int 6)) cNil))))))))))))
def F_law_look : WF := fnW [true, true, true] 5 wb_law_look

/- _law_stands: 0 home 1 start 2 reel 3 track 4 rows 5 k 6 bead 7 here 8 pair 9 look -/
def wb_law_stands : WS :=
  (sSeq (sIf (wTst (wBin rdNe (wCB rdLen (aCons (wVal 3) aNil)) (wCB rdLen (aCons (wBin rdIx (wVal 2) (wC (.int 0))) aNil)))) (sRet (wC (.bl false))) sNext)
    (sSeq (sAsg (wLst (aCons (wCB rdList (aCons (wVal 1) aNil)) aNil)) (gNm 4))
    (sSeq (sFor (iEnm (aCons (wBin rdIx (wVal 2) (wC (.int 0))) aNil)) (gTp 2 (gsCons (gFz 5) (gsCons (gFz 6) gsNil))) (sSeq (sIf (wOr (wTst (wBin (rdIn true) (wBin rdIx (wVal 3) (wVal 5)) (wLst (aCons (wC (.int 0)) (aCons (wC (.int 1)) aNil))))) (wTst (wBin (rdIn true) (wBin rdIx (wVal 6) (wC (.int 1))) (wLst (aCons (wNeg (wC (.int 1))) (aCons (wBin rdIx (wVal 3) (wVal 5)) aNil)))))) (sRet (wC (.bl false))) sNext)
    (sSeq (sAsg (wCBB rdList (bCons (bIx (bName 4) (wVal 5)) bNil)) (gNm 7))
    (sSeq (sAsg (wBin rdIx (wBin rdIx (wVal 0) (wC (.int 1))) (wBin rdIx (wVal 6) (wC (.int 0)))) (gFz 8))
    (sSeq (sSetIx false (wBinBE rdSub (bIx (bName 7) (wBin rdIx (wVal 8) (wBin rdIx (wVal 3) (wVal 5)))) (wC (.int 1))) (mName 7) (wBin rdIx (wVal 8) (wBin rdIx (wVal 3) (wVal 5))))
    (sSeq (sSetIx false (wBinBE rdAdd (bIx (bName 7) (wBin rdIx (wVal 8) (wBin rdSub (wC (.int 1)) (wBin rdIx (wVal 3) (wVal 5))))) (wC (.int 1))) (mName 7) (wBin rdIx (wVal 8) (wBin rdSub (wC (.int 1)) (wBin rdIx (wVal 3) (wVal 5)))))
    (sSeq (sIf (wTst (wBin rdLt (wCBB rdMinL (bCons (bName 7) bNil)) (wC (.int 0)))) (sRet (wC (.bl false))) sNext)
    (sDrop (wAppN false 4 (wVar 7))))))))))
    (sRet (wBin rdEq (wComp false (iSeq (wBin rdIx (wVal 2) (wC (.int 1)))) [9] (gNm 9) (wNot (wTst (wChain rdLe rdLe (wBin rdIx (wVal 9) (wC (.int 2))) (wBinBE rdIx (bIx (bName 4) (wBin rdIx (wVal 9) (wC (.int 0)))) (wBin rdIx (wVal 9) (wC (.int 1)))) (wBin rdIx (wVal 9) (wC (.int 3)))))) (wVal 9)) (wLst aNil))))))
def F_law_stands : WF := fnW [true, true, true, true] 6 wb_law_stands

/- _law_outs: 0 home 1 start 2 reel 3 spot 4 when 5 count 6 here 7 top 8 halves 9 bead 10 look -/
def wb_law_outs : WS :=
  (sSeq (sIf (wTst (wBin rdEq (wVal 4) (wC (.int 0)))) (sRet (wLst (aCons (wC (.int 0)) (aCons (wC (.int 0)) aNil)))) sNext)
    (sSeq (sAsg (wBin rdAdd (wBin rdIx (wVal 1) (wVal 3)) (wCB rdLen (aCons (wComp false (iSeq (wSl (wBin rdIx (wVal 2) (wC (.int 0))) oNo (oSo (wVal 4)))) [9] (gNm 9) (wTst (wBin (rdIn false) (wVal 3) (wBin rdIx (wBin rdIx (wVal 0) (wC (.int 1))) (wBin rdIx (wVal 9) (wC (.int 0)))))) (wVal 9)) aNil))) (gFz 5))
    (sSeq (sAsg (wComp false (iSeq (wBin rdIx (wVal 2) (wC (.int 1)))) [10] (gNm 10) (wAnd (wTst (wBin rdEq (wBin rdIx (wVal 10) (wC (.int 0))) (wVal 4))) (wTst (wBin rdEq (wBin rdIx (wVal 10) (wC (.int 1))) (wVal 3)))) (wVal 10)) (gFz 6))
    (sSeq (sAsg (wBin rdSub (wVal 5) (wCB rdMaxL (aCons (wBin rdAdd (wLst (aCons (wC (.int 0)) aNil)) (wComp false (iSeq (wVal 6)) [10] (gNm 10) wYes (wBin rdIx (wVal 10) (wC (.int 2))))) aNil))) (gFz 7))
    (sSeq (sAsg (wComp false (iSeq (wVal 6)) [10] (gNm 10) wYes (wBin rdFdiv (wBin rdAdd (wBin rdSub (wVal 5) (wBin rdIx (wVal 10) (wC (.int 3)))) (wBin rdMod (wBin rdSub (wVal 5) (wBin rdIx (wVal 10) (wC (.int 3)))) (wC (.int 2)))) (wC (.int 2)))) (gFz 8))
    (sRet (wLst (aCons (wCB rdMaxL (aCons (wBin rdAdd (wLst (aCons (wC (.int 0)) aNil)) (wVal 8)) aNil)) (aCons (wBin rdFdiv (wBin rdSub (wVal 7) (wBin rdMod (wVal 7) (wC (.int 2)))) (wC (.int 2))) aNil)))))))))
def F_law_outs : WF := fnW [true, true, true, true, true] 6 wb_law_outs

/- _law_are_stretches: 0 home 1 reel 2 rows 3 many 4 bad 5 row 6 k -/
def wb_law_are_stretches : WS :=
  (sSeq (sAsg (wCB rdLen (aCons (wBin rdIx (wVal 1) (wC (.int 0))) aNil)) (gFz 3))
    (sSeq (sAsg (wComp false (iSeq (wVal 2)) [5] (gNm 5) (wOr (wNot (wTst (wChain rdLe rdLt (wC (.int 0)) (wBin rdIx (wVal 5) (wC (.int 0))) (wBin rdIx (wVal 0) (wC (.int 0)))))) (wNot (wTst (wChain3 rdLe rdLe rdLe (wC (.int 1)) (wBin rdIx (wVal 5) (wC (.int 1))) (wBin rdIx (wVal 5) (wC (.int 2))) (wVal 3))))) (wVal 5)) (gFz 4))
    (sSeq (sIf (wOr (wTst (wBin rdNe (wVal 4) (wLst aNil))) (wTst (wBin rdNe (wVal 2) (wCB rdSortedD (aCons (wVal 2) aNil))))) (sRet (wC (.bl false))) sNext)
    (sRet (wBin rdEq (wComp false (iRng2 (aCons (wC (.int 1)) (aCons (wCB rdLen (aCons (wVal 2) aNil)) aNil))) [6] (gNm 6) (wAnd (wTst (wBin rdEq (wBin rdIx (wBin rdIx (wVal 2) (wVal 6)) (wC (.int 0))) (wBin rdIx (wBin rdIx (wVal 2) (wBin rdSub (wVal 6) (wC (.int 1)))) (wC (.int 0))))) (wTst (wBin rdLt (wBin rdSub (wBin rdIx (wBin rdIx (wVal 2) (wVal 6)) (wC (.int 1))) (wBin rdIx (wBin rdIx (wVal 2) (wBin rdSub (wVal 6) (wC (.int 1)))) (wC (.int 2)))) (wC (.int 2))))) (wVal 6)) (wLst aNil))))))
def F_law_are_stretches : WF := fnW [true, true, true] 4 wb_law_are_stretches

/- _law_looked_wrong: 0 home 1 start 2 reel 3 when 4 spot 5 wrong 6 outs 7 look -/
def wb_law_looked_wrong : WS :=
  (sSeq (sIf (wOr (wNot (wTst (wChain rdLe rdLe (wC (.int 0)) (wVal 3) (wCB rdLen (aCons (wBin rdIx (wVal 2) (wC (.int 0))) aNil))))) (wNot (wTst (wChain rdLe rdLt (wC (.int 0)) (wVal 4) (wBin rdIx (wVal 0) (wC (.int 0))))))) (sRet (wC (.bl false))) sNext)
    (sSeq (sAsg (wComp false (iSeq (wBin rdIx (wVal 2) (wC (.int 1)))) [7] (gNm 7) (wAnd (wTst (wBin rdEq (wSl (wVal 7) oNo (oSo (wC (.int 2)))) (wTup (aCons (wC (.int 0)) (aCons (wVal 4) aNil))))) (wNot (wTst (wChain rdLe rdLe (wBin rdIx (wVal 7) (wC (.int 2))) (wBin rdIx (wVal 1) (wVal 4)) (wBin rdIx (wVal 7) (wC (.int 3))))))) (wVal 7)) (gFz 5))
    (sSeq (sAsg (wCall F_law_outs (cValF (wVal 0) (cValF (wVal 1) (cValF (wVal 2) (cValF (wVal 4) (cValF (wVal 3) cNil)))))) (gFz 6))
    (sRet (wOrV (wBin rdGt (wBin rdIx (wVal 6) (wC (.int 0))) (wBin rdIx (wVal 6) (wC (.int 1)))) (wAndV (wBin rdEq (wVal 3) (wC (.int 0))) (wBin rdNe (wVal 5) (wLst aNil))))))))
def F_law_looked_wrong : WF := fnW [true, true, true, true, true] 3 wb_law_looked_wrong

/- _law_shown: 0 home 1 start 2 reel 3 sheet 4 bound 5 loose 6 need 7 top 8 k 9 bead 10 rooms 11 over 12 hit 13 spot 14 begun 15 last 16 ahead 17 behind 18 row -/
def wb_law_shown : WS :=
  (sSeq (sIf (wTst (wBin rdEq (wBin rdIx (wVal 3) (wC (.int 0))) (wC (.str "look")))) (sRet (wCall F_law_looked_wrong (cValF (wVal 0) (cValF (wVal 1) (cValF (wVal 2) (cValF (wBin rdIx (wVal 3) (wC (.int 1))) (cValF (wBin rdIx (wVal 3) (wC (.int 2))) cNil))))))) sNext)
    (sSeq (sIf (wNot (wTru (wCall F_law_are_stretches (cValF (wVal 0) (cValF (wVal 2) (cValF (wBin rdIx (wVal 3) (wC (.int 1))) cNil)))))) (sRet (wC (.bl false))) sNext)
    (sSeq (sAsg (wTup (aCons (wC (.int 0)) (aCons (wC (.int 0)) (aCons (wC (.int 0)) (aCons (wC (.int 0)) aNil))))) (gTp 4 (gsCons (gFz 4) (gsCons (gFz 5) (gsCons (gFz 6) (gsCons (gFz 7) gsNil))))))
    (sSeq (sFor (iEnm (aCons (wBin rdIx (wVal 2) (wC (.int 0))) aNil)) (gTp 2 (gsCons (gFz 8) (gsCons (gFz 9) gsNil))) (sSeq (sAsg (wIf (wTst (wBin rdEq (wBin rdIx (wVal 9) (wC (.int 1))) (wNeg (wC (.int 1))))) (wCB rdList (aCons (wBin rdIx (wBin rdIx (wVal 0) (wC (.int 1))) (wBin rdIx (wVal 9) (wC (.int 0)))) aNil)) (wLst (aCons (wBin rdIx (wBin rdIx (wBin rdIx (wVal 0) (wC (.int 1))) (wBin rdIx (wVal 9) (wC (.int 0)))) (wBin rdIx (wVal 9) (wC (.int 1)))) aNil))) (gFz 10))
    (sSeq (sAsg (wComp false (iSeq (wBin rdIx (wVal 3) (wC (.int 1)))) [18] (gNm 18) (wTst (wChain rdLe rdLe (wBin rdIx (wVal 18) (wC (.int 1))) (wBin rdAdd (wVal 8) (wC (.int 1))) (wBin rdIx (wVal 18) (wC (.int 2))))) (wBin rdIx (wVal 18) (wC (.int 0)))) (gFz 11))
    (sSeq (sAsg (wComp false (iSeq (wVal 10)) [13] (gNm 13) (wTst (wBin (rdIn false) (wVal 13) (wVal 11))) (wVal 13)) (gFz 12))
    (sSeq (sAsg (wBin rdAdd (wVal 4) (wCB rdInt1 (aCons (wBin rdEq (wVal 12) (wVal 10)) aNil))) (gFz 4))
    (sAsg (wBin rdAdd (wVal 5) (wCB rdInt1 (aCons (wBin rdNe (wVal 12) (wLst aNil)) aNil))) (gFz 5)))))))
    (sSeq (sFor (iSeq (wBin rdIx (wVal 3) (wC (.int 1)))) (gTp 3 (gsCons (gFz 13) (gsCons (gFz 14) (gsCons (gFz 15) gsNil)))) (sSeq (sPar 16 17 (aCons (wCall F_law_outs (cValF (wVal 0) (cValF (wVal 1) (cValF (wVal 2) (cValF (wVal 13) (cValF (wBin rdSub (wVal 14) (wC (.int 1))) cNil)))))) (aCons (wCall F_law_outs (cValF (wVal 0) (cValF (wVal 1) (cValF (wVal 2) (cValF (wVal 13) (cValF (wVal 15) cNil)))))) aNil)))
    (sSeq (sAsg (wBin rdSub (wBin rdAdd (wVal 7) (wBin rdIx (wVal 17) (wC (.int 1)))) (wBin rdIx (wVal 16) (wC (.int 0)))) (gFz 7))
    (sAsg (wBin rdSub (wBin rdAdd (wVal 6) (wBin rdIx (wVal 17) (wC (.int 0)))) (wBin rdIx (wVal 16) (wC (.int 1)))) (gFz 6)))))
    (sRet (wIf (wTst (wBin rdEq (wBin rdIx (wVal 3) (wC (.int 0))) (wC (.str "many")))) (wBin rdGt (wVal 4) (wVal 7)) (wBin rdLt (wVal 5) (wVal 6)))))))))
def F_law_shown : WF := fnW [true, true, true, true] 15 wb_law_shown

/- _law_seen_right: 0 jug 1 home 2 rows 3 when 4 spot 5 number -/
def wb_law_seen_right : WS :=
  (sSeq (sPar 3 4 (aCons (wCall F_law_dip (cRef 0 (cValF (wCB rdLen (aCons (wVal 2) aNil)) cNil))) (aCons (wCall F_law_dip (cRef 0 (cValF (wBin rdIx (wVal 1) (wC (.int 0))) cNil))) aNil)))
    (sSeq (sAsg (wBin rdIx (wBin rdIx (wVal 2) (wVal 3)) (wVal 4)) (gFz 5))
    (sRet (wTup (aCons (wVal 3) (aCons (wVal 4) (aCons (wBin rdSub (wVal 5) (wCall F_law_dip (cRef 0 (cValF (wC (.int 2)) cNil)))) (aCons (wBin rdAdd (wVal 5) (wCall F_law_dip (cRef 0 (cValF (wC (.int 2)) cNil)))) aNil))))))))
def F_law_seen_right : WF := fnW [true, true, true] 3 wb_law_seen_right

/- _law_late: 0 jug 1 many -/
def wb_law_late : WS :=
  (sRet (wCB rdMax2 (aCons (wC (.int 0)) (aCons (wBin rdSub (wBin rdSub (wVal 1) (wC (.int 1))) (wCall F_law_dip (cRef 0 (cValF (wBin rdIx (wLst (aCons (wC (.int 5)) (aCons (wC (.int 40)) (aCons (wVal 1) aNil)))) (wCall F_law_dip (cRef 0 (cValF (wC (.int 3)) cNil)))) cNil)))) aNil))))
def F_law_late : WF := fnW [true, true] 0 wb_law_late

/- _law_track_bent: 0 jug 1 track 2 at 3 kind 4 side -/
def wb_law_track_bent : WS :=
  (sSeq (sAsg (wCall F_law_late (cRef 0 (cValF (wCB rdLen (aCons (wVal 1) aNil)) cNil))) (gFz 2))
    (sSeq (sAsg (wCall F_law_dip (cRef 0 (cValF (wC (.int 3)) cNil))) (gFz 3))
    (sSeq (sIf (wTst (wBin rdEq (wVal 3) (wC (.int 0)))) (sRet (wBin rdAdd (wBin rdAdd (wSl (wVal 1) oNo (oSo (wVal 2))) (wLst (aCons (wBin rdSub (wC (.int 1)) (wBin rdIx (wVal 1) (wVal 2))) aNil))) (wSl (wVal 1) (oSo (wBin rdAdd (wVal 2) (wC (.int 1)))) oNo))) sNext)
    (sSeq (sIf (wTst (wBin rdEq (wVal 3) (wC (.int 1)))) (sRet (wBin rdAdd (wBin rdAdd (wSl (wVal 1) oNo (oSo (wVal 2))) (wRev (wSl (wVal 1) (oSo (wVal 2)) (oSo (wBin rdAdd (wVal 2) (wC (.int 2))))))) (wSl (wVal 1) (oSo (wBin rdAdd (wVal 2) (wC (.int 2)))) oNo))) sNext)
    (sRet (wBin rdAdd (wSl (wVal 1) oNo (oSo (wVal 2))) (wComp false (iSeq (wSl (wVal 1) (oSo (wVal 2)) oNo)) [4] (gNm 4) wYes (wBin rdSub (wC (.int 1)) (wVal 4)))))))))
def F_law_track_bent : WF := fnW [true, true] 3 wb_law_track_bent

/- _law_drawn: 0 jug 1 home 2 many 3 rows 4 spot 5 begun -/
def wb_law_drawn : WS :=
  (sSeq (sAsg (wLst aNil) (gNm 3))
    (sSeq (sFor (iRng (aCons (wBin rdIx (wVal 1) (wC (.int 0))) aNil)) (gFz 4) (sIf (wTst (wBin rdGt (wCall F_law_dip (cRef 0 (cValF (wC (.int 3)) cNil))) (wC (.int 0)))) (sSeq (sAsg (wBin rdAdd (wC (.int 1)) (wCall F_law_dip (cRef 0 (cValF (wBin rdIx (wLst (aCons (wC (.int 1)) (aCons (wVal 2) aNil))) (wCall F_law_dip (cRef 0 (cValF (wC (.int 2)) cNil)))) cNil)))) (gFz 5))
    (sDrop (wAppN false 3 (wTup (aCons (wVal 4) (aCons (wVal 5) (aCons (wBin rdAdd (wVal 5) (wCall F_law_late (cRef 0 (cValF (wBin rdAdd (wBin rdSub (wVal 2) (wVal 5)) (wC (.int 1))) cNil)))) aNil))))))) sNext))
    (sRet (wMove 3))))
def F_law_drawn : WF := fnW [true, true, true] 3 wb_law_drawn

/- _law_right: 0 jug 1 home 2 start 3 reel 4 tracks 5 one 6 sheets 7 word 8 sheet 9 look -/
def wb_law_right : WS :=
  (sSeq (sFor (iSeq (wVal 4)) (gFz 5) (sIf (wTst (wBin rdNe (wCall F_story_right (cValF (wVal 1) (cValF (wVal 2) (cValF (wVal 3) (cValF (wVal 5) cNil))))) (wCall F_law_stands (cValF (wVal 1) (cValF (wVal 2) (cValF (wVal 3) (cValF (wVal 5) cNil))))))) (sRet (wC (.bl false))) sNext))
    (sSeq (sAsg (wComp false (iSeq (wBin rdIx (wVal 3) (wC (.int 1)))) [9] (gNm 9) wYes (wTup (aCons (wC (.str "look")) (aCons (wBin rdIx (wVal 9) (wC (.int 0))) (aCons (wBin rdIx (wVal 9) (wC (.int 1))) aNil))))) (gNm 6))
    (sSeq (sFor (iSeq (wLst (aCons (wC (.str "many")) (aCons (wC (.str "few")) aNil)))) (gFz 7) (sDrop (wAppN false 6 (wTup (aCons (wVal 7) (aCons (wCall F_law_drawn (cRef 0 (cValF (wVal 1) (cValF (wCB rdLen (aCons (wBin rdIx (wVal 3) (wC (.int 0))) aNil)) cNil)))) aNil))))))
    (sSeq (sFor (iSeq (wVar 6)) (gFz 8) (sIf (wTst (wBin rdNe (wCall F_paper_right (cValF (wVal 1) (cValF (wVal 2) (cValF (wVal 3) (cValF (wVal 8) cNil))))) (wCall F_law_shown (cValF (wVal 1) (cValF (wVal 2) (cValF (wVal 3) (cValF (wVal 8) cNil))))))) (sRet (wC (.bl false))) sNext))
    (sRet (wC (.bl true)))))))
def F_law_right : WF := fnW [true, true, true, true, true] 5 wb_law_right

/- law: 0 script 1 k 2 jug 3 home 4 start 5 moves 6 rows 7 looks 8 beads 9 track 10 turn 11 bent 12 tracks 13 near 14 door 15 side 16 again -/
def wb_law : WS :=
  (sSeq (sFor (iRng (aCons (wCB rdMax2 (aCons (wC (.int 1)) (aCons (wCB rdMin2 (aCons (wC (.int 3)) (aCons (wCB rdLen (aCons (wVal 0) aNil)) aNil))) aNil))) aNil)) (gFz 1) (sSeq (sAsg (wCall F_law_jug (cValF (wVal 0) (cValF (wVal 1) cNil))) (gNm 2))
    (sSeq (sAsg (wCall F_law_house (cRef 2 (cValF (wC (.int 10)) (cValF (wC (.int 25)) cNil)))) (gFz 3))
    (sSeq (sAsg (wCall F_law_folk (cRef 2 (cValF (wVal 3) cNil))) (gFz 4))
    (sSeq (sAsg (wCall F_law_gone (cRef 2 (cValF (wVal 3) (cValF (wVal 4) (cValF (wC (.int 200)) cNil))))) (gTp 2 (gsCons (gFz 5) (gsCons (gFz 6) gsNil))))
    (sSeq (sAsg (wComp false (iRng (aCons (wCall F_law_dip (cRef 2 (cValF (wC (.int 13)) cNil))) aNil)) [10] (gNm 10) wYes (wCall F_law_seen_right (cRef 2 (cValF (wVal 3) (cValF (wVal 6) cNil))))) (gFz 7))
    (sSeq (sAsg (wCall F_law_hidden (cRef 2 (cValF (wVal 5) cNil))) (gFz 8))
    (sSeq (sAsg (wComp false (iSeq (wVal 5)) [14, 15] (gTp 2 (gsCons (gNm 14) (gsCons (gNm 15) gsNil))) wYes (wVal 15)) (gFz 9))
    (sFor (iRng (aCons (wBin rdMul (wC (.int 4)) (wCB rdInt1 (aCons (wBin rdNe (wVal 9) (wLst aNil)) aNil))) aNil)) (gFz 10) (sSeq (sAsg (wCall F_law_track_bent (cRef 2 (cValF (wVal 9) cNil))) (gFz 11))
    (sSeq (sAsg (wLst (aCons (wVal 9) (aCons (wVal 11) (aCons (wCall F_law_track_bent (cRef 2 (cValF (wVal 11) cNil))) aNil)))) (gFz 12))
    (sSeq (sAsg (wComp false (iRng (aCons (wBin rdMul (wCall F_law_dip (cRef 2 (cValF (wC (.int 3)) cNil))) (wBin rdFdiv (wVal 10) (wC (.int 2)))) aNil)) [16] (gNm 16) wYes (wCall F_law_look (cRef 2 (cValF (wVal 3) (cValF (wVal 6) cNil))))) (gFz 13))
    (sIf (wNot (wTru (wCall F_law_right (cRef 2 (cValF (wVal 3) (cValF (wVal 4) (cValF (wTup (aCons (wVal 8) (aCons (wBin rdAdd (wVal 7) (wVal 13)) aNil))) (cValF (wVal 12) cNil)))))))) (sRet (wC (.bl false))) sNext)))))))))))))
    (sRet (wC (.bl true))))
def F_law : WF := fnW [true] 16 wb_law

end LAW_K70

/-! that the defs are so (printed by gen.py) -/
namespace LAW_K70
open PySem L2 PL

def top (i : Nat) : Stmt := PySem.Challenge.pw_bothdoors_k70_whole_great_tapes_judged.main.body.getD i (.Pass ⟨0, 0, 0, 0⟩)
abbrev s_met_by : Stmt := top 2
abbrev s_looks_at : Stmt := top 3
abbrev s_most_out : Stmt := top 4
abbrev s_least_out : Stmt := top 5
abbrev s_may_leave : Stmt := top 7
abbrev s_look_wrong : Stmt := top 8
abbrev s_story_right : Stmt := top 9
abbrev s_are_stretches : Stmt := top 10
abbrev s_in_some : Stmt := top 11
abbrev s_ends_of : Stmt := top 13
abbrev s_paper_right : Stmt := top 12
abbrev s_law_jug : Stmt := top 15
abbrev s_law_dip : Stmt := top 16
abbrev s_law_house : Stmt := top 17
abbrev s_law_folk : Stmt := top 18
abbrev s_law_gone : Stmt := top 19
abbrev s_law_hidden : Stmt := top 20
abbrev s_law_look : Stmt := top 21
abbrev s_law_stands : Stmt := top 22
abbrev s_law_outs : Stmt := top 23
abbrev s_law_are_stretches : Stmt := top 24
abbrev s_law_looked_wrong : Stmt := top 25
abbrev s_law_shown : Stmt := top 26
abbrev s_law_seen_right : Stmt := top 27
abbrev s_law_late : Stmt := top 28
abbrev s_law_track_bent : Stmt := top 29
abbrev s_law_drawn : Stmt := top 30
abbrev s_law_right : Stmt := top 31
abbrev s_law : Stmt := top 32
structure Txt (mg : Str → Option Value) : Prop where
  b_all : mg "all" = none
  b_any : mg "any" = none
  b_enumerate : mg "enumerate" = none
  b_int : mg "int" = none
  b_len : mg "len" = none
  b_list : mg "list" = none
  b_max : mg "max" = none
  b_min : mg "min" = none
  b_range : mg "range" = none
  b_sorted : mg "sorted" = none
  b_sum : mg "sum" = none
  b_zip : mg "zip" = none
  c_UNSEEN : ∃ t, mg "UNSEEN" = some (.int (-1) t)
section
variable {P : Program} {w : World} {K : PySem.W.Frag} {mg : Str → Option Value} {base : Heap}
theorem sc_met_by : FnScope ["house", "tape", "room", "moment", "door", "way"] ["house", "tape", "room", "moment"] (defScope s_met_by) := ⟨rfl, rfl, rfl, by decide +kernel, rfl, by decide +kernel, by decide +kernel⟩
theorem ok_met_by {a : Addr} {fd : FuncData} (G : Fun K "met_by" "met_by" s_met_by a fd) (hm : mg "met_by" = some (.ref a)) (T : Txt mg)  : Cal P w K mg base 1 "met_by" s_met_by ["house", "tape", "room", "moment"] F_met_by :=
  .mk' G hm (G.binds fun _ _ _ _ _ _ us hl => match us, hl with | [_, _, _, _], _ => rfl) (fn_data G sc_met_by rfl rfl fun cdv A outer s H E hr hgd => by
    have S := sc_met_by
    exact (dss_one (ds_ret (p := false) (de_cb (cs_B call_len (by rfl) T.b_len (by decide +kernel)) sLen (da_cons (de_lc (own := [("door", 4), ("way", 5)]) false rfl S.nd (di_seq (de_slice (de_EE (b2_ix ix_seq fun _ _ => rfl) sIx (de_val (pv 1)) de_int) do_no (do_so (de_val (pv 3))))) (blkOk_by (own := [("door", 4), ("way", 5)]) (N := ["house", "tape", "room", "moment", "door", "way"]) (sc := defScope s_met_by) (by decide +kernel)) (fun _ _ _ _ _ => (dg_tup rfl (dgs_cons (dg_name (pg_name (i := 4) S.nd rfl (by first | exact Or.inl rfl | exact Or.inr rfl)) (not_outK (by decide))) (dgs_cons (dg_name (pg_name (i := 5) S.nd rfl (by first | exact Or.inl rfl | exact Or.inr rfl)) (not_outK (by decide))) dgs_nil)))) (fun _ _ _ _ _ => (dts_one (dt_EE (t2_cmp op_in_seq (by rfl)) sIn (de_val (pv 2)) (de_EE (b2_ix ix_seq fun _ _ => rfl) sIx (de_EE (b2_ix ix_seq fun _ _ => rfl) sIx (de_val (pv 0)) de_int) (de_val (pv 4)))))) (fun _ _ _ _ _ => (de_val (pv 4)))) da_nil)))))
theorem sc_looks_at : FnScope ["tape", "room", "moment", "when", "where", "low", "high"] ["tape", "room", "moment"] (defScope s_looks_at) := ⟨rfl, rfl, rfl, by decide +kernel, rfl, by decide +kernel, by decide +kernel⟩
theorem ok_looks_at {a : Addr} {fd : FuncData} (G : Fun K "looks_at" "looks_at" s_looks_at a fd) (hm : mg "looks_at" = some (.ref a)) (T : Txt mg)  : Cal P w K mg base 1 "looks_at" s_looks_at ["tape", "room", "moment"] F_looks_at :=
  .mk' G hm (G.binds fun _ _ _ _ _ _ us hl => match us, hl with | [_, _, _], _ => rfl) (fn_data G sc_looks_at rfl rfl fun cdv A outer s H E hr hgd => by
    have S := sc_looks_at
    exact (dss_one (ds_ret (p := false) (de_lc (own := [("when", 3), ("where", 4), ("low", 5), ("high", 6)]) false rfl S.nd (di_seq (de_EE (b2_ix ix_seq fun _ _ => rfl) sIx (de_val (pv 0)) de_int)) (blkOk_by (own := [("when", 3), ("where", 4), ("low", 5), ("high", 6)]) (N := ["tape", "room", "moment", "when", "where", "low", "high"]) (sc := defScope s_looks_at) (by decide +kernel)) (fun _ _ _ _ _ => (dg_tup rfl (dgs_cons (dg_name (pg_name (i := 3) S.nd rfl (by first | exact Or.inl rfl | exact Or.inr rfl)) (not_outK (by decide))) (dgs_cons (dg_name (pg_name (i := 4) S.nd rfl (by first | exact Or.inl rfl | exact Or.inr rfl)) (not_outK (by decide))) (dgs_cons (dg_name (pg_name (i := 5) S.nd rfl (by first | exact Or.inl rfl | exact Or.inr rfl)) (not_outK (by decide))) (dgs_cons (dg_name (pg_name (i := 6) S.nd rfl (by first | exact Or.inl rfl | exact Or.inr rfl)) (not_outK (by decide))) dgs_nil)))))) (fun _ _ _ _ _ => (dts_one (DW.dt (dw_and (dt_EE (t2_cmp (op_eqD hr.units) (nomark _)) sEq (de_val (pv 3)) (de_val (pv 2))) (dw_and1 (dt_EE (t2_cmp (op_eqD hr.units) (nomark _)) sEq (de_val (pv 4)) (de_val (pv 1)))))))) (fun _ _ _ _ _ => (de_tup (da_cons (de_val (pv 5)) (da_cons (de_val (pv 6)) da_nil))))))))
theorem sc_most_out : FnScope ["house", "begin", "tape", "room", "moment", "top", "low", "high"] ["house", "begin", "tape", "room", "moment"] (defScope s_most_out) := ⟨rfl, rfl, rfl, by decide +kernel, rfl, by decide +kernel, by decide +kernel⟩
theorem ok_most_out {a : Addr} {fd : FuncData} (G : Fun K "most_out" "most_out" s_most_out a fd) (hm : mg "most_out" = some (.ref a)) (T : Txt mg) (C_looks_at : Cal P w K mg base 1 "looks_at" s_looks_at ["tape", "room", "moment"] F_looks_at) (C_met_by : Cal P w K mg base 1 "met_by" s_met_by ["house", "tape", "room", "moment"] F_met_by) : Cal P w K mg base 2 "most_out" s_most_out ["house", "begin", "tape", "room", "moment"] F_most_out :=
  .mk' G hm (G.binds fun _ _ _ _ _ _ us hl => match us, hl with | [_, _, _, _, _], _ => rfl) (fn_data G sc_most_out rfl rfl fun cdv A outer s H E hr hgd => by
    have S := sc_most_out
    exact (dss_cons (ds_if (p := false) (dt_EE (t2_cmp (op_eqD hr.units) (nomark _)) sEq (de_val (pv 4)) de_int) (dss_one (ds_ret (p := false) de_int)) dss_nil)
    (dss_cons (ds_setF (p := false) (i := 5) S.nd rfl (by first | exact Or.inl rfl | exact Or.inr rfl) (de_cb (cs_B (cr_max rfl) (by rfl) T.b_max (by decide +kernel)) sMaxL (da_cons (de_EE (b2_op opAdd) sAdd (de_lst (da_cons de_int da_nil)) (de_lc (own := [("low", 6), ("high", 7)]) false rfl S.nd (di_seq (de_cal C_looks_at hr (by first | omega | exact Nat.le_refl _) hgd (by rfl) (dc_valF (p := false) (de_val (pv 2)) (dc_valF (p := false) (de_val (pv 3)) (dc_valF (p := false) (de_val (pv 4)) dc_nil))))) (blkOk_by (own := [("low", 6), ("high", 7)]) (N := ["house", "begin", "tape", "room", "moment", "top", "low", "high"]) (sc := defScope s_most_out) (by decide +kernel)) (fun _ _ _ _ _ => (dg_tup rfl (dgs_cons (dg_name (pg_name (i := 6) S.nd rfl (by first | exact Or.inl rfl | exact Or.inr rfl)) (not_outK (by decide))) (dgs_cons (dg_name (pg_name (i := 7) S.nd rfl (by first | exact Or.inl rfl | exact Or.inr rfl)) (not_outK (by decide))) dgs_nil)))) (fun _ _ _ _ _ => dts_nil) (fun _ _ _ _ _ => (de_val (pv 6))))) da_nil)) (by decide))
    (dss_one (ds_ret (p := false) (de_EE (b2_op op_fdivW) sI (de_EE (b2_op op_sub) sI0 (de_EE (b2_op opAdd) sAdd (de_EE (b2_ix ix_seq fun _ _ => rfl) sIx (de_val (pv 1)) (de_val (pv 3))) (de_cal C_met_by hr (by first | omega | exact Nat.le_refl _) hgd (by rfl) (dc_valF (p := false) (de_val (pv 0)) (dc_valF (p := false) (de_val (pv 2)) (dc_valF (p := false) (de_val (pv 3)) (dc_valF (p := false) (de_val (pv 4)) dc_nil)))))) (de_val (pv 5))) de_int))))))
theorem sc_least_out : FnScope ["house", "begin", "tape", "room", "moment", "had", "low", "high"] ["house", "begin", "tape", "room", "moment"] (defScope s_least_out) := ⟨rfl, rfl, rfl, by decide +kernel, rfl, by decide +kernel, by decide +kernel⟩
theorem ok_least_out {a : Addr} {fd : FuncData} (G : Fun K "least_out" "least_out" s_least_out a fd) (hm : mg "least_out" = some (.ref a)) (T : Txt mg) (C_met_by : Cal P w K mg base 1 "met_by" s_met_by ["house", "tape", "room", "moment"] F_met_by) (C_looks_at : Cal P w K mg base 1 "looks_at" s_looks_at ["tape", "room", "moment"] F_looks_at) : Cal P w K mg base 2 "least_out" s_least_out ["house", "begin", "tape", "room", "moment"] F_least_out :=
  .mk' G hm (G.binds fun _ _ _ _ _ _ us hl => match us, hl with | [_, _, _, _, _], _ => rfl) (fn_data G sc_least_out rfl rfl fun cdv A outer s H E hr hgd => by
    have S := sc_least_out
    exact (dss_cons (ds_if (p := false) (dt_EE (t2_cmp (op_eqD hr.units) (nomark _)) sEq (de_val (pv 4)) de_int) (dss_one (ds_ret (p := false) de_int)) dss_nil)
    (dss_cons (ds_setF (p := false) (i := 5) S.nd rfl (by first | exact Or.inl rfl | exact Or.inr rfl) (de_EE (b2_op opAdd) sAdd (de_EE (b2_ix ix_seq fun _ _ => rfl) sIx (de_val (pv 1)) (de_val (pv 3))) (de_cal C_met_by hr (by first | omega | exact Nat.le_refl _) hgd (by rfl) (dc_valF (p := false) (de_val (pv 0)) (dc_valF (p := false) (de_val (pv 2)) (dc_valF (p := false) (de_val (pv 3)) (dc_valF (p := false) (de_val (pv 4)) dc_nil)))))) (by decide))
    (dss_one (ds_ret (p := false) (de_cb (cs_B (cr_max rfl) (by rfl) T.b_max (by decide +kernel)) sMaxL (da_cons (de_EE (b2_op opAdd) sAdd (de_lst (da_cons de_int da_nil)) (de_lc (own := [("low", 6), ("high", 7)]) false rfl S.nd (di_seq (de_cal C_looks_at hr (by first | omega | exact Nat.le_refl _) hgd (by rfl) (dc_valF (p := false) (de_val (pv 2)) (dc_valF (p := false) (de_val (pv 3)) (dc_valF (p := false) (de_val (pv 4)) dc_nil))))) (blkOk_by (own := [("low", 6), ("high", 7)]) (N := ["house", "begin", "tape", "room", "moment", "had", "low", "high"]) (sc := defScope s_least_out) (by decide +kernel)) (fun _ _ _ _ _ => (dg_tup rfl (dgs_cons (dg_name (pg_name (i := 6) S.nd rfl (by first | exact Or.inl rfl | exact Or.inr rfl)) (not_outK (by decide))) (dgs_cons (dg_name (pg_name (i := 7) S.nd rfl (by first | exact Or.inl rfl | exact Or.inr rfl)) (not_outK (by decide))) dgs_nil)))) (fun _ _ _ _ _ => dts_nil) (fun _ _ _ _ _ => (de_EE (b2_op op_fdivW) sI (de_EE (b2_op opAdd) sAdd (de_EE (b2_op op_sub) sI0 (de_val (pv 5)) (de_val (pv 7))) de_int) de_int)))) da_nil)))))))
theorem sc_may_leave : FnScope ["house", "bead", "door", "way", "ends"] ["house", "bead"] (defScope s_may_leave) := ⟨rfl, rfl, rfl, by decide +kernel, rfl, by decide +kernel, by decide +kernel⟩
theorem ok_may_leave {a : Addr} {fd : FuncData} (G : Fun K "may_leave" "may_leave" s_may_leave a fd) (hm : mg "may_leave" = some (.ref a)) (T : Txt mg)  : Cal P w K mg base 1 "may_leave" s_may_leave ["house", "bead"] F_may_leave :=
  .mk' G hm (G.binds fun _ _ _ _ _ _ us hl => match us, hl with | [_, _], _ => rfl) (fn_data G sc_may_leave rfl rfl fun cdv A outer s H E hr hgd => by
    have S := sc_may_leave
    exact (dss_cons (ds_asg (p := false) (de_val (pv 1)) (dg_tup rfl (dgs_cons (dg_fz (pg_name (i := 2) S.nd rfl (by first | exact Or.inl rfl | exact Or.inr rfl)) (by decide)) (dgs_cons (dg_fz (pg_name (i := 3) S.nd rfl (by first | exact Or.inl rfl | exact Or.inr rfl)) (by decide)) dgs_nil))))
    (dss_cons (ds_setF (p := false) (i := 4) S.nd rfl (by first | exact Or.inl rfl | exact Or.inr rfl) (de_cb (cs_T call_list_of (by rfl) T.b_list (by decide +kernel)) sList (da_cons (de_EE (b2_ix ix_seq fun _ _ => rfl) sIx (de_EE (b2_ix ix_seq fun _ _ => rfl) sIx (de_val (pv 0)) de_int) (de_val (pv 2))) da_nil)) (by decide))
    (dss_one (ds_ret (p := false) (de_if (dt_EE (t2_cmp (op_eqD hr.units) (nomark _)) sEq (de_val (pv 3)) (de_globI (by rfl) T.c_UNSEEN)) (de_val (pv 4)) (de_lst (da_cons (de_EE (b2_ix ix_seq fun _ _ => rfl) sIx (de_val (pv 4)) (de_val (pv 3))) da_nil))))))))
theorem sc_look_wrong : FnScope ["house", "begin", "tape", "moment", "room", "looks", "look", "low", "high"] ["house", "begin", "tape", "moment", "room"] (defScope s_look_wrong) := ⟨rfl, rfl, rfl, by decide +kernel, rfl, by decide +kernel, by decide +kernel⟩
theorem ok_look_wrong {a : Addr} {fd : FuncData} (G : Fun K "look_wrong" "look_wrong" s_look_wrong a fd) (hm : mg "look_wrong" = some (.ref a)) (T : Txt mg) (C_least_out : Cal P w K mg base 2 "least_out" s_least_out ["house", "begin", "tape", "room", "moment"] F_least_out) (C_most_out : Cal P w K mg base 2 "most_out" s_most_out ["house", "begin", "tape", "room", "moment"] F_most_out) : Cal P w K mg base 3 "look_wrong" s_look_wrong ["house", "begin", "tape", "moment", "room"] F_look_wrong :=
  .mk' G hm (G.binds fun _ _ _ _ _ _ us hl => match us, hl with | [_, _, _, _, _], _ => rfl) (fn_data G sc_look_wrong rfl rfl fun cdv A outer s H E hr hgd => by
    have S := sc_look_wrong
    exact (dss_cons (ds_if (p := false) (dt_EE (t2_cmp (op_eqD hr.units) (nomark _)) sEq (de_val (pv 3)) de_int) (dss_cons (ds_setLcF (i := 5) (own := [("look", 6)]) false rfl S.nd rfl rfl (by decide) (sw_true rfl rfl rfl (by decide +kernel)) (di_seq (de_EE (b2_ix ix_seq fun _ _ => rfl) sIx (de_val (pv 2)) de_int)) (blkOk_by (own := [("look", 6)]) (N := ["house", "begin", "tape", "moment", "room", "looks", "look", "low", "high"]) (sc := defScope s_look_wrong) (by decide +kernel)) (fun _ _ _ _ _ => (dg_name (pg_name (i := 6) S.nd rfl (by first | exact Or.inl rfl | exact Or.inr rfl)) (not_outK (by decide)))) (fun _ _ _ _ _ => (dts_one (dt_EE (t2_cmp (op_eqD hr.units) (nomark _)) sEq (de_slice (de_val (pv 6)) do_no (do_so de_int)) (de_tup (da_cons de_int (da_cons (de_val (pv 4)) da_nil)))))) (fun _ _ _ _ _ => (de_slice (de_val (pv 6)) (do_so de_int) do_no)))
    (dss_one (ds_ret (p := false) (de_cb (cs_B (cr_any rfl) (by rfl) T.b_any (by decide +kernel)) sBs (da_cons (de_lc (own := [("low", 7), ("high", 8)]) false rfl S.nd (di_seq (de_val (pv 5))) (blkOk_by (own := [("low", 7), ("high", 8)]) (N := ["house", "begin", "tape", "moment", "room", "looks", "look", "low", "high"]) (sc := defScope s_look_wrong) (by decide +kernel)) (fun _ _ _ _ _ => (dg_tup rfl (dgs_cons (dg_name (pg_name (i := 7) S.nd rfl (by first | exact Or.inl rfl | exact Or.inr rfl)) (not_outK (by decide))) (dgs_cons (dg_name (pg_name (i := 8) S.nd rfl (by first | exact Or.inl rfl | exact Or.inr rfl)) (not_outK (by decide))) dgs_nil)))) (fun _ _ _ _ _ => dts_nil) (fun _ _ _ _ _ => (de_not (de_chain op_le sI0 op_le sI0 (de_val (pv 7)) (de_EE (b2_ix ix_seq fun _ _ => rfl) sIx (de_val (pv 1)) (de_val (pv 4))) (de_val (pv 8)))))) da_nil))))) dss_nil)
    (dss_one (ds_ret (p := false) (de_EE (b2_cmp op_gt (nomark _)) sI0 (de_cal C_least_out hr (by first | omega | exact Nat.le_refl _) hgd (by rfl) (dc_valF (p := false) (de_val (pv 0)) (dc_valF (p := false) (de_val (pv 1)) (dc_valF (p := false) (de_val (pv 2)) (dc_valF (p := false) (de_val (pv 4)) (dc_valF (p := false) (de_val (pv 3)) dc_nil)))))) (de_cal C_most_out hr (by first | omega | exact Nat.le_refl _) hgd (by rfl) (dc_valF (p := false) (de_val (pv 0)) (dc_valF (p := false) (de_val (pv 1)) (dc_valF (p := false) (de_val (pv 2)) (dc_valF (p := false) (de_val (pv 4)) (dc_valF (p := false) (de_val (pv 3)) dc_nil)))))))))))
theorem sc_story_right : FnScope ["house", "begin", "tape", "ways", "beads", "looks", "here", "rows", "door", "seen", "way", "moment", "room", "low", "high"] ["house", "begin", "tape", "ways"] (defScope s_story_right) := ⟨rfl, rfl, rfl, by decide +kernel, rfl, by decide +kernel, by decide +kernel⟩
theorem ok_story_right {a : Addr} {fd : FuncData} (G : Fun K "story_right" "story_right" s_story_right a fd) (hm : mg "story_right" = some (.ref a)) (T : Txt mg)  : Cal P w K mg base 1 "story_right" s_story_right ["house", "begin", "tape", "ways"] F_story_right :=
  .mk' G hm (G.binds fun _ _ _ _ _ _ us hl => match us, hl with | [_, _, _, _], _ => rfl) (fn_data G sc_story_right rfl rfl fun cdv A outer s H E hr hgd => by
    have S := sc_story_right
    exact (dss_cons (ds_asg (p := false) (de_val (pv 2)) (dg_tup rfl (dgs_cons (dg_fz (pg_name (i := 4) S.nd rfl (by first | exact Or.inl rfl | exact Or.inr rfl)) (by decide)) (dgs_cons (dg_fz (pg_name (i := 5) S.nd rfl (by first | exact Or.inl rfl | exact Or.inr rfl)) (by decide)) dgs_nil))))
    (dss_cons (ds_if (p := false) (dt_EE (t2_cmp (op_neD hr.units) (nomark _)) sNe (de_cb (cs_B call_len (by rfl) T.b_len (by decide +kernel)) sLen (da_cons (de_val (pv 3)) da_nil)) (de_cb (cs_B call_len (by rfl) T.b_len (by decide +kernel)) sLen (da_cons (de_val (pv 4)) da_nil))) (dss_one (ds_ret (p := false) de_bl)) dss_nil)
    (dss_cons (ds_set (p := false) (i := 6) S.nd rfl (by first | exact Or.inl rfl | exact Or.inr rfl) (de_cb (cs_T call_list_of (by rfl) T.b_list (by decide +kernel)) sList (da_cons (de_val (pv 1)) da_nil)) (by decide))
    (dss_cons (ds_set (p := false) (i := 7) S.nd rfl (by first | exact Or.inl rfl | exact Or.inr rfl) (de_lst (da_cons (de_cb (cs_T call_list_of (by rfl) T.b_list (by decide +kernel)) sList (da_cons (de_val (pv 1)) da_nil)) da_nil)) (by decide))
    (dss_cons (ds_for (p := false) PassesOwn.never rfl (di_zip (by rfl) T.b_zip (da_cons (de_val (pv 4)) (da_cons (de_val (pv 3)) da_nil))) (dg_tup rfl (dgs_cons (dg_tup rfl (dgs_cons (dg_fz (pg_name (i := 8) S.nd rfl (by first | exact Or.inl rfl | exact Or.inr rfl)) (by decide)) (dgs_cons (dg_fz (pg_name (i := 9) S.nd rfl (by first | exact Or.inl rfl | exact Or.inr rfl)) (by decide)) dgs_nil))) (dgs_cons (dg_fz (pg_name (i := 10) S.nd rfl (by first | exact Or.inl rfl | exact Or.inr rfl)) (by decide)) dgs_nil))) (dss_cons (ds_if (p := false) (DW.dt (dw_or (dt_EE (t2_cmp op_notIn_seq (by rfl)) sIn (de_val (pv 10)) (de_tup (da_cons de_int (da_cons de_int da_nil)))) (dw_or1 (dt_EE (t2_cmp op_notIn_seq (by rfl)) sIn (de_val (pv 9)) (de_tup (da_cons (de_globI (by rfl) T.c_UNSEEN) (da_cons (de_val (pv 10)) da_nil))))))) (dss_one (ds_ret (p := false) de_bl)) dss_nil)
    (dss_cons (ds_augix (dm_name (pv 6)) (de_EE (b2_ix ix_seq fun _ _ => rfl) sIx (de_EE (b2_ix ix_seq fun _ _ => rfl) sIx (de_EE (b2_ix ix_seq fun _ _ => rfl) sIx (de_val (pv 0)) de_int) (de_val (pv 8))) (de_val (pv 10))) de_int iop_sub sI0)
    (dss_cons (ds_augix (dm_name (pv 6)) (de_EE (b2_ix ix_seq fun _ _ => rfl) sIx (de_EE (b2_ix ix_seq fun _ _ => rfl) sIx (de_EE (b2_ix ix_seq fun _ _ => rfl) sIx (de_val (pv 0)) de_int) (de_val (pv 8))) (de_EE (b2_op op_sub) sI0 de_int (de_val (pv 10)))) de_int iop_add sI0)
    (dss_cons (ds_if (p := false) (dt_EE (t2_cmp op_lt (nomark _)) sI0 (de_cbB (cs_B (cr_min rfl) (by rfl) T.b_min (by decide +kernel)) sMinL (dab_cons (db_name (pv 6)) dab_nil)) de_int) (dss_one (ds_ret (p := false) de_bl)) dss_nil)
    (dss_one (ds_expr (p := false) (de_appN (p := false) (kf := false) (pv 7) (de_cbB (cs_T call_list_of (by rfl) T.b_list (by decide +kernel)) sList (dab_cons (db_name (pv 6)) dab_nil))))))))))
    (dss_one (ds_ret (p := false) (de_cb (cs_B (cr_all rfl) (by rfl) T.b_all (by decide +kernel)) sBs (da_cons (de_lc (own := [("moment", 11), ("room", 12), ("low", 13), ("high", 14)]) false rfl S.nd (di_seq (de_val (pv 5))) (blkOk_by (own := [("moment", 11), ("room", 12), ("low", 13), ("high", 14)]) (N := ["house", "begin", "tape", "ways", "beads", "looks", "here", "rows", "door", "seen", "way", "moment", "room", "low", "high"]) (sc := defScope s_story_right) (by decide +kernel)) (fun _ _ _ _ _ => (dg_tup rfl (dgs_cons (dg_name (pg_name (i := 11) S.nd rfl (by first | exact Or.inl rfl | exact Or.inr rfl)) (not_outK (by decide))) (dgs_cons (dg_name (pg_name (i := 12) S.nd rfl (by first | exact Or.inl rfl | exact Or.inr rfl)) (not_outK (by decide))) (dgs_cons (dg_name (pg_name (i := 13) S.nd rfl (by first | exact Or.inl rfl | exact Or.inr rfl)) (not_outK (by decide))) (dgs_cons (dg_name (pg_name (i := 14) S.nd rfl (by first | exact Or.inl rfl | exact Or.inr rfl)) (not_outK (by decide))) dgs_nil)))))) (fun _ _ _ _ _ => dts_nil) (fun _ _ _ _ _ => (de_chain op_le sI0 op_le sI0 (de_val (pv 13)) (de_BE (b2_ix ix_seq fun _ _ => rfl) sIx (db_ix (db_name (pv 7)) (de_val (pv 11)) fun _ _ => rfl) (de_val (pv 12))) (de_val (pv 14))))) da_nil))))))))))
theorem sc_are_stretches : FnScope ["house", "tape", "rows", "room", "first", "last", "one", "other"] ["house", "tape", "rows"] (defScope s_are_stretches) := ⟨rfl, rfl, rfl, by decide +kernel, rfl, by decide +kernel, by decide +kernel⟩
theorem ok_are_stretches {a : Addr} {fd : FuncData} (G : Fun K "are_stretches" "are_stretches" s_are_stretches a fd) (hm : mg "are_stretches" = some (.ref a)) (T : Txt mg)  : Cal P w K mg base 1 "are_stretches" s_are_stretches ["house", "tape", "rows"] F_are_stretches :=
  .mk' G hm (G.binds fun _ _ _ _ _ _ us hl => match us, hl with | [_, _, _], _ => rfl) (fn_data G sc_are_stretches rfl rfl fun cdv A outer s H E hr hgd => by
    have S := sc_are_stretches
    exact (dss_cons (ds_for (p := false) PassesOwn.never rfl (di_seq (de_val (pv 2))) (dg_tup rfl (dgs_cons (dg_fz (pg_name (i := 3) S.nd rfl (by first | exact Or.inl rfl | exact Or.inr rfl)) (by decide)) (dgs_cons (dg_fz (pg_name (i := 4) S.nd rfl (by first | exact Or.inl rfl | exact Or.inr rfl)) (by decide)) (dgs_cons (dg_fz (pg_name (i := 5) S.nd rfl (by first | exact Or.inl rfl | exact Or.inr rfl)) (by decide)) dgs_nil)))) (dss_one (ds_if (p := false) (DW.dt (dw_or (dt_not (dt_chain op_le sI0 op_lt sI0 de_int (de_val (pv 3)) (de_EE (b2_ix ix_seq fun _ _ => rfl) sIx (de_val (pv 0)) de_int))) (dw_or1 (dt_not (dt_chain3 op_le sI0 op_le sI0 op_le sI0 de_int (de_val (pv 4)) (de_val (pv 5)) (de_cb (cs_B call_len (by rfl) T.b_len (by decide +kernel)) sLen (da_cons (de_EE (b2_ix ix_seq fun _ _ => rfl) sIx (de_val (pv 1)) de_int) da_nil))))))) (dss_one (ds_ret (p := false) de_bl)) dss_nil)))
    (dss_cons (ds_for (p := false) PassesOwn.never rfl (di_zip (by rfl) T.b_zip (da_cons (de_val (pv 2)) (da_cons (de_slice (de_val (pv 2)) (do_so de_int) do_no) da_nil))) (dg_tup rfl (dgs_cons (dg_fz (pg_name (i := 6) S.nd rfl (by first | exact Or.inl rfl | exact Or.inr rfl)) (by decide)) (dgs_cons (dg_fz (pg_name (i := 7) S.nd rfl (by first | exact Or.inl rfl | exact Or.inr rfl)) (by decide)) dgs_nil))) (dss_one (ds_if (p := false) (DW.dt (dw_or (dt_EE (t2_cmp (op_geDat hr.units) (nomark _)) sGeD (de_val (pv 6)) (de_val (pv 7))) (dw_or1 (DW.dt (dw_and (dt_EE (t2_cmp (op_eqD hr.units) (nomark _)) sEq (de_EE (b2_ix ix_seq fun _ _ => rfl) sIx (de_val (pv 6)) de_int) (de_EE (b2_ix ix_seq fun _ _ => rfl) sIx (de_val (pv 7)) de_int)) (dw_and1 (dt_EE (t2_cmp op_lt (nomark _)) sI0 (de_EE (b2_ix ix_seq fun _ _ => rfl) sIx (de_val (pv 7)) de_int) (de_EE (b2_op opAdd) sAdd (de_EE (b2_ix ix_seq fun _ _ => rfl) sIx (de_val (pv 6)) de_int) de_int)))))))) (dss_one (ds_ret (p := false) de_bl)) dss_nil)))
    (dss_one (ds_ret (p := false) de_bl)))))
theorem sc_in_some : FnScope ["rows", "room", "moment", "where", "first", "last"] ["rows", "room", "moment"] (defScope s_in_some) := ⟨rfl, rfl, rfl, by decide +kernel, rfl, by decide +kernel, by decide +kernel⟩
theorem ok_in_some {a : Addr} {fd : FuncData} (G : Fun K "in_some" "in_some" s_in_some a fd) (hm : mg "in_some" = some (.ref a)) (T : Txt mg)  : Cal P w K mg base 1 "in_some" s_in_some ["rows", "room", "moment"] F_in_some :=
  .mk' G hm (G.binds fun _ _ _ _ _ _ us hl => match us, hl with | [_, _, _], _ => rfl) (fn_data G sc_in_some rfl rfl fun cdv A outer s H E hr hgd => by
    have S := sc_in_some
    exact (dss_one (ds_ret (p := false) (de_cb (cs_B (cr_any rfl) (by rfl) T.b_any (by decide +kernel)) sBs (da_cons (de_lc (own := [("where", 3), ("first", 4), ("last", 5)]) false rfl S.nd (di_seq (de_val (pv 0))) (blkOk_by (own := [("where", 3), ("first", 4), ("last", 5)]) (N := ["rows", "room", "moment", "where", "first", "last"]) (sc := defScope s_in_some) (by decide +kernel)) (fun _ _ _ _ _ => (dg_tup rfl (dgs_cons (dg_name (pg_name (i := 3) S.nd rfl (by first | exact Or.inl rfl | exact Or.inr rfl)) (not_outK (by decide))) (dgs_cons (dg_name (pg_name (i := 4) S.nd rfl (by first | exact Or.inl rfl | exact Or.inr rfl)) (not_outK (by decide))) (dgs_cons (dg_name (pg_name (i := 5) S.nd rfl (by first | exact Or.inl rfl | exact Or.inr rfl)) (not_outK (by decide))) dgs_nil))))) (fun _ _ _ _ _ => dts_nil) (fun _ _ _ _ _ => (de_and (de_EE (b2_cmp (op_eqD hr.units) (nomark _)) sEq (de_val (pv 3)) (de_val (pv 1))) (de_one (de_chain op_le sI0 op_le sI0 (de_val (pv 4)) (de_val (pv 2)) (de_val (pv 5))))))) da_nil)))))
theorem sc_ends_of : FnScope ["rows", "room", "first", "last"] ["rows"] (defScope s_ends_of) := ⟨rfl, rfl, rfl, by decide +kernel, rfl, by decide +kernel, by decide +kernel⟩
theorem ok_ends_of {a : Addr} {fd : FuncData} (G : Fun K "ends_of" "ends_of" s_ends_of a fd) (hm : mg "ends_of" = some (.ref a)) (T : Txt mg)  : Cal P w K mg base 1 "ends_of" s_ends_of ["rows"] F_ends_of :=
  .mk' G hm (G.binds fun _ _ _ _ _ _ us hl => match us, hl with | [_], _ => rfl) (fn_data G sc_ends_of rfl rfl fun cdv A outer s H E hr hgd => by
    have S := sc_ends_of
    exact (dss_one (ds_ret (p := false) (de_EE (b2_op opAdd) sAdd (de_lc (own := [("room", 1), ("first", 2), ("last", 3)]) false rfl S.nd (di_seq (de_val (pv 0))) (blkOk_by (own := [("room", 1), ("first", 2), ("last", 3)]) (N := ["rows", "room", "first", "last"]) (sc := defScope s_ends_of) (by decide +kernel)) (fun _ _ _ _ _ => (dg_tup rfl (dgs_cons (dg_name (pg_name (i := 1) S.nd rfl (by first | exact Or.inl rfl | exact Or.inr rfl)) (not_outK (by decide))) (dgs_cons (dg_name (pg_name (i := 2) S.nd rfl (by first | exact Or.inl rfl | exact Or.inr rfl)) (not_outK (by decide))) (dgs_cons (dg_name (pg_name (i := 3) S.nd rfl (by first | exact Or.inl rfl | exact Or.inr rfl)) (not_outK (by decide))) dgs_nil))))) (fun _ _ _ _ _ => dts_nil) (fun _ _ _ _ _ => (de_tup (da_cons (de_val (pv 1)) (da_cons (de_EE (b2_op op_sub) sI0 (de_val (pv 2)) de_int) da_nil))))) (de_lc (own := [("room", 1), ("first", 2), ("last", 3)]) false rfl S.nd (di_seq (de_val (pv 0))) (blkOk_by (own := [("room", 1), ("first", 2), ("last", 3)]) (N := ["rows", "room", "first", "last"]) (sc := defScope s_ends_of) (by decide +kernel)) (fun _ _ _ _ _ => (dg_tup rfl (dgs_cons (dg_name (pg_name (i := 1) S.nd rfl (by first | exact Or.inl rfl | exact Or.inr rfl)) (not_outK (by decide))) (dgs_cons (dg_name (pg_name (i := 2) S.nd rfl (by first | exact Or.inl rfl | exact Or.inr rfl)) (not_outK (by decide))) (dgs_cons (dg_name (pg_name (i := 3) S.nd rfl (by first | exact Or.inl rfl | exact Or.inr rfl)) (not_outK (by decide))) dgs_nil))))) (fun _ _ _ _ _ => dts_nil) (fun _ _ _ _ _ => (de_tup (da_cons (de_val (pv 1)) (da_cons (de_val (pv 3)) da_nil)))))))))
theorem sc_paper_right : FnScope ["house", "begin", "tape", "paper", "kind", "moment", "room", "rows", "hit", "k", "bead", "most", "low", "top", "need", "first", "last", "one"] ["house", "begin", "tape", "paper"] (defScope s_paper_right) := ⟨rfl, rfl, rfl, by decide +kernel, rfl, by decide +kernel, by decide +kernel⟩
theorem ok_paper_right {a : Addr} {fd : FuncData} (G : Fun K "paper_right" "paper_right" s_paper_right a fd) (hm : mg "paper_right" = some (.ref a)) (T : Txt mg) (C_look_wrong : Cal P w K mg base 3 "look_wrong" s_look_wrong ["house", "begin", "tape", "moment", "room"] F_look_wrong) (C_are_stretches : Cal P w K mg base 1 "are_stretches" s_are_stretches ["house", "tape", "rows"] F_are_stretches) (C_may_leave : Cal P w K mg base 1 "may_leave" s_may_leave ["house", "bead"] F_may_leave) (C_in_some : Cal P w K mg base 1 "in_some" s_in_some ["rows", "room", "moment"] F_in_some) (C_ends_of : Cal P w K mg base 1 "ends_of" s_ends_of ["rows"] F_ends_of) (C_most_out : Cal P w K mg base 2 "most_out" s_most_out ["house", "begin", "tape", "room", "moment"] F_most_out) (C_least_out : Cal P w K mg base 2 "least_out" s_least_out ["house", "begin", "tape", "room", "moment"] F_least_out) : Cal P w K mg base 4 "paper_right" s_paper_right ["house", "begin", "tape", "paper"] F_paper_right :=
  .mk' G hm (G.binds fun _ _ _ _ _ _ us hl => match us, hl with | [_, _, _, _], _ => rfl) (fn_data G sc_paper_right rfl rfl fun cdv A outer s H E hr hgd => by
    have S := sc_paper_right
    exact (dss_cons (ds_if (p := false) (dt_EE (t2_cmp (op_eqD hr.units) (nomark _)) sEq (de_EE (b2_ix ix_seq fun _ _ => rfl) sIx (de_val (pv 3)) de_int) de_str) (dss_cons (ds_asg (p := false) (de_val (pv 3)) (dg_tup rfl (dgs_cons (dg_fz (pg_name (i := 4) S.nd rfl (by first | exact Or.inl rfl | exact Or.inr rfl)) (by decide)) (dgs_cons (dg_fz (pg_name (i := 5) S.nd rfl (by first | exact Or.inl rfl | exact Or.inr rfl)) (by decide)) (dgs_cons (dg_fz (pg_name (i := 6) S.nd rfl (by first | exact Or.inl rfl | exact Or.inr rfl)) (by decide)) dgs_nil)))))
    (dss_cons (ds_if (p := false) (DW.dt (dw_or (dt_not (dt_chain op_le sI0 op_le sI0 de_int (de_val (pv 5)) (de_cb (cs_B call_len (by rfl) T.b_len (by decide +kernel)) sLen (da_cons (de_EE (b2_ix ix_seq fun _ _ => rfl) sIx (de_val (pv 2)) de_int) da_nil)))) (dw_or1 (dt_not (dt_chain op_le sI0 op_lt sI0 de_int (de_val (pv 6)) (de_EE (b2_ix ix_seq fun _ _ => rfl) sIx (de_val (pv 0)) de_int)))))) (dss_one (ds_ret (p := false) de_bl)) dss_nil)
    (dss_one (ds_ret (p := false) (de_cal C_look_wrong hr (by first | omega | exact Nat.le_refl _) hgd (by rfl) (dc_valF (p := false) (de_val (pv 0)) (dc_valF (p := false) (de_val (pv 1)) (dc_valF (p := false) (de_val (pv 2)) (dc_valF (p := false) (de_val (pv 5)) (dc_valF (p := false) (de_val (pv 6)) dc_nil)))))))))) dss_nil)
    (dss_cons (ds_asg (p := false) (de_val (pv 3)) (dg_tup rfl (dgs_cons (dg_fz (pg_name (i := 4) S.nd rfl (by first | exact Or.inl rfl | exact Or.inr rfl)) (by decide)) (dgs_cons (dg_fz (pg_name (i := 7) S.nd rfl (by first | exact Or.inl rfl | exact Or.inr rfl)) (by decide)) dgs_nil))))
    (dss_cons (ds_if (p := false) (dt_not (dt_tru (de_cal C_are_stretches hr (by first | omega | exact Nat.le_refl _) hgd (by rfl) (dc_valF (p := false) (de_val (pv 0)) (dc_valF (p := false) (de_val (pv 2)) (dc_valF (p := false) (de_val (pv 7)) dc_nil)))) fun _ => rfl)) (dss_one (ds_ret (p := false) de_bl)) dss_nil)
    (dss_cons (ds_set (p := false) (i := 8) S.nd rfl (by first | exact Or.inl rfl | exact Or.inr rfl) (de_lst da_nil) (by decide))
    (dss_cons (ds_for (p := false) PassesOwn.never rfl (di_enum (by rfl) T.b_enumerate (da_cons (de_EE (b2_ix ix_seq fun _ _ => rfl) sIx (de_val (pv 2)) de_int) da_nil)) (dg_tup rfl (dgs_cons (dg_fz (pg_name (i := 9) S.nd rfl (by first | exact Or.inl rfl | exact Or.inr rfl)) (by decide)) (dgs_cons (dg_fz (pg_name (i := 10) S.nd rfl (by first | exact Or.inl rfl | exact Or.inr rfl)) (by decide)) dgs_nil))) (dss_one (ds_expr (p := false) (de_appN (p := false) (kf := false) (pv 8) (de_lc (own := [("room", 6)]) false rfl S.nd (di_seq (de_cal C_may_leave hr (by first | omega | exact Nat.le_refl _) hgd (by rfl) (dc_valF (p := false) (de_val (pv 0)) (dc_valF (p := false) (de_val (pv 10)) dc_nil)))) (blkOk_by (own := [("room", 6)]) (N := ["house", "begin", "tape", "paper", "kind", "moment", "room", "rows", "hit", "k", "bead", "most", "low", "top", "need", "first", "last", "one"]) (sc := defScope s_paper_right) (by decide +kernel)) (fun _ _ _ _ _ => (dg_name (pg_name (i := 6) S.nd rfl (by first | exact Or.inl rfl | exact Or.inr rfl)) (not_outK (by decide)))) (fun _ _ _ _ _ => dts_nil) (fun _ _ _ _ _ => (de_cal C_in_some hr (by first | omega | exact Nat.le_refl _) hgd (by rfl) (dc_valF (p := false) (de_val (pv 7)) (dc_valF (p := false) (de_val (pv 6)) (dc_valF (p := false) (de_EE (b2_op opAdd) sAdd (de_val (pv 9)) de_int) dc_nil))))))))))
    (dss_cons (ds_setF (p := false) (i := 11) S.nd rfl (by first | exact Or.inl rfl | exact Or.inr rfl) (de_dcT (own := [("room", 6), ("moment", 5)]) (units0 (units65 hr)) rfl S.nd (di_seq (de_cal C_ends_of hr (by first | omega | exact Nat.le_refl _) hgd (by rfl) (dc_valF (p := false) (de_val (pv 7)) dc_nil))) (blkOk_by (own := [("room", 6), ("moment", 5)]) (N := ["house", "begin", "tape", "paper", "kind", "moment", "room", "rows", "hit", "k", "bead", "most", "low", "top", "need", "first", "last", "one"]) (sc := defScope s_paper_right) (by decide +kernel)) (fun _ _ _ _ _ => (dg_tup rfl (dgs_cons (dg_name (pg_name (i := 6) S.nd rfl (by first | exact Or.inl rfl | exact Or.inr rfl)) (not_outK (by decide))) (dgs_cons (dg_name (pg_name (i := 5) S.nd rfl (by first | exact Or.inl rfl | exact Or.inr rfl)) (not_outK (by decide))) dgs_nil)))) (fun _ _ _ _ _ => dts_nil) (fun _ _ _ _ _ => (da_cons (de_val (pv 6)) (da_cons (de_val (pv 5)) da_nil))) (fun _ _ _ _ _ => (de_cal C_most_out hr (by first | omega | exact Nat.le_refl _) hgd (by rfl) (dc_valF (p := false) (de_val (pv 0)) (dc_valF (p := false) (de_val (pv 1)) (dc_valF (p := false) (de_val (pv 2)) (dc_valF (p := false) (de_val (pv 6)) (dc_valF (p := false) (de_val (pv 5)) dc_nil)))))))) (by decide))
    (dss_cons (ds_setF (p := false) (i := 12) S.nd rfl (by first | exact Or.inl rfl | exact Or.inr rfl) (de_dcT (own := [("room", 6), ("moment", 5)]) (units0 (units65 hr)) rfl S.nd (di_seq (de_cal C_ends_of hr (by first | omega | exact Nat.le_refl _) hgd (by rfl) (dc_valF (p := false) (de_val (pv 7)) dc_nil))) (blkOk_by (own := [("room", 6), ("moment", 5)]) (N := ["house", "begin", "tape", "paper", "kind", "moment", "room", "rows", "hit", "k", "bead", "most", "low", "top", "need", "first", "last", "one"]) (sc := defScope s_paper_right) (by decide +kernel)) (fun _ _ _ _ _ => (dg_tup rfl (dgs_cons (dg_name (pg_name (i := 6) S.nd rfl (by first | exact Or.inl rfl | exact Or.inr rfl)) (not_outK (by decide))) (dgs_cons (dg_name (pg_name (i := 5) S.nd rfl (by first | exact Or.inl rfl | exact Or.inr rfl)) (not_outK (by decide))) dgs_nil)))) (fun _ _ _ _ _ => dts_nil) (fun _ _ _ _ _ => (da_cons (de_val (pv 6)) (da_cons (de_val (pv 5)) da_nil))) (fun _ _ _ _ _ => (de_cal C_least_out hr (by first | omega | exact Nat.le_refl _) hgd (by rfl) (dc_valF (p := false) (de_val (pv 0)) (dc_valF (p := false) (de_val (pv 1)) (dc_valF (p := false) (de_val (pv 2)) (dc_valF (p := false) (de_val (pv 6)) (dc_valF (p := false) (de_val (pv 5)) dc_nil)))))))) (by decide))
    (dss_cons (ds_if (p := false) (dt_EE (t2_cmp (op_eqD hr.units) (nomark _)) sEq (de_val (pv 4)) de_str) (dss_cons (ds_setF (p := false) (i := 13) S.nd rfl (by first | exact Or.inl rfl | exact Or.inr rfl) (de_cb (cs_B (cr_sum rfl) (by rfl) T.b_sum (by decide +kernel)) sSum (da_cons (de_lc (own := [("room", 6), ("first", 15), ("last", 16)]) false rfl S.nd (di_seq (de_val (pv 7))) (blkOk_by (own := [("room", 6), ("first", 15), ("last", 16)]) (N := ["house", "begin", "tape", "paper", "kind", "moment", "room", "rows", "hit", "k", "bead", "most", "low", "top", "need", "first", "last", "one"]) (sc := defScope s_paper_right) (by decide +kernel)) (fun _ _ _ _ _ => (dg_tup rfl (dgs_cons (dg_name (pg_name (i := 6) S.nd rfl (by first | exact Or.inl rfl | exact Or.inr rfl)) (not_outK (by decide))) (dgs_cons (dg_name (pg_name (i := 15) S.nd rfl (by first | exact Or.inl rfl | exact Or.inr rfl)) (not_outK (by decide))) (dgs_cons (dg_name (pg_name (i := 16) S.nd rfl (by first | exact Or.inl rfl | exact Or.inr rfl)) (not_outK (by decide))) dgs_nil))))) (fun _ _ _ _ _ => dts_nil) (fun _ _ _ _ _ => (de_EE (b2_op op_sub) sI0 (de_EE (b2_ix (ix_dT (units1 (units65 hr))) fun _ _ => rfl) sIxDT (de_val (pv 11)) (de_tup (da_cons (de_val (pv 6)) (da_cons (de_val (pv 16)) da_nil)))) (de_EE (b2_ix (ix_dT (units1 (units65 hr))) fun _ _ => rfl) sIxDT (de_val (pv 12)) (de_tup (da_cons (de_val (pv 6)) (da_cons (de_EE (b2_op op_sub) sI0 (de_val (pv 15)) de_int) da_nil))))))) da_nil)) (by decide))
    (dss_one (ds_ret (p := false) (de_EE (b2_cmp op_gt (nomark _)) sI0 (de_view (q := false) (de_cb (cs_B call_len (by rfl) T.b_len (by decide +kernel)) sLen (da_cons (de_lc (own := [("one", 17)]) false rfl S.nd (di_seq (de_val (pv 8))) (blkOk_by (own := [("one", 17)]) (N := ["house", "begin", "tape", "paper", "kind", "moment", "room", "rows", "hit", "k", "bead", "most", "low", "top", "need", "first", "last", "one"]) (sc := defScope s_paper_right) (by decide +kernel)) (fun _ _ _ _ _ => (dg_name (pg_name (i := 17) S.nd rfl (by first | exact Or.inl rfl | exact Or.inr rfl)) (not_outK (by decide)))) (fun _ _ _ _ _ => (dts_one (dt_val (de_cb (cs_B (cr_all rfl) (by rfl) T.b_all (by decide +kernel)) sBs (da_cons (de_val (pv 17)) da_nil))))) (fun _ _ _ _ _ => (de_val (pv 17)))) da_nil))) (de_val (pv 13)))))) dss_nil)
    (dss_cons (ds_setF (p := false) (i := 14) S.nd rfl (by first | exact Or.inl rfl | exact Or.inr rfl) (de_cb (cs_B (cr_sum rfl) (by rfl) T.b_sum (by decide +kernel)) sSum (da_cons (de_lc (own := [("room", 6), ("first", 15), ("last", 16)]) false rfl S.nd (di_seq (de_val (pv 7))) (blkOk_by (own := [("room", 6), ("first", 15), ("last", 16)]) (N := ["house", "begin", "tape", "paper", "kind", "moment", "room", "rows", "hit", "k", "bead", "most", "low", "top", "need", "first", "last", "one"]) (sc := defScope s_paper_right) (by decide +kernel)) (fun _ _ _ _ _ => (dg_tup rfl (dgs_cons (dg_name (pg_name (i := 6) S.nd rfl (by first | exact Or.inl rfl | exact Or.inr rfl)) (not_outK (by decide))) (dgs_cons (dg_name (pg_name (i := 15) S.nd rfl (by first | exact Or.inl rfl | exact Or.inr rfl)) (not_outK (by decide))) (dgs_cons (dg_name (pg_name (i := 16) S.nd rfl (by first | exact Or.inl rfl | exact Or.inr rfl)) (not_outK (by decide))) dgs_nil))))) (fun _ _ _ _ _ => dts_nil) (fun _ _ _ _ _ => (de_EE (b2_op op_sub) sI0 (de_EE (b2_ix (ix_dT (units1 (units65 hr))) fun _ _ => rfl) sIxDT (de_val (pv 12)) (de_tup (da_cons (de_val (pv 6)) (da_cons (de_val (pv 16)) da_nil)))) (de_EE (b2_ix (ix_dT (units1 (units65 hr))) fun _ _ => rfl) sIxDT (de_val (pv 11)) (de_tup (da_cons (de_val (pv 6)) (da_cons (de_EE (b2_op op_sub) sI0 (de_val (pv 15)) de_int) da_nil))))))) da_nil)) (by decide))
    (dss_one (ds_ret (p := false) (de_EE (b2_cmp op_lt (nomark _)) sI0 (de_view (q := false) (de_cb (cs_B call_len (by rfl) T.b_len (by decide +kernel)) sLen (da_cons (de_lc (own := [("one", 17)]) false rfl S.nd (di_seq (de_val (pv 8))) (blkOk_by (own := [("one", 17)]) (N := ["house", "begin", "tape", "paper", "kind", "moment", "room", "rows", "hit", "k", "bead", "most", "low", "top", "need", "first", "last", "one"]) (sc := defScope s_paper_right) (by decide +kernel)) (fun _ _ _ _ _ => (dg_name (pg_name (i := 17) S.nd rfl (by first | exact Or.inl rfl | exact Or.inr rfl)) (not_outK (by decide)))) (fun _ _ _ _ _ => (dts_one (dt_val (de_cb (cs_B (cr_any rfl) (by rfl) T.b_any (by decide +kernel)) sBs (da_cons (de_val (pv 17)) da_nil))))) (fun _ _ _ _ _ => (de_val (pv 17)))) da_nil))) (de_val (pv 14)))))))))))))))
theorem sc_law_jug : FnScope ["script", "k", "cell"] ["script", "k"] (defScope s_law_jug) := ⟨rfl, rfl, rfl, by decide +kernel, rfl, by decide +kernel, by decide +kernel⟩
theorem ok_law_jug {a : Addr} {fd : FuncData} (G : Fun K "_law_jug" "_law_jug" s_law_jug a fd) (hm : mg "_law_jug" = some (.ref a)) (T : Txt mg)  : Cal P w K mg base 1 "_law_jug" s_law_jug ["script", "k"] F_law_jug :=
  .mk' G hm (G.binds fun _ _ _ _ _ _ us hl => match us, hl with | [_, _], _ => rfl) (fn_data G sc_law_jug rfl rfl fun cdv A outer s H E hr hgd => by
    have S := sc_law_jug
    exact (dss_cons (ds_setF (p := false) (i := 2) S.nd rfl (by first | exact Or.inl rfl | exact Or.inr rfl) (de_if (dt_EE (t2_cmp op_lt (nomark _)) sI0 (de_val (pv 1)) (de_cb (cs_B call_len (by rfl) T.b_len (by decide +kernel)) sLen (da_cons (de_val (pv 0)) da_nil))) (de_EE (b2_ix ix_seq fun _ _ => rfl) sIx (de_val (pv 0)) (de_val (pv 1))) de_int) (by decide))
    (dss_one (ds_ret (p := false) (de_lst (da_cons (de_cb (cs_B (call_max2 rfl) (by rfl) T.b_max (by decide +kernel)) sI2 (da_cons de_int (da_cons (de_EE (b2_op op_sub) sI0 (de_val (pv 2)) (de_EE (b2_op opPow) sI de_int de_int)) da_nil))) (da_cons (de_EE (b2_op opAdd) sAdd (de_EE (b2_op opMul) sMul (de_EE (b2_op op_mod) sI (de_val (pv 2)) (de_EE (b2_op opAdd) sAdd (de_EE (b2_op opPow) sI de_int de_int) de_int)) de_int) (de_val (pv 1))) (da_cons de_int da_nil))))))))
theorem sc_law_dip : FnScope ["jug", "many", "found", "mixed"] ["jug", "many"] (defScope s_law_dip) := ⟨rfl, rfl, rfl, by decide +kernel, rfl, by decide +kernel, by decide +kernel⟩
theorem ok_law_dip {a : Addr} {fd : FuncData} (G : Fun K "_law_dip" "_law_dip" s_law_dip a fd) (hm : mg "_law_dip" = some (.ref a)) (T : Txt mg)  : Cal P w K mg base 1 "_law_dip" s_law_dip ["jug", "many"] F_law_dip :=
  .mk' G hm (G.binds fun _ _ _ _ _ _ us hl => match us, hl with | [_, _], _ => rfl) (fn_data G sc_law_dip rfl rfl fun cdv A outer s H E hr hgd => by
    have S := sc_law_dip
    exact (dss_cons (ds_if (p := false) (dt_BE (t2_cmp op_gt (nomark _)) sI0 (db_ix (db_name (pv 0)) de_int fun _ _ => rfl) de_int) (dss_cons (ds_setF (p := false) (i := 2) S.nd rfl (by first | exact Or.inl rfl | exact Or.inr rfl) (de_BE (b2_op op_mod) sI (db_ix (db_name (pv 0)) de_int fun _ _ => rfl) (de_val (pv 1))) (by decide))
    (dss_cons (ds_setix (p := false) (kf := false) (de_BE (b2_op op_fdivW) sI (db_ix (db_name (pv 0)) de_int fun _ _ => rfl) (de_val (pv 1))) (dm_name (pv 0)) de_int)
    (dss_one (ds_ret (p := false) (de_val (pv 2)))))) dss_nil)
    (dss_cons (ds_setix (p := false) (kf := false) (de_BE (b2_op opAdd) sAdd (db_ix (db_name (pv 0)) de_int fun _ _ => rfl) de_int) (dm_name (pv 0)) de_int)
    (dss_cons (ds_setF (p := false) (i := 3) S.nd rfl (by first | exact Or.inl rfl | exact Or.inr rfl) (de_EE (b2_op op_mod) sI (de_EE (b2_op opPow) sI (de_BE (b2_op opAdd) sAdd (db_ix (db_name (pv 0)) de_int fun _ _ => rfl) (de_EB (b2_op opMul) sMul de_int (db_ix (db_name (pv 0)) de_int fun _ _ => rfl))) de_int) (de_EE (b2_op opAdd) sAdd (de_EE (b2_op opPow) sI de_int de_int) de_int)) (by decide))
    (dss_cons (ds_setF (p := false) (i := 3) S.nd rfl (by first | exact Or.inl rfl | exact Or.inr rfl) (de_EE (b2_op op_mod) sI (de_EE (b2_op opPow) sI (de_EE (b2_op opAdd) sAdd (de_val (pv 3)) (de_EB (b2_op opMul) sMul de_int (db_ix (db_name (pv 0)) de_int fun _ _ => rfl))) de_int) (de_EE (b2_op opAdd) sAdd (de_EE (b2_op opPow) sI de_int de_int) de_int)) (by decide))
    (dss_one (ds_ret (p := false) (de_EE (b2_op op_mod) sI (de_EE (b2_op op_fdivW) sI (de_val (pv 3)) de_int) (de_val (pv 1))))))))))
theorem sc_law_house : FnScope ["jug", "most", "more", "rooms", "doors", "k", "one"] ["jug", "most", "more"] (defScope s_law_house) := ⟨rfl, rfl, rfl, by decide +kernel, rfl, by decide +kernel, by decide +kernel⟩
theorem ok_law_house {a : Addr} {fd : FuncData} (G : Fun K "_law_house" "_law_house" s_law_house a fd) (hm : mg "_law_house" = some (.ref a)) (T : Txt mg) (C_law_dip : Cal P w K mg base 1 "_law_dip" s_law_dip ["jug", "many"] F_law_dip) : Cal P w K mg base 2 "_law_house" s_law_house ["jug", "most", "more"] F_law_house :=
  .mk' G hm (G.binds fun _ _ _ _ _ _ us hl => match us, hl with | [_, _, _], _ => rfl) (fn_data G sc_law_house rfl rfl fun cdv A outer s H E hr hgd => by
    have S := sc_law_house
    exact (dss_cons (ds_setF (p := false) (i := 3) S.nd rfl (by first | exact Or.inl rfl | exact Or.inr rfl) (de_EE (b2_ix ix_seq fun _ _ => rfl) sIx (de_lst (da_cons (de_EE (b2_op opAdd) sAdd de_int (de_cal C_law_dip hr (by first | omega | exact Nat.le_refl _) hgd (by rfl) (dc_ref (pv 0) (dc_valF (p := false) (de_val (pv 1)) dc_nil)))) (da_cons (de_EE (b2_op opAdd) sAdd de_int (de_cal C_law_dip hr (by first | omega | exact Nat.le_refl _) hgd (by rfl) (dc_ref (pv 0) (dc_valF (p := false) (de_EE (b2_op op_sub) sI0 (de_val (pv 1)) de_int) dc_nil)))) da_nil))) (de_cb (cs_T call_int1 (by rfl) T.b_int (by decide +kernel)) sInt1 (da_cons (de_EE (b2_cmp op_gt (nomark _)) sI0 (de_cal C_law_dip hr (by first | omega | exact Nat.le_refl _) hgd (by rfl) (dc_ref (pv 0) (dc_valF (p := false) de_int dc_nil))) de_int) da_nil))) (by decide))
    (dss_cons (ds_set (p := false) (i := 4) S.nd rfl (by first | exact Or.inl rfl | exact Or.inr rfl) (de_lst da_nil) (by decide))
    (dss_cons (ds_for (p := false) PassesOwn.never rfl (di_range (by rfl) T.b_range (da_cons (de_EE (b2_op opMul) sMul (de_EE (b2_op opAdd) sAdd de_int (de_cal C_law_dip hr (by first | omega | exact Nat.le_refl _) hgd (by rfl) (dc_ref (pv 0) (dc_valF (p := false) (de_EE (b2_op op_sub) sI0 (de_val (pv 2)) de_int) dc_nil)))) (de_cb (cs_T call_int1 (by rfl) T.b_int (by decide +kernel)) sInt1 (da_cons (de_EE (b2_cmp op_gt (nomark _)) sI0 (de_val (pv 3)) de_int) da_nil))) da_nil)) (dg_fz (pg_name (i := 5) S.nd rfl (by first | exact Or.inl rfl | exact Or.inr rfl)) (by decide)) (dss_cons (ds_setF (p := false) (i := 6) S.nd rfl (by first | exact Or.inl rfl | exact Or.inr rfl) (de_cal C_law_dip hr (by first | omega | exact Nat.le_refl _) hgd (by rfl) (dc_ref (pv 0) (dc_valF (p := false) (de_val (pv 3)) dc_nil))) (by decide))
    (dss_one (ds_expr (p := false) (de_appN (p := false) (kf := false) (pv 4) (de_tup (da_cons (de_val (pv 6)) (da_cons (de_EE (b2_op op_mod) sI (de_EE (b2_op opAdd) sAdd (de_EE (b2_op opAdd) sAdd (de_val (pv 6)) de_int) (de_cal C_law_dip hr (by first | omega | exact Nat.le_refl _) hgd (by rfl) (dc_ref (pv 0) (dc_valF (p := false) (de_EE (b2_op op_sub) sI0 (de_val (pv 3)) de_int) dc_nil)))) (de_val (pv 3))) da_nil))))))))
    (dss_one (ds_ret (p := false) (de_tup (da_cons (de_val (pv 3)) (da_cons (de_var (pv 4)) da_nil)))))))))
theorem sc_law_folk : FnScope ["jug", "home", "few", "spot"] ["jug", "home"] (defScope s_law_folk) := ⟨rfl, rfl, rfl, by decide +kernel, rfl, by decide +kernel, by decide +kernel⟩
theorem ok_law_folk {a : Addr} {fd : FuncData} (G : Fun K "_law_folk" "_law_folk" s_law_folk a fd) (hm : mg "_law_folk" = some (.ref a)) (T : Txt mg) (C_law_dip : Cal P w K mg base 1 "_law_dip" s_law_dip ["jug", "many"] F_law_dip) : Cal P w K mg base 2 "_law_folk" s_law_folk ["jug", "home"] F_law_folk :=
  .mk' G hm (G.binds fun _ _ _ _ _ _ us hl => match us, hl with | [_, _], _ => rfl) (fn_data G sc_law_folk rfl rfl fun cdv A outer s H E hr hgd => by
    have S := sc_law_folk
    exact (dss_cons (ds_setF (p := false) (i := 2) S.nd rfl (by first | exact Or.inl rfl | exact Or.inr rfl) (de_EE (b2_ix ix_seq fun _ _ => rfl) sIx (de_lst (da_cons de_int (da_cons de_int (da_cons de_int (da_cons de_int (da_cons (de_EE (b2_op opPow) sI de_int de_int) da_nil)))))) (de_cal C_law_dip hr (by first | omega | exact Nat.le_refl _) hgd (by rfl) (dc_ref (pv 0) (dc_valF (p := false) de_int dc_nil)))) (by decide))
    (dss_one (ds_ret (p := false) (de_lc (own := [("spot", 3)]) false rfl S.nd (di_range (by rfl) T.b_range (da_cons (de_EE (b2_ix ix_seq fun _ _ => rfl) sIx (de_val (pv 1)) de_int) da_nil)) (blkOk_by (own := [("spot", 3)]) (N := ["jug", "home", "few", "spot"]) (sc := defScope s_law_folk) (by decide +kernel)) (fun _ _ _ _ _ => (dg_name (pg_name (i := 3) S.nd rfl (by first | exact Or.inl rfl | exact Or.inr rfl)) (not_outK (by decide)))) (fun _ _ _ _ _ => dts_nil) (fun _ _ _ _ _ => (de_cal C_law_dip hr (by first | omega | exact Nat.le_refl _) hgd (by rfl) (dc_ref (pv 0) (dc_valF (p := false) (de_EE (b2_op opAdd) sAdd (de_val (pv 2)) de_int) dc_nil)))))))))
theorem sc_law_gone : FnScope ["jug", "home", "start", "most", "here", "moves", "rows", "k", "door", "side", "pair"] ["jug", "home", "start", "most"] (defScope s_law_gone) := ⟨rfl, rfl, rfl, by decide +kernel, rfl, by decide +kernel, by decide +kernel⟩
theorem ok_law_gone {a : Addr} {fd : FuncData} (G : Fun K "_law_gone" "_law_gone" s_law_gone a fd) (hm : mg "_law_gone" = some (.ref a)) (T : Txt mg) (C_law_dip : Cal P w K mg base 1 "_law_dip" s_law_dip ["jug", "many"] F_law_dip) : Cal P w K mg base 2 "_law_gone" s_law_gone ["jug", "home", "start", "most"] F_law_gone :=
  .mk' G hm (G.binds fun _ _ _ _ _ _ us hl => match us, hl with | [_, _, _, _], _ => rfl) (fn_data G sc_law_gone rfl rfl fun cdv A outer s H E hr hgd => by
    have S := sc_law_gone
    exact (dss_cons (ds_set (p := false) (i := 4) S.nd rfl (by first | exact Or.inl rfl | exact Or.inr rfl) (de_cb (cs_T call_list_of (by rfl) T.b_list (by decide +kernel)) sList (da_cons (de_val (pv 2)) da_nil)) (by decide))
    (dss_cons (ds_set (p := false) (i := 5) S.nd rfl (by first | exact Or.inl rfl | exact Or.inr rfl) (de_lst da_nil) (by decide))
    (dss_cons (ds_set (p := false) (i := 6) S.nd rfl (by first | exact Or.inl rfl | exact Or.inr rfl) (de_lst (da_cons (de_cb (cs_T call_list_of (by rfl) T.b_list (by decide +kernel)) sList (da_cons (de_val (pv 2)) da_nil)) da_nil)) (by decide))
    (dss_cons (ds_for (p := false) PassesOwn.never rfl (di_range (by rfl) T.b_range (da_cons (de_EE (b2_op opMul) sMul (de_cal C_law_dip hr (by first | omega | exact Nat.le_refl _) hgd (by rfl) (dc_ref (pv 0) (dc_valF (p := false) (de_EE (b2_op opAdd) sAdd (de_val (pv 3)) de_int) dc_nil))) (de_cb (cs_T call_int1 (by rfl) T.b_int (by decide +kernel)) sInt1 (da_cons (de_EE (b2_cmp (op_neD hr.units) (nomark _)) sNe (de_EE (b2_ix ix_seq fun _ _ => rfl) sIx (de_val (pv 1)) de_int) (de_lst da_nil)) da_nil))) da_nil)) (dg_fz (pg_name (i := 7) S.nd rfl (by first | exact Or.inl rfl | exact Or.inr rfl)) (by decide)) (dss_cons (ds_par (p := false) (i := 8) (j := 9) rfl S.nd rfl rfl (by decide) rfl rfl (da_cons (de_cal C_law_dip hr (by first | omega | exact Nat.le_refl _) hgd (by rfl) (dc_ref (pv 0) (dc_valF (p := false) (de_cb (cs_B call_len (by rfl) T.b_len (by decide +kernel)) sLen (da_cons (de_EE (b2_ix ix_seq fun _ _ => rfl) sIx (de_val (pv 1)) de_int) da_nil)) dc_nil))) (da_cons (de_cal C_law_dip hr (by first | omega | exact Nat.le_refl _) hgd (by rfl) (dc_ref (pv 0) (dc_valF (p := false) de_int dc_nil))) da_nil)) (by decide) (by decide) rfl)
    (dss_cons (ds_setF (p := false) (i := 10) S.nd rfl (by first | exact Or.inl rfl | exact Or.inr rfl) (de_EE (b2_ix ix_seq fun _ _ => rfl) sIx (de_EE (b2_ix ix_seq fun _ _ => rfl) sIx (de_val (pv 1)) de_int) (de_val (pv 8))) (by decide))
    (dss_cons (ds_if (p := false) (dt_BE (t2_cmp (op_eqD hr.units) (nomark _)) sEq (db_ix (db_name (pv 4)) (de_EE (b2_ix ix_seq fun _ _ => rfl) sIx (de_val (pv 10)) (de_val (pv 9))) fun _ _ => rfl) de_int) (dss_one (ds_setF (p := false) (i := 9) S.nd rfl (by first | exact Or.inl rfl | exact Or.inr rfl) (de_EE (b2_op op_sub) sI0 de_int (de_val (pv 9))) (by decide))) dss_nil)
    (dss_one (ds_if (p := false) (dt_BE (t2_cmp op_gt (nomark _)) sI0 (db_ix (db_name (pv 4)) (de_EE (b2_ix ix_seq fun _ _ => rfl) sIx (de_val (pv 10)) (de_val (pv 9))) fun _ _ => rfl) de_int) (dss_cons (ds_setix (p := false) (kf := false) (de_BE (b2_op op_sub) sI0 (db_ix (db_name (pv 4)) (de_EE (b2_ix ix_seq fun _ _ => rfl) sIx (de_val (pv 10)) (de_val (pv 9))) fun _ _ => rfl) de_int) (dm_name (pv 4)) (de_EE (b2_ix ix_seq fun _ _ => rfl) sIx (de_val (pv 10)) (de_val (pv 9))))
    (dss_cons (ds_setix (p := false) (kf := false) (de_BE (b2_op opAdd) sAdd (db_ix (db_name (pv 4)) (de_EE (b2_ix ix_seq fun _ _ => rfl) sIx (de_val (pv 10)) (de_EE (b2_op op_sub) sI0 de_int (de_val (pv 9)))) fun _ _ => rfl) de_int) (dm_name (pv 4)) (de_EE (b2_ix ix_seq fun _ _ => rfl) sIx (de_val (pv 10)) (de_EE (b2_op op_sub) sI0 de_int (de_val (pv 9)))))
    (dss_cons (ds_expr (p := false) (de_appN (p := false) (kf := false) (pv 5) (de_tup (da_cons (de_val (pv 8)) (da_cons (de_val (pv 9)) da_nil)))))
    (dss_one (ds_expr (p := false) (de_appN (p := false) (kf := false) (pv 6) (de_cbB (cs_T call_list_of (by rfl) T.b_list (by decide +kernel)) sList (dab_cons (db_name (pv 4)) dab_nil)))))))) dss_nil))))))
    (dss_one (ds_ret (p := false) (de_tup (da_cons (de_var (pv 5)) (da_cons (de_var (pv 6)) da_nil))))))))))
theorem sc_law_hidden : FnScope ["jug", "moves", "often", "door", "side"] ["jug", "moves"] (defScope s_law_hidden) := ⟨rfl, rfl, rfl, by decide +kernel, rfl, by decide +kernel, by decide +kernel⟩
theorem ok_law_hidden {a : Addr} {fd : FuncData} (G : Fun K "_law_hidden" "_law_hidden" s_law_hidden a fd) (hm : mg "_law_hidden" = some (.ref a)) (T : Txt mg) (C_law_dip : Cal P w K mg base 1 "_law_dip" s_law_dip ["jug", "many"] F_law_dip) : Cal P w K mg base 2 "_law_hidden" s_law_hidden ["jug", "moves"] F_law_hidden :=
  .mk' G hm (G.binds fun _ _ _ _ _ _ us hl => match us, hl with | [_, _], _ => rfl) (fn_data G sc_law_hidden rfl rfl fun cdv A outer s H E hr hgd => by
    have S := sc_law_hidden
    exact (dss_cons (ds_setF (p := false) (i := 2) S.nd rfl (by first | exact Or.inl rfl | exact Or.inr rfl) (de_EE (b2_ix ix_seq fun _ _ => rfl) sIx (de_lst (da_cons de_int (da_cons de_int (da_cons de_int da_nil)))) (de_cal C_law_dip hr (by first | omega | exact Nat.le_refl _) hgd (by rfl) (dc_ref (pv 0) (dc_valF (p := false) de_int dc_nil)))) (by decide))
    (dss_one (ds_ret (p := false) (de_lc (own := [("door", 3), ("side", 4)]) false rfl S.nd (di_seq (de_val (pv 1))) (blkOk_by (own := [("door", 3), ("side", 4)]) (N := ["jug", "moves", "often", "door", "side"]) (sc := defScope s_law_hidden) (by decide +kernel)) (fun _ _ _ _ _ => (dg_tup rfl (dgs_cons (dg_name (pg_name (i := 3) S.nd rfl (by first | exact Or.inl rfl | exact Or.inr rfl)) (not_outK (by decide))) (dgs_cons (dg_name (pg_name (i := 4) S.nd rfl (by first | exact Or.inl rfl | exact Or.inr rfl)) (not_outK (by decide))) dgs_nil)))) (fun _ _ _ _ _ => dts_nil) (fun _ _ _ _ _ => (de_tup (da_cons (de_val (pv 3)) (da_cons (de_if (dt_EE (t2_cmp (op_eqD hr.units) (nomark _)) sEq (de_cal C_law_dip hr (by first | omega | exact Nat.le_refl _) hgd (by rfl) (dc_ref (pv 0) (dc_valF (p := false) (de_val (pv 2)) dc_nil))) de_int) (de_val (pv 4)) (de_neg de_int)) da_nil)))))))))
theorem sc_law_look : FnScope ["jug", "home", "rows", "when", "spot", "number", "kind", "some"] ["jug", "home", "rows"] (defScope s_law_look) := ⟨rfl, rfl, rfl, by decide +kernel, rfl, by decide +kernel, by decide +kernel⟩
theorem ok_law_look {a : Addr} {fd : FuncData} (G : Fun K "_law_look" "_law_look" s_law_look a fd) (hm : mg "_law_look" = some (.ref a)) (T : Txt mg) (C_law_dip : Cal P w K mg base 1 "_law_dip" s_law_dip ["jug", "many"] F_law_dip) : Cal P w K mg base 2 "_law_look" s_law_look ["jug", "home", "rows"] F_law_look :=
  .mk' G hm (G.binds fun _ _ _ _ _ _ us hl => match us, hl with | [_, _, _], _ => rfl) (fn_data G sc_law_look rfl rfl fun cdv A outer s H E hr hgd => by
    have S := sc_law_look
    exact (dss_cons (ds_par (p := false) (i := 3) (j := 4) rfl S.nd rfl rfl (by decide) rfl rfl (da_cons (de_cal C_law_dip hr (by first | omega | exact Nat.le_refl _) hgd (by rfl) (dc_ref (pv 0) (dc_valF (p := false) (de_cb (cs_B call_len (by rfl) T.b_len (by decide +kernel)) sLen (da_cons (de_val (pv 2)) da_nil)) dc_nil))) (da_cons (de_cal C_law_dip hr (by first | omega | exact Nat.le_refl _) hgd (by rfl) (dc_ref (pv 0) (dc_valF (p := false) (de_EE (b2_ix ix_seq fun _ _ => rfl) sIx (de_val (pv 1)) de_int) dc_nil))) da_nil)) (by decide) (by decide) rfl)
    (dss_cons (ds_setF (p := false) (i := 5) S.nd rfl (by first | exact Or.inl rfl | exact Or.inr rfl) (de_EE (b2_ix ix_seq fun _ _ => rfl) sIx (de_EE (b2_ix ix_seq fun _ _ => rfl) sIx (de_val (pv 2)) (de_val (pv 3))) (de_val (pv 4))) (by decide))
    (dss_cons (ds_setF (p := false) (i := 6) S.nd rfl (by first | exact Or.inl rfl | exact Or.inr rfl) (de_cal C_law_dip hr (by first | omega | exact Nat.le_refl _) hgd (by rfl) (dc_ref (pv 0) (dc_valF (p := false) de_int dc_nil))) (by decide))
    (dss_cons (ds_if (p := false) (dt_EE (t2_cmp op_lt (nomark _)) sI0 (de_val (pv 6)) de_int) (dss_one (ds_ret (p := false) (de_tup (da_cons (de_val (pv 3)) (da_cons (de_val (pv 4)) (da_cons (de_EE (b2_op op_sub) sI0 (de_val (pv 5)) (de_cal C_law_dip hr (by first | omega | exact Nat.le_refl _) hgd (by rfl) (dc_ref (pv 0) (dc_valF (p := false) de_int dc_nil)))) (da_cons (de_EE (b2_op opAdd) sAdd (de_val (pv 5)) (de_cal C_law_dip hr (by first | omega | exact Nat.le_refl _) hgd (by rfl) (dc_ref (pv 0) (dc_valF (p := false) de_int dc_nil)))) da_nil))))))) dss_nil)
    (dss_cons (ds_if (p := false) (dt_EE (t2_cmp op_lt (nomark _)) sI0 (de_val (pv 6)) de_int) (dss_one (ds_ret (p := false) (de_tup (da_cons (de_val (pv 3)) (da_cons (de_val (pv 4)) (da_cons (de_EE (b2_op op_sub) sI0 (de_EE (b2_op opAdd) sAdd (de_val (pv 5)) de_int) (de_cal C_law_dip hr (by first | omega | exact Nat.le_refl _) hgd (by rfl) (dc_ref (pv 0) (dc_valF (p := false) de_int dc_nil)))) (da_cons (de_EE (b2_op opAdd) sAdd (de_val (pv 5)) de_int) da_nil))))))) dss_nil)
    (dss_cons (ds_setF (p := false) (i := 7) S.nd rfl (by first | exact Or.inl rfl | exact Or.inr rfl) (de_lst (da_cons (de_tup (da_cons de_int (da_cons de_int da_nil))) (da_cons (de_tup (da_cons de_int (da_cons (de_EE (b2_op opPow) sI de_int de_int) da_nil))) (da_cons (de_tup (da_cons (de_EE (b2_op op_sub) sI0 de_int (de_EE (b2_op opPow) sI de_int de_int)) (da_cons de_int da_nil))) (da_cons (de_tup (da_cons de_int (da_cons de_int da_nil))) (da_cons (de_tup (da_cons (de_neg de_int) (da_cons (de_neg de_int) da_nil))) (da_cons (de_tup (da_cons (de_EE (b2_op opPow) sI de_int de_int) (da_cons (de_EE (b2_op opPow) sI de_int de_int) da_nil))) da_nil))))))) (by decide))
    (dss_one (ds_ret (p := false) (de_EE (b2_op opAdd) sAdd (de_tup (da_cons (de_val (pv 3)) (da_cons (de_val (pv 4)) da_nil))) (de_EE (b2_ix ix_seq fun _ _ => rfl) sIx (de_val (pv 7)) (de_cal C_law_dip hr (by first | omega | exact Nat.le_refl _) hgd (by rfl) (dc_ref (pv 0) (dc_valF (p := false) de_int dc_nil))))))))))))))
theorem sc_law_stands : FnScope ["home", "start", "reel", "track", "rows", "k", "bead", "here", "pair", "look"] ["home", "start", "reel", "track"] (defScope s_law_stands) := ⟨rfl, rfl, rfl, by decide +kernel, rfl, by decide +kernel, by decide +kernel⟩
theorem ok_law_stands {a : Addr} {fd : FuncData} (G : Fun K "_law_stands" "_law_stands" s_law_stands a fd) (hm : mg "_law_stands" = some (.ref a)) (T : Txt mg)  : Cal P w K mg base 1 "_law_stands" s_law_stands ["home", "start", "reel", "track"] F_law_stands :=
  .mk' G hm (G.binds fun _ _ _ _ _ _ us hl => match us, hl with | [_, _, _, _], _ => rfl) (fn_data G sc_law_stands rfl rfl fun cdv A outer s H E hr hgd => by
    have S := sc_law_stands
    exact (dss_cons (ds_if (p := false) (dt_EE (t2_cmp (op_neD hr.units) (nomark _)) sNe (de_cb (cs_B call_len (by rfl) T.b_len (by decide +kernel)) sLen (da_cons (de_val (pv 3)) da_nil)) (de_cb (cs_B call_len (by rfl) T.b_len (by decide +kernel)) sLen (da_cons (de_EE (b2_ix ix_seq fun _ _ => rfl) sIx (de_val (pv 2)) de_int) da_nil))) (dss_one (ds_ret (p := false) de_bl)) dss_nil)
    (dss_cons (ds_set (p := false) (i := 4) S.nd rfl (by first | exact Or.inl rfl | exact Or.inr rfl) (de_lst (da_cons (de_cb (cs_T call_list_of (by rfl) T.b_list (by decide +kernel)) sList (da_cons (de_val (pv 1)) da_nil)) da_nil)) (by decide))
    (dss_cons (ds_for (p := false) PassesOwn.never rfl (di_enum (by rfl) T.b_enumerate (da_cons (de_EE (b2_ix ix_seq fun _ _ => rfl) sIx (de_val (pv 2)) de_int) da_nil)) (dg_tup rfl (dgs_cons (dg_fz (pg_name (i := 5) S.nd rfl (by first | exact Or.inl rfl | exact Or.inr rfl)) (by decide)) (dgs_cons (dg_fz (pg_name (i := 6) S.nd rfl (by first | exact Or.inl rfl | exact Or.inr rfl)) (by decide)) dgs_nil))) (dss_cons (ds_if (p := false) (DW.dt (dw_or (dt_EE (t2_cmp op_notIn_seq (by rfl)) sIn (de_EE (b2_ix ix_seq fun _ _ => rfl) sIx (de_val (pv 3)) (de_val (pv 5))) (de_lst (da_cons de_int (da_cons de_int da_nil)))) (dw_or1 (dt_EE (t2_cmp op_notIn_seq (by rfl)) sIn (de_EE (b2_ix ix_seq fun _ _ => rfl) sIx (de_val (pv 6)) de_int) (de_lst (da_cons (de_neg de_int) (da_cons (de_EE (b2_ix ix_seq fun _ _ => rfl) sIx (de_val (pv 3)) (de_val (pv 5))) da_nil))))))) (dss_one (ds_ret (p := false) de_bl)) dss_nil)
    (dss_cons (ds_set (p := false) (i := 7) S.nd rfl (by first | exact Or.inl rfl | exact Or.inr rfl) (de_cbB (cs_T call_list_of (by rfl) T.b_list (by decide +kernel)) sList (dab_cons (db_ix (db_name (pv 4)) (de_val (pv 5)) fun _ _ => rfl) dab_nil)) (by decide))
    (dss_cons (ds_setF (p := false) (i := 8) S.nd rfl (by first | exact Or.inl rfl | exact Or.inr rfl) (de_EE (b2_ix ix_seq fun _ _ => rfl) sIx (de_EE (b2_ix ix_seq fun _ _ => rfl) sIx (de_val (pv 0)) de_int) (de_EE (b2_ix ix_seq fun _ _ => rfl) sIx (de_val (pv 6)) de_int)) (by decide))
    (dss_cons (ds_setix (p := false) (kf := false) (de_BE (b2_op op_sub) sI0 (db_ix (db_name (pv 7)) (de_EE (b2_ix ix_seq fun _ _ => rfl) sIx (de_val (pv 8)) (de_EE (b2_ix ix_seq fun _ _ => rfl) sIx (de_val (pv 3)) (de_val (pv 5)))) fun _ _ => rfl) de_int) (dm_name (pv 7)) (de_EE (b2_ix ix_seq fun _ _ => rfl) sIx (de_val (pv 8)) (de_EE (b2_ix ix_seq fun _ _ => rfl) sIx (de_val (pv 3)) (de_val (pv 5)))))
    (dss_cons (ds_setix (p := false) (kf := false) (de_BE (b2_op opAdd) sAdd (db_ix (db_name (pv 7)) (de_EE (b2_ix ix_seq fun _ _ => rfl) sIx (de_val (pv 8)) (de_EE (b2_op op_sub) sI0 de_int (de_EE (b2_ix ix_seq fun _ _ => rfl) sIx (de_val (pv 3)) (de_val (pv 5))))) fun _ _ => rfl) de_int) (dm_name (pv 7)) (de_EE (b2_ix ix_seq fun _ _ => rfl) sIx (de_val (pv 8)) (de_EE (b2_op op_sub) sI0 de_int (de_EE (b2_ix ix_seq fun _ _ => rfl) sIx (de_val (pv 3)) (de_val (pv 5))))))
    (dss_cons (ds_if (p := false) (dt_EE (t2_cmp op_lt (nomark _)) sI0 (de_cbB (cs_B (cr_min rfl) (by rfl) T.b_min (by decide +kernel)) sMinL (dab_cons (db_name (pv 7)) dab_nil)) de_int) (dss_one (ds_ret (p := false) de_bl)) dss_nil)
    (dss_one (ds_expr (p := false) (de_appN (p := false) (kf := false) (pv 4) (de_var (pv 7))))))))))))
    (dss_one (ds_ret (p := false) (de_EE (b2_cmp (op_eqD hr.units) (nomark _)) sEq (de_lc (own := [("look", 9)]) false rfl S.nd (di_seq (de_EE (b2_ix ix_seq fun _ _ => rfl) sIx (de_val (pv 2)) de_int)) (blkOk_by (own := [("look", 9)]) (N := ["home", "start", "reel", "track", "rows", "k", "bead", "here", "pair", "look"]) (sc := defScope s_law_stands) (by decide +kernel)) (fun _ _ _ _ _ => (dg_name (pg_name (i := 9) S.nd rfl (by first | exact Or.inl rfl | exact Or.inr rfl)) (not_outK (by decide)))) (fun _ _ _ _ _ => (dts_one (dt_not (dt_chain op_le sI0 op_le sI0 (de_EE (b2_ix ix_seq fun _ _ => rfl) sIx (de_val (pv 9)) de_int) (de_BE (b2_ix ix_seq fun _ _ => rfl) sIx (db_ix (db_name (pv 4)) (de_EE (b2_ix ix_seq fun _ _ => rfl) sIx (de_val (pv 9)) de_int) fun _ _ => rfl) (de_EE (b2_ix ix_seq fun _ _ => rfl) sIx (de_val (pv 9)) de_int)) (de_EE (b2_ix ix_seq fun _ _ => rfl) sIx (de_val (pv 9)) de_int))))) (fun _ _ _ _ _ => (de_val (pv 9)))) (de_lst da_nil))))))))
theorem sc_law_outs : FnScope ["home", "start", "reel", "spot", "when", "count", "here", "top", "halves", "bead", "look"] ["home", "start", "reel", "spot", "when"] (defScope s_law_outs) := ⟨rfl, rfl, rfl, by decide +kernel, rfl, by decide +kernel, by decide +kernel⟩
theorem ok_law_outs {a : Addr} {fd : FuncData} (G : Fun K "_law_outs" "_law_outs" s_law_outs a fd) (hm : mg "_law_outs" = some (.ref a)) (T : Txt mg)  : Cal P w K mg base 1 "_law_outs" s_law_outs ["home", "start", "reel", "spot", "when"] F_law_outs :=
  .mk' G hm (G.binds fun _ _ _ _ _ _ us hl => match us, hl with | [_, _, _, _, _], _ => rfl) (fn_data G sc_law_outs rfl rfl fun cdv A outer s H E hr hgd => by
    have S := sc_law_outs
    exact (dss_cons (ds_if (p := false) (dt_EE (t2_cmp (op_eqD hr.units) (nomark _)) sEq (de_val (pv 4)) de_int) (dss_one (ds_ret (p := false) (de_lst (da_cons de_int (da_cons de_int da_nil))))) dss_nil)
    (dss_cons (ds_setF (p := false) (i := 5) S.nd rfl (by first | exact Or.inl rfl | exact Or.inr rfl) (de_EE (b2_op opAdd) sAdd (de_EE (b2_ix ix_seq fun _ _ => rfl) sIx (de_val (pv 1)) (de_val (pv 3))) (de_cb (cs_B call_len (by rfl) T.b_len (by decide +kernel)) sLen (da_cons (de_lc (own := [("bead", 9)]) false rfl S.nd (di_seq (de_slice (de_EE (b2_ix ix_seq fun _ _ => rfl) sIx (de_val (pv 2)) de_int) do_no (do_so (de_val (pv 4))))) (blkOk_by (own := [("bead", 9)]) (N := ["home", "start", "reel", "spot", "when", "count", "here", "top", "halves", "bead", "look"]) (sc := defScope s_law_outs) (by decide +kernel)) (fun _ _ _ _ _ => (dg_name (pg_name (i := 9) S.nd rfl (by first | exact Or.inl rfl | exact Or.inr rfl)) (not_outK (by decide)))) (fun _ _ _ _ _ => (dts_one (dt_EE (t2_cmp op_in_seq (by rfl)) sIn (de_val (pv 3)) (de_EE (b2_ix ix_seq fun _ _ => rfl) sIx (de_EE (b2_ix ix_seq fun _ _ => rfl) sIx (de_val (pv 0)) de_int) (de_EE (b2_ix ix_seq fun _ _ => rfl) sIx (de_val (pv 9)) de_int))))) (fun _ _ _ _ _ => (de_val (pv 9)))) da_nil))) (by decide))
    (dss_cons (ds_setLcF (i := 6) (own := [("look", 10)]) false rfl S.nd rfl rfl (by decide) (sw_true rfl rfl rfl (by decide +kernel)) (di_seq (de_EE (b2_ix ix_seq fun _ _ => rfl) sIx (de_val (pv 2)) de_int)) (blkOk_by (own := [("look", 10)]) (N := ["home", "start", "reel", "spot", "when", "count", "here", "top", "halves", "bead", "look"]) (sc := defScope s_law_outs) (by decide +kernel)) (fun _ _ _ _ _ => (dg_name (pg_name (i := 10) S.nd rfl (by first | exact Or.inl rfl | exact Or.inr rfl)) (not_outK (by decide)))) (fun _ _ _ _ _ => (dts_one (DW.dt (dw_and (dt_EE (t2_cmp (op_eqD hr.units) (nomark _)) sEq (de_EE (b2_ix ix_seq fun _ _ => rfl) sIx (de_val (pv 10)) de_int) (de_val (pv 4))) (dw_and1 (dt_EE (t2_cmp (op_eqD hr.units) (nomark _)) sEq (de_EE (b2_ix ix_seq fun _ _ => rfl) sIx (de_val (pv 10)) de_int) (de_val (pv 3)))))))) (fun _ _ _ _ _ => (de_val (pv 10))))
    (dss_cons (ds_setF (p := false) (i := 7) S.nd rfl (by first | exact Or.inl rfl | exact Or.inr rfl) (de_EE (b2_op op_sub) sI0 (de_val (pv 5)) (de_cb (cs_B (cr_max rfl) (by rfl) T.b_max (by decide +kernel)) sMaxL (da_cons (de_EE (b2_op opAdd) sAdd (de_lst (da_cons de_int da_nil)) (de_lc (own := [("look", 10)]) false rfl S.nd (di_seq (de_val (pv 6))) (blkOk_by (own := [("look", 10)]) (N := ["home", "start", "reel", "spot", "when", "count", "here", "top", "halves", "bead", "look"]) (sc := defScope s_law_outs) (by decide +kernel)) (fun _ _ _ _ _ => (dg_name (pg_name (i := 10) S.nd rfl (by first | exact Or.inl rfl | exact Or.inr rfl)) (not_outK (by decide)))) (fun _ _ _ _ _ => dts_nil) (fun _ _ _ _ _ => (de_EE (b2_ix ix_seq fun _ _ => rfl) sIx (de_val (pv 10)) de_int)))) da_nil))) (by decide))
    (dss_cons (ds_setLcF (i := 8) (own := [("look", 10)]) false rfl S.nd rfl rfl (by decide) (sw_true rfl rfl rfl (by decide +kernel)) (di_seq (de_val (pv 6))) (blkOk_by (own := [("look", 10)]) (N := ["home", "start", "reel", "spot", "when", "count", "here", "top", "halves", "bead", "look"]) (sc := defScope s_law_outs) (by decide +kernel)) (fun _ _ _ _ _ => (dg_name (pg_name (i := 10) S.nd rfl (by first | exact Or.inl rfl | exact Or.inr rfl)) (not_outK (by decide)))) (fun _ _ _ _ _ => dts_nil) (fun _ _ _ _ _ => (de_EE (b2_op op_fdivW) sI (de_EE (b2_op opAdd) sAdd (de_EE (b2_op op_sub) sI0 (de_val (pv 5)) (de_EE (b2_ix ix_seq fun _ _ => rfl) sIx (de_val (pv 10)) de_int)) (de_EE (b2_op op_mod) sI (de_EE (b2_op op_sub) sI0 (de_val (pv 5)) (de_EE (b2_ix ix_seq fun _ _ => rfl) sIx (de_val (pv 10)) de_int)) de_int)) de_int)))
    (dss_one (ds_ret (p := false) (de_lst (da_cons (de_cb (cs_B (cr_max rfl) (by rfl) T.b_max (by decide +kernel)) sMaxL (da_cons (de_EE (b2_op opAdd) sAdd (de_lst (da_cons de_int da_nil)) (de_val (pv 8))) da_nil)) (da_cons (de_EE (b2_op op_fdivW) sI (de_EE (b2_op op_sub) sI0 (de_val (pv 7)) (de_EE (b2_op op_mod) sI (de_val (pv 7)) de_int)) de_int) da_nil)))))))))))
theorem sc_law_are_stretches : FnScope ["home", "reel", "rows", "many", "bad", "row", "k"] ["home", "reel", "rows"] (defScope s_law_are_stretches) := ⟨rfl, rfl, rfl, by decide +kernel, rfl, by decide +kernel, by decide +kernel⟩
theorem ok_law_are_stretches {a : Addr} {fd : FuncData} (G : Fun K "_law_are_stretches" "_law_are_stretches" s_law_are_stretches a fd) (hm : mg "_law_are_stretches" = some (.ref a)) (T : Txt mg)  : Cal P w K mg base 1 "_law_are_stretches" s_law_are_stretches ["home", "reel", "rows"] F_law_are_stretches :=
  .mk' G hm (G.binds fun _ _ _ _ _ _ us hl => match us, hl with | [_, _, _], _ => rfl) (fn_data G sc_law_are_stretches rfl rfl fun cdv A outer s H E hr hgd => by
    have S := sc_law_are_stretches
    exact (dss_cons (ds_setF (p := false) (i := 3) S.nd rfl (by first | exact Or.inl rfl | exact Or.inr rfl) (de_cb (cs_B call_len (by rfl) T.b_len (by decide +kernel)) sLen (da_cons (de_EE (b2_ix ix_seq fun _ _ => rfl) sIx (de_val (pv 1)) de_int) da_nil)) (by decide))
    (dss_cons (ds_setLcF (i := 4) (own := [("row", 5)]) false rfl S.nd rfl rfl (by decide) (sw_true rfl rfl rfl (by decide +kernel)) (di_seq (de_val (pv 2))) (blkOk_by (own := [("row", 5)]) (N := ["home", "reel", "rows", "many", "bad", "row", "k"]) (sc := defScope s_law_are_stretches) (by decide +kernel)) (fun _ _ _ _ _ => (dg_name (pg_name (i := 5) S.nd rfl (by first | exact Or.inl rfl | exact Or.inr rfl)) (not_outK (by decide)))) (fun _ _ _ _ _ => (dts_one (DW.dt (dw_or (dt_not (dt_chain op_le sI0 op_lt sI0 de_int (de_EE (b2_ix ix_seq fun _ _ => rfl) sIx (de_val (pv 5)) de_int) (de_EE (b2_ix ix_seq fun _ _ => rfl) sIx (de_val (pv 0)) de_int))) (dw_or1 (dt_not (dt_chain3 op_le sI0 op_le sI0 op_le sI0 de_int (de_EE (b2_ix ix_seq fun _ _ => rfl) sIx (de_val (pv 5)) de_int) (de_EE (b2_ix ix_seq fun _ _ => rfl) sIx (de_val (pv 5)) de_int) (de_val (pv 3))))))))) (fun _ _ _ _ _ => (de_val (pv 5))))
    (dss_cons (ds_if (p := false) (DW.dt (dw_or (dt_EE (t2_cmp (op_neD hr.units) (nomark _)) sNe (de_val (pv 4)) (de_lst da_nil)) (dw_or1 (dt_EE (t2_cmp (op_neD hr.units) (nomark _)) sNe (de_val (pv 2)) (de_cb (cs_B (cr_sortedDat hr.units) (by rfl) T.b_sorted (by decide +kernel)) sSortedD (da_cons (de_val (pv 2)) da_nil)))))) (dss_one (ds_ret (p := false) de_bl)) dss_nil)
    (dss_one (ds_ret (p := false) (de_EE (b2_cmp (op_eqD hr.units) (nomark _)) sEq (de_lc (own := [("k", 6)]) false rfl S.nd (di_range2 (by rfl) T.b_range (da_cons de_int (da_cons (de_cb (cs_B call_len (by rfl) T.b_len (by decide +kernel)) sLen (da_cons (de_val (pv 2)) da_nil)) da_nil))) (blkOk_by (own := [("k", 6)]) (N := ["home", "reel", "rows", "many", "bad", "row", "k"]) (sc := defScope s_law_are_stretches) (by decide +kernel)) (fun _ _ _ _ _ => (dg_name (pg_name (i := 6) S.nd rfl (by first | exact Or.inl rfl | exact Or.inr rfl)) (not_outK (by decide)))) (fun _ _ _ _ _ => (dts_one (DW.dt (dw_and (dt_EE (t2_cmp (op_eqD hr.units) (nomark _)) sEq (de_EE (b2_ix ix_seq fun _ _ => rfl) sIx (de_EE (b2_ix ix_seq fun _ _ => rfl) sIx (de_val (pv 2)) (de_val (pv 6))) de_int) (de_EE (b2_ix ix_seq fun _ _ => rfl) sIx (de_EE (b2_ix ix_seq fun _ _ => rfl) sIx (de_val (pv 2)) (de_EE (b2_op op_sub) sI0 (de_val (pv 6)) de_int)) de_int)) (dw_and1 (dt_EE (t2_cmp op_lt (nomark _)) sI0 (de_EE (b2_op op_sub) sI0 (de_EE (b2_ix ix_seq fun _ _ => rfl) sIx (de_EE (b2_ix ix_seq fun _ _ => rfl) sIx (de_val (pv 2)) (de_val (pv 6))) de_int) (de_EE (b2_ix ix_seq fun _ _ => rfl) sIx (de_EE (b2_ix ix_seq fun _ _ => rfl) sIx (de_val (pv 2)) (de_EE (b2_op op_sub) sI0 (de_val (pv 6)) de_int)) de_int)) de_int)))))) (fun _ _ _ _ _ => (de_val (pv 6)))) (de_lst da_nil))))))))
theorem sc_law_looked_wrong : FnScope ["home", "start", "reel", "when", "spot", "wrong", "outs", "look"] ["home", "start", "reel", "when", "spot"] (defScope s_law_looked_wrong) := ⟨rfl, rfl, rfl, by decide +kernel, rfl, by decide +kernel, by decide +kernel⟩
theorem ok_law_looked_wrong {a : Addr} {fd : FuncData} (G : Fun K "_law_looked_wrong" "_law_looked_wrong" s_law_looked_wrong a fd) (hm : mg "_law_looked_wrong" = some (.ref a)) (T : Txt mg) (C_law_outs : Cal P w K mg base 1 "_law_outs" s_law_outs ["home", "start", "reel", "spot", "when"] F_law_outs) : Cal P w K mg base 2 "_law_looked_wrong" s_law_looked_wrong ["home", "start", "reel", "when", "spot"] F_law_looked_wrong :=
  .mk' G hm (G.binds fun _ _ _ _ _ _ us hl => match us, hl with | [_, _, _, _, _], _ => rfl) (fn_data G sc_law_looked_wrong rfl rfl fun cdv A outer s H E hr hgd => by
    have S := sc_law_looked_wrong
    exact (dss_cons (ds_if (p := false) (DW.dt (dw_or (dt_not (dt_chain op_le sI0 op_le sI0 de_int (de_val (pv 3)) (de_cb (cs_B call_len (by rfl) T.b_len (by decide +kernel)) sLen (da_cons (de_EE (b2_ix ix_seq fun _ _ => rfl) sIx (de_val (pv 2)) de_int) da_nil)))) (dw_or1 (dt_not (dt_chain op_le sI0 op_lt sI0 de_int (de_val (pv 4)) (de_EE (b2_ix ix_seq fun _ _ => rfl) sIx (de_val (pv 0)) de_int)))))) (dss_one (ds_ret (p := false) de_bl)) dss_nil)
    (dss_cons (ds_setLcF (i := 5) (own := [("look", 7)]) false rfl S.nd rfl rfl (by decide) (sw_true rfl rfl rfl (by decide +kernel)) (di_seq (de_EE (b2_ix ix_seq fun _ _ => rfl) sIx (de_val (pv 2)) de_int)) (blkOk_by (own := [("look", 7)]) (N := ["home", "start", "reel", "when", "spot", "wrong", "outs", "look"]) (sc := defScope s_law_looked_wrong) (by decide +kernel)) (fun _ _ _ _ _ => (dg_name (pg_name (i := 7) S.nd rfl (by first | exact Or.inl rfl | exact Or.inr rfl)) (not_outK (by decide)))) (fun _ _ _ _ _ => (dts_one (DW.dt (dw_and (dt_EE (t2_cmp (op_eqD hr.units) (nomark _)) sEq (de_slice (de_val (pv 7)) do_no (do_so de_int)) (de_tup (da_cons de_int (da_cons (de_val (pv 4)) da_nil)))) (dw_and1 (dt_not (dt_chain op_le sI0 op_le sI0 (de_EE (b2_ix ix_seq fun _ _ => rfl) sIx (de_val (pv 7)) de_int) (de_EE (b2_ix ix_seq fun _ _ => rfl) sIx (de_val (pv 1)) (de_val (pv 4))) (de_EE (b2_ix ix_seq fun _ _ => rfl) sIx (de_val (pv 7)) de_int)))))))) (fun _ _ _ _ _ => (de_val (pv 7))))
    (dss_cons (ds_setF (p := false) (i := 6) S.nd rfl (by first | exact Or.inl rfl | exact Or.inr rfl) (de_cal C_law_outs hr (by first | omega | exact Nat.le_refl _) hgd (by rfl) (dc_valF (p := false) (de_val (pv 0)) (dc_valF (p := false) (de_val (pv 1)) (dc_valF (p := false) (de_val (pv 2)) (dc_valF (p := false) (de_val (pv 4)) (dc_valF (p := false) (de_val (pv 3)) dc_nil)))))) (by decide))
    (dss_one (ds_ret (p := false) (de_or (de_EE (b2_cmp op_gt (nomark _)) sI0 (de_EE (b2_ix ix_seq fun _ _ => rfl) sIx (de_val (pv 6)) de_int) (de_EE (b2_ix ix_seq fun _ _ => rfl) sIx (de_val (pv 6)) de_int)) (de_one (de_and (de_EE (b2_cmp (op_eqD hr.units) (nomark _)) sEq (de_val (pv 3)) de_int) (de_one (de_EE (b2_cmp (op_neD hr.units) (nomark _)) sNe (de_val (pv 5)) (de_lst da_nil))))))))))))
theorem sc_law_shown : FnScope ["home", "start", "reel", "sheet", "bound", "loose", "need", "top", "k", "bead", "rooms", "over", "hit", "spot", "begun", "last", "ahead", "behind", "row"] ["home", "start", "reel", "sheet"] (defScope s_law_shown) := ⟨rfl, rfl, rfl, by decide +kernel, rfl, by decide +kernel, by decide +kernel⟩
theorem ok_law_shown {a : Addr} {fd : FuncData} (G : Fun K "_law_shown" "_law_shown" s_law_shown a fd) (hm : mg "_law_shown" = some (.ref a)) (T : Txt mg) (C_law_looked_wrong : Cal P w K mg base 2 "_law_looked_wrong" s_law_looked_wrong ["home", "start", "reel", "when", "spot"] F_law_looked_wrong) (C_law_are_stretches : Cal P w K mg base 1 "_law_are_stretches" s_law_are_stretches ["home", "reel", "rows"] F_law_are_stretches) (C_law_outs : Cal P w K mg base 1 "_law_outs" s_law_outs ["home", "start", "reel", "spot", "when"] F_law_outs) : Cal P w K mg base 3 "_law_shown" s_law_shown ["home", "start", "reel", "sheet"] F_law_shown :=
  .mk' G hm (G.binds fun _ _ _ _ _ _ us hl => match us, hl with | [_, _, _, _], _ => rfl) (fn_data G sc_law_shown rfl rfl fun cdv A outer s H E hr hgd => by
    have S := sc_law_shown
    exact (dss_cons (ds_if (p := false) (dt_EE (t2_cmp (op_eqD hr.units) (nomark _)) sEq (de_EE (b2_ix ix_seq fun _ _ => rfl) sIx (de_val (pv 3)) de_int) de_str) (dss_one (ds_ret (p := false) (de_cal C_law_looked_wrong hr (by first | omega | exact Nat.le_refl _) hgd (by rfl) (dc_valF (p := false) (de_val (pv 0)) (dc_valF (p := false) (de_val (pv 1)) (dc_valF (p := false) (de_val (pv 2)) (dc_valF (p := false) (de_EE (b2_ix ix_seq fun _ _ => rfl) sIx (de_val (pv 3)) de_int) (dc_valF (p := false) (de_EE (b2_ix ix_seq fun _ _ => rfl) sIx (de_val (pv 3)) de_int) dc_nil)))))))) dss_nil)
    (dss_cons (ds_if (p := false) (dt_not (dt_tru (de_cal C_law_are_stretches hr (by first | omega | exact Nat.le_refl _) hgd (by rfl) (dc_valF (p := false) (de_val (pv 0)) (dc_valF (p := false) (de_val (pv 2)) (dc_valF (p := false) (de_EE (b2_ix ix_seq fun _ _ => rfl) sIx (de_val (pv 3)) de_int) dc_nil)))) fun _ => rfl)) (dss_one (ds_ret (p := false) de_bl)) dss_nil)
    (dss_cons (ds_asg (p := false) (de_tup (da_cons de_int (da_cons de_int (da_cons de_int (da_cons de_int da_nil))))) (dg_tup rfl (dgs_cons (dg_fz (pg_name (i := 4) S.nd rfl (by first | exact Or.inl rfl | exact Or.inr rfl)) (by decide)) (dgs_cons (dg_fz (pg_name (i := 5) S.nd rfl (by first | exact Or.inl rfl | exact Or.inr rfl)) (by decide)) (dgs_cons (dg_fz (pg_name (i := 6) S.nd rfl (by first | exact Or.inl rfl | exact Or.inr rfl)) (by decide)) (dgs_cons (dg_fz (pg_name (i := 7) S.nd rfl (by first | exact Or.inl rfl | exact Or.inr rfl)) (by decide)) dgs_nil))))))
    (dss_cons (ds_for (p := false) PassesOwn.never rfl (di_enum (by rfl) T.b_enumerate (da_cons (de_EE (b2_ix ix_seq fun _ _ => rfl) sIx (de_val (pv 2)) de_int) da_nil)) (dg_tup rfl (dgs_cons (dg_fz (pg_name (i := 8) S.nd rfl (by first | exact Or.inl rfl | exact Or.inr rfl)) (by decide)) (dgs_cons (dg_fz (pg_name (i := 9) S.nd rfl (by first | exact Or.inl rfl | exact Or.inr rfl)) (by decide)) dgs_nil))) (dss_cons (ds_setF (p := false) (i := 10) S.nd rfl (by first | exact Or.inl rfl | exact Or.inr rfl) (de_if (dt_EE (t2_cmp (op_eqD hr.units) (nomark _)) sEq (de_EE (b2_ix ix_seq fun _ _ => rfl) sIx (de_val (pv 9)) de_int) (de_neg de_int)) (de_cb (cs_T call_list_of (by rfl) T.b_list (by decide +kernel)) sList (da_cons (de_EE (b2_ix ix_seq fun _ _ => rfl) sIx (de_EE (b2_ix ix_seq fun _ _ => rfl) sIx (de_val (pv 0)) de_int) (de_EE (b2_ix ix_seq fun _ _ => rfl) sIx (de_val (pv 9)) de_int)) da_nil)) (de_lst (da_cons (de_EE (b2_ix ix_seq fun _ _ => rfl) sIx (de_EE (b2_ix ix_seq fun _ _ => rfl) sIx (de_EE (b2_ix ix_seq fun _ _ => rfl) sIx (de_val (pv 0)) de_int) (de_EE (b2_ix ix_seq fun _ _ => rfl) sIx (de_val (pv 9)) de_int)) (de_EE (b2_ix ix_seq fun _ _ => rfl) sIx (de_val (pv 9)) de_int)) da_nil))) (by decide))
    (dss_cons (ds_setF (p := false) (i := 11) S.nd rfl (by first | exact Or.inl rfl | exact Or.inr rfl) (de_lc (own := [("row", 18)]) false rfl S.nd (di_seq (de_EE (b2_ix ix_seq fun _ _ => rfl) sIx (de_val (pv 3)) de_int)) (blkOk_by (own := [("row", 18)]) (N := ["home", "start", "reel", "sheet", "bound", "loose", "need", "top", "k", "bead", "rooms", "over", "hit", "spot", "begun", "last", "ahead", "behind", "row"]) (sc := defScope s_law_shown) (by decide +kernel)) (fun _ _ _ _ _ => (dg_name (pg_name (i := 18) S.nd rfl (by first | exact Or.inl rfl | exact Or.inr rfl)) (not_outK (by decide)))) (fun _ _ _ _ _ => (dts_one (dt_chain op_le sI0 op_le sI0 (de_EE (b2_ix ix_seq fun _ _ => rfl) sIx (de_val (pv 18)) de_int) (de_EE (b2_op opAdd) sAdd (de_val (pv 8)) de_int) (de_EE (b2_ix ix_seq fun _ _ => rfl) sIx (de_val (pv 18)) de_int)))) (fun _ _ _ _ _ => (de_EE (b2_ix ix_seq fun _ _ => rfl) sIx (de_val (pv 18)) de_int))) (by decide))
    (dss_cons (ds_setLcF (i := 12) (own := [("spot", 13)]) false rfl S.nd rfl rfl (by decide) (sw_true rfl rfl rfl (by decide +kernel)) (di_seq (de_val (pv 10))) (blkOk_by (own := [("spot", 13)]) (N := ["home", "start", "reel", "sheet", "bound", "loose", "need", "top", "k", "bead", "rooms", "over", "hit", "spot", "begun", "last", "ahead", "behind", "row"]) (sc := defScope s_law_shown) (by decide +kernel)) (fun _ _ _ _ _ => (dg_name (pg_name (i := 13) S.nd rfl (by first | exact Or.inl rfl | exact Or.inr rfl)) (not_outK (by decide)))) (fun _ _ _ _ _ => (dts_one (dt_EE (t2_cmp op_in_seq (by rfl)) sIn (de_val (pv 13)) (de_val (pv 11))))) (fun _ _ _ _ _ => (de_val (pv 13))))
    (dss_cons (ds_setF (p := false) (i := 4) S.nd rfl (by first | exact Or.inl rfl | exact Or.inr rfl) (de_EE (b2_op opAdd) sAdd (de_val (pv 4)) (de_cb (cs_T call_int1 (by rfl) T.b_int (by decide +kernel)) sInt1 (da_cons (de_EE (b2_cmp (op_eqD hr.units) (nomark _)) sEq (de_val (pv 12)) (de_val (pv 10))) da_nil))) (by decide))
    (dss_one (ds_setF (p := false) (i := 5) S.nd rfl (by first | exact Or.inl rfl | exact Or.inr rfl) (de_EE (b2_op opAdd) sAdd (de_val (pv 5)) (de_cb (cs_T call_int1 (by rfl) T.b_int (by decide +kernel)) sInt1 (da_cons (de_EE (b2_cmp (op_neD hr.units) (nomark _)) sNe (de_val (pv 12)) (de_lst da_nil)) da_nil))) (by decide))))))))
    (dss_cons (ds_for (p := false) PassesOwn.never rfl (di_seq (de_EE (b2_ix ix_seq fun _ _ => rfl) sIx (de_val (pv 3)) de_int)) (dg_tup rfl (dgs_cons (dg_fz (pg_name (i := 13) S.nd rfl (by first | exact Or.inl rfl | exact Or.inr rfl)) (by decide)) (dgs_cons (dg_fz (pg_name (i := 14) S.nd rfl (by first | exact Or.inl rfl | exact Or.inr rfl)) (by decide)) (dgs_cons (dg_fz (pg_name (i := 15) S.nd rfl (by first | exact Or.inl rfl | exact Or.inr rfl)) (by decide)) dgs_nil)))) (dss_cons (ds_par (p := false) (i := 16) (j := 17) rfl S.nd rfl rfl (by decide) rfl rfl (da_cons (de_cal C_law_outs hr (by first | omega | exact Nat.le_refl _) hgd (by rfl) (dc_valF (p := false) (de_val (pv 0)) (dc_valF (p := false) (de_val (pv 1)) (dc_valF (p := false) (de_val (pv 2)) (dc_valF (p := false) (de_val (pv 13)) (dc_valF (p := false) (de_EE (b2_op op_sub) sI0 (de_val (pv 14)) de_int) dc_nil)))))) (da_cons (de_cal C_law_outs hr (by first | omega | exact Nat.le_refl _) hgd (by rfl) (dc_valF (p := false) (de_val (pv 0)) (dc_valF (p := false) (de_val (pv 1)) (dc_valF (p := false) (de_val (pv 2)) (dc_valF (p := false) (de_val (pv 13)) (dc_valF (p := false) (de_val (pv 15)) dc_nil)))))) da_nil)) (by decide) (by decide) rfl)
    (dss_cons (ds_setF (p := false) (i := 7) S.nd rfl (by first | exact Or.inl rfl | exact Or.inr rfl) (de_EE (b2_op op_sub) sI0 (de_EE (b2_op opAdd) sAdd (de_val (pv 7)) (de_EE (b2_ix ix_seq fun _ _ => rfl) sIx (de_val (pv 17)) de_int)) (de_EE (b2_ix ix_seq fun _ _ => rfl) sIx (de_val (pv 16)) de_int)) (by decide))
    (dss_one (ds_setF (p := false) (i := 6) S.nd rfl (by first | exact Or.inl rfl | exact Or.inr rfl) (de_EE (b2_op op_sub) sI0 (de_EE (b2_op opAdd) sAdd (de_val (pv 6)) (de_EE (b2_ix ix_seq fun _ _ => rfl) sIx (de_val (pv 17)) de_int)) (de_EE (b2_ix ix_seq fun _ _ => rfl) sIx (de_val (pv 16)) de_int)) (by decide))))))
    (dss_one (ds_ret (p := false) (de_if (dt_EE (t2_cmp (op_eqD hr.units) (nomark _)) sEq (de_EE (b2_ix ix_seq fun _ _ => rfl) sIx (de_val (pv 3)) de_int) de_str) (de_EE (b2_cmp op_gt (nomark _)) sI0 (de_val (pv 4)) (de_val (pv 7))) (de_EE (b2_cmp op_lt (nomark _)) sI0 (de_val (pv 5)) (de_val (pv 6))))))))))))
theorem sc_law_seen_right : FnScope ["jug", "home", "rows", "when", "spot", "number"] ["jug", "home", "rows"] (defScope s_law_seen_right) := ⟨rfl, rfl, rfl, by decide +kernel, rfl, by decide +kernel, by decide +kernel⟩
theorem ok_law_seen_right {a : Addr} {fd : FuncData} (G : Fun K "_law_seen_right" "_law_seen_right" s_law_seen_right a fd) (hm : mg "_law_seen_right" = some (.ref a)) (T : Txt mg) (C_law_dip : Cal P w K mg base 1 "_law_dip" s_law_dip ["jug", "many"] F_law_dip) : Cal P w K mg base 2 "_law_seen_right" s_law_seen_right ["jug", "home", "rows"] F_law_seen_right :=
  .mk' G hm (G.binds fun _ _ _ _ _ _ us hl => match us, hl with | [_, _, _], _ => rfl) (fn_data G sc_law_seen_right rfl rfl fun cdv A outer s H E hr hgd => by
    have S := sc_law_seen_right
    exact (dss_cons (ds_par (p := false) (i := 3) (j := 4) rfl S.nd rfl rfl (by decide) rfl rfl (da_cons (de_cal C_law_dip hr (by first | omega | exact Nat.le_refl _) hgd (by rfl) (dc_ref (pv 0) (dc_valF (p := false) (de_cb (cs_B call_len (by rfl) T.b_len (by decide +kernel)) sLen (da_cons (de_val (pv 2)) da_nil)) dc_nil))) (da_cons (de_cal C_law_dip hr (by first | omega | exact Nat.le_refl _) hgd (by rfl) (dc_ref (pv 0) (dc_valF (p := false) (de_EE (b2_ix ix_seq fun _ _ => rfl) sIx (de_val (pv 1)) de_int) dc_nil))) da_nil)) (by decide) (by decide) rfl)
    (dss_cons (ds_setF (p := false) (i := 5) S.nd rfl (by first | exact Or.inl rfl | exact Or.inr rfl) (de_EE (b2_ix ix_seq fun _ _ => rfl) sIx (de_EE (b2_ix ix_seq fun _ _ => rfl) sIx (de_val (pv 2)) (de_val (pv 3))) (de_val (pv 4))) (by decide))
    (dss_one (ds_ret (p := false) (de_tup (da_cons (de_val (pv 3)) (da_cons (de_val (pv 4)) (da_cons (de_EE (b2_op op_sub) sI0 (de_val (pv 5)) (de_cal C_law_dip hr (by first | omega | exact Nat.le_refl _) hgd (by rfl) (dc_ref (pv 0) (dc_valF (p := false) de_int dc_nil)))) (da_cons (de_EE (b2_op opAdd) sAdd (de_val (pv 5)) (de_cal C_law_dip hr (by first | omega | exact Nat.le_refl _) hgd (by rfl) (dc_ref (pv 0) (dc_valF (p := false) de_int dc_nil)))) da_nil))))))))))
theorem sc_law_late : FnScope ["jug", "many"] ["jug", "many"] (defScope s_law_late) := ⟨rfl, rfl, rfl, by decide +kernel, rfl, by decide +kernel, by decide +kernel⟩
theorem ok_law_late {a : Addr} {fd : FuncData} (G : Fun K "_law_late" "_law_late" s_law_late a fd) (hm : mg "_law_late" = some (.ref a)) (T : Txt mg) (C_law_dip : Cal P w K mg base 1 "_law_dip" s_law_dip ["jug", "many"] F_law_dip) : Cal P w K mg base 2 "_law_late" s_law_late ["jug", "many"] F_law_late :=
  .mk' G hm (G.binds fun _ _ _ _ _ _ us hl => match us, hl with | [_, _], _ => rfl) (fn_data G sc_law_late rfl rfl fun cdv A outer s H E hr hgd => by
    have S := sc_law_late
    exact (dss_one (ds_ret (p := false) (de_cb (cs_B (call_max2 rfl) (by rfl) T.b_max (by decide +kernel)) sI2 (da_cons de_int (da_cons (de_EE (b2_op op_sub) sI0 (de_EE (b2_op op_sub) sI0 (de_val (pv 1)) de_int) (de_cal C_law_dip hr (by first | omega | exact Nat.le_refl _) hgd (by rfl) (dc_ref (pv 0) (dc_valF (p := false) (de_EE (b2_ix ix_seq fun _ _ => rfl) sIx (de_lst (da_cons de_int (da_cons de_int (da_cons (de_val (pv 1)) da_nil)))) (de_cal C_law_dip hr (by first | omega | exact Nat.le_refl _) hgd (by rfl) (dc_ref (pv 0) (dc_valF (p := false) de_int dc_nil)))) dc_nil)))) da_nil))))))
theorem sc_law_track_bent : FnScope ["jug", "track", "at", "kind", "side"] ["jug", "track"] (defScope s_law_track_bent) := ⟨rfl, rfl, rfl, by decide +kernel, rfl, by decide +kernel, by decide +kernel⟩
theorem ok_law_track_bent {a : Addr} {fd : FuncData} (G : Fun K "_law_track_bent" "_law_track_bent" s_law_track_bent a fd) (hm : mg "_law_track_bent" = some (.ref a)) (T : Txt mg) (C_law_late : Cal P w K mg base 2 "_law_late" s_law_late ["jug", "many"] F_law_late) (C_law_dip : Cal P w K mg base 1 "_law_dip" s_law_dip ["jug", "many"] F_law_dip) : Cal P w K mg base 3 "_law_track_bent" s_law_track_bent ["jug", "track"] F_law_track_bent :=
  .mk' G hm (G.binds fun _ _ _ _ _ _ us hl => match us, hl with | [_, _], _ => rfl) (fn_data G sc_law_track_bent rfl rfl fun cdv A outer s H E hr hgd => by
    have S := sc_law_track_bent
    exact (dss_cons (ds_setF (p := false) (i := 2) S.nd rfl (by first | exact Or.inl rfl | exact Or.inr rfl) (de_cal C_law_late hr (by first | omega | exact Nat.le_refl _) hgd (by rfl) (dc_ref (pv 0) (dc_valF (p := false) (de_cb (cs_B call_len (by rfl) T.b_len (by decide +kernel)) sLen (da_cons (de_val (pv 1)) da_nil)) dc_nil))) (by decide))
    (dss_cons (ds_setF (p := false) (i := 3) S.nd rfl (by first | exact Or.inl rfl | exact Or.inr rfl) (de_cal C_law_dip hr (by first | omega | exact Nat.le_refl _) hgd (by rfl) (dc_ref (pv 0) (dc_valF (p := false) de_int dc_nil))) (by decide))
    (dss_cons (ds_if (p := false) (dt_EE (t2_cmp (op_eqD hr.units) (nomark _)) sEq (de_val (pv 3)) de_int) (dss_one (ds_ret (p := false) (de_EE (b2_op opAdd) sAdd (de_EE (b2_op opAdd) sAdd (de_slice (de_val (pv 1)) do_no (do_so (de_val (pv 2)))) (de_lst (da_cons (de_EE (b2_op op_sub) sI0 de_int (de_EE (b2_ix ix_seq fun _ _ => rfl) sIx (de_val (pv 1)) (de_val (pv 2)))) da_nil))) (de_slice (de_val (pv 1)) (do_so (de_EE (b2_op opAdd) sAdd (de_val (pv 2)) de_int)) do_no)))) dss_nil)
    (dss_cons (ds_if (p := false) (dt_EE (t2_cmp (op_eqD hr.units) (nomark _)) sEq (de_val (pv 3)) de_int) (dss_one (ds_ret (p := false) (de_EE (b2_op opAdd) sAdd (de_EE (b2_op opAdd) sAdd (de_slice (de_val (pv 1)) do_no (do_so (de_val (pv 2)))) (de_rev (de_slice (de_val (pv 1)) (do_so (de_val (pv 2))) (do_so (de_EE (b2_op opAdd) sAdd (de_val (pv 2)) de_int))))) (de_slice (de_val (pv 1)) (do_so (de_EE (b2_op opAdd) sAdd (de_val (pv 2)) de_int)) do_no)))) dss_nil)
    (dss_one (ds_ret (p := false) (de_EE (b2_op opAdd) sAdd (de_slice (de_val (pv 1)) do_no (do_so (de_val (pv 2)))) (de_lc (own := [("side", 4)]) false rfl S.nd (di_seq (de_slice (de_val (pv 1)) (do_so (de_val (pv 2))) do_no)) (blkOk_by (own := [("side", 4)]) (N := ["jug", "track", "at", "kind", "side"]) (sc := defScope s_law_track_bent) (by decide +kernel)) (fun _ _ _ _ _ => (dg_name (pg_name (i := 4) S.nd rfl (by first | exact Or.inl rfl | exact Or.inr rfl)) (not_outK (by decide)))) (fun _ _ _ _ _ => dts_nil) (fun _ _ _ _ _ => (de_EE (b2_op op_sub) sI0 de_int (de_val (pv 4)))))))))))))
theorem sc_law_drawn : FnScope ["jug", "home", "many", "rows", "spot", "begun"] ["jug", "home", "many"] (defScope s_law_drawn) := ⟨rfl, rfl, rfl, by decide +kernel, rfl, by decide +kernel, by decide +kernel⟩
theorem ok_law_drawn {a : Addr} {fd : FuncData} (G : Fun K "_law_drawn" "_law_drawn" s_law_drawn a fd) (hm : mg "_law_drawn" = some (.ref a)) (T : Txt mg) (C_law_dip : Cal P w K mg base 1 "_law_dip" s_law_dip ["jug", "many"] F_law_dip) (C_law_late : Cal P w K mg base 2 "_law_late" s_law_late ["jug", "many"] F_law_late) : Cal P w K mg base 3 "_law_drawn" s_law_drawn ["jug", "home", "many"] F_law_drawn :=
  .mk' G hm (G.binds fun _ _ _ _ _ _ us hl => match us, hl with | [_, _, _], _ => rfl) (fn_data G sc_law_drawn rfl rfl fun cdv A outer s H E hr hgd => by
    have S := sc_law_drawn
    exact (dss_cons (ds_set (p := false) (i := 3) S.nd rfl (by first | exact Or.inl rfl | exact Or.inr rfl) (de_lst da_nil) (by decide))
    (dss_cons (ds_for (p := false) PassesOwn.never rfl (di_range (by rfl) T.b_range (da_cons (de_EE (b2_ix ix_seq fun _ _ => rfl) sIx (de_val (pv 1)) de_int) da_nil)) (dg_fz (pg_name (i := 4) S.nd rfl (by first | exact Or.inl rfl | exact Or.inr rfl)) (by decide)) (dss_one (ds_if (p := false) (dt_EE (t2_cmp op_gt (nomark _)) sI0 (de_cal C_law_dip hr (by first | omega | exact Nat.le_refl _) hgd (by rfl) (dc_ref (pv 0) (dc_valF (p := false) de_int dc_nil))) de_int) (dss_cons (ds_setF (p := false) (i := 5) S.nd rfl (by first | exact Or.inl rfl | exact Or.inr rfl) (de_EE (b2_op opAdd) sAdd de_int (de_cal C_law_dip hr (by first | omega | exact Nat.le_refl _) hgd (by rfl) (dc_ref (pv 0) (dc_valF (p := false) (de_EE (b2_ix ix_seq fun _ _ => rfl) sIx (de_lst (da_cons de_int (da_cons (de_val (pv 2)) da_nil))) (de_cal C_law_dip hr (by first | omega | exact Nat.le_refl _) hgd (by rfl) (dc_ref (pv 0) (dc_valF (p := false) de_int dc_nil)))) dc_nil)))) (by decide))
    (dss_one (ds_expr (p := false) (de_appN (p := false) (kf := false) (pv 3) (de_tup (da_cons (de_val (pv 4)) (da_cons (de_val (pv 5)) (da_cons (de_EE (b2_op opAdd) sAdd (de_val (pv 5)) (de_cal C_law_late hr (by first | omega | exact Nat.le_refl _) hgd (by rfl) (dc_ref (pv 0) (dc_valF (p := false) (de_EE (b2_op opAdd) sAdd (de_EE (b2_op op_sub) sI0 (de_val (pv 2)) (de_val (pv 5))) de_int) dc_nil)))) da_nil)))))))) dss_nil)))
    (dss_one (ds_ret (p := false) (de_move (pv 3)))))))
theorem sc_law_right : FnScope ["jug", "home", "start", "reel", "tracks", "one", "sheets", "word", "sheet", "look"] ["jug", "home", "start", "reel", "tracks"] (defScope s_law_right) := ⟨rfl, rfl, rfl, by decide +kernel, rfl, by decide +kernel, by decide +kernel⟩
theorem ok_law_right {a : Addr} {fd : FuncData} (G : Fun K "_law_right" "_law_right" s_law_right a fd) (hm : mg "_law_right" = some (.ref a)) (T : Txt mg) (C_story_right : Cal P w K mg base 1 "story_right" s_story_right ["house", "begin", "tape", "ways"] F_story_right) (C_law_stands : Cal P w K mg base 1 "_law_stands" s_law_stands ["home", "start", "reel", "track"] F_law_stands) (C_law_drawn : Cal P w K mg base 3 "_law_drawn" s_law_drawn ["jug", "home", "many"] F_law_drawn) (C_paper_right : Cal P w K mg base 4 "paper_right" s_paper_right ["house", "begin", "tape", "paper"] F_paper_right) (C_law_shown : Cal P w K mg base 3 "_law_shown" s_law_shown ["home", "start", "reel", "sheet"] F_law_shown) : Cal P w K mg base 5 "_law_right" s_law_right ["jug", "home", "start", "reel", "tracks"] F_law_right :=
  .mk' G hm (G.binds fun _ _ _ _ _ _ us hl => match us, hl with | [_, _, _, _, _], _ => rfl) (fn_data G sc_law_right rfl rfl fun cdv A outer s H E hr hgd => by
    have S := sc_law_right
    exact (dss_cons (ds_for (p := false) PassesOwn.never rfl (di_seq (de_val (pv 4))) (dg_fz (pg_name (i := 5) S.nd rfl (by first | exact Or.inl rfl | exact Or.inr rfl)) (by decide)) (dss_one (ds_if (p := false) (dt_EE (t2_cmp (op_neD hr.units) (nomark _)) sNe (de_cal C_story_right hr (by first | omega | exact Nat.le_refl _) hgd (by rfl) (dc_valF (p := false) (de_val (pv 1)) (dc_valF (p := false) (de_val (pv 2)) (dc_valF (p := false) (de_val (pv 3)) (dc_valF (p := false) (de_val (pv 5)) dc_nil))))) (de_cal C_law_stands hr (by first | omega | exact Nat.le_refl _) hgd (by rfl) (dc_valF (p := false) (de_val (pv 1)) (dc_valF (p := false) (de_val (pv 2)) (dc_valF (p := false) (de_val (pv 3)) (dc_valF (p := false) (de_val (pv 5)) dc_nil)))))) (dss_one (ds_ret (p := false) de_bl)) dss_nil)))
    (dss_cons (ds_setLc (i := 6) (own := [("look", 9)]) false rfl S.nd rfl rfl (by decide) (sw_true rfl rfl rfl (by decide +kernel)) (di_seq (de_EE (b2_ix ix_seq fun _ _ => rfl) sIx (de_val (pv 3)) de_int)) (blkOk_by (own := [("look", 9)]) (N := ["jug", "home", "start", "reel", "tracks", "one", "sheets", "word", "sheet", "look"]) (sc := defScope s_law_right) (by decide +kernel)) (fun _ _ _ _ _ => (dg_name (pg_name (i := 9) S.nd rfl (by first | exact Or.inl rfl | exact Or.inr rfl)) (not_outK (by decide)))) (fun _ _ _ _ _ => dts_nil) (fun _ _ _ _ _ => (de_tup (da_cons de_str (da_cons (de_EE (b2_ix ix_seq fun _ _ => rfl) sIx (de_val (pv 9)) de_int) (da_cons (de_EE (b2_ix ix_seq fun _ _ => rfl) sIx (de_val (pv 9)) de_int) da_nil))))))
    (dss_cons (ds_for (p := false) PassesOwn.never rfl (di_seq (de_lst (da_cons de_str (da_cons de_str da_nil)))) (dg_fz (pg_name (i := 7) S.nd rfl (by first | exact Or.inl rfl | exact Or.inr rfl)) (by decide)) (dss_one (ds_expr (p := false) (de_appN (p := false) (kf := false) (pv 6) (de_tup (da_cons (de_val (pv 7)) (da_cons (de_cal C_law_drawn hr (by first | omega | exact Nat.le_refl _) hgd (by rfl) (dc_ref (pv 0) (dc_valF (p := false) (de_val (pv 1)) (dc_valF (p := false) (de_cb (cs_B call_len (by rfl) T.b_len (by decide +kernel)) sLen (da_cons (de_EE (b2_ix ix_seq fun _ _ => rfl) sIx (de_val (pv 3)) de_int) da_nil)) dc_nil)))) da_nil)))))))
    (dss_cons (ds_for (p := false) PassesOwn.never rfl (di_seq (de_var (pv 6))) (dg_fz (pg_name (i := 8) S.nd rfl (by first | exact Or.inl rfl | exact Or.inr rfl)) (by decide)) (dss_one (ds_if (p := false) (dt_EE (t2_cmp (op_neD hr.units) (nomark _)) sNe (de_cal C_paper_right hr (by first | omega | exact Nat.le_refl _) hgd (by rfl) (dc_valF (p := false) (de_val (pv 1)) (dc_valF (p := false) (de_val (pv 2)) (dc_valF (p := false) (de_val (pv 3)) (dc_valF (p := false) (de_val (pv 8)) dc_nil))))) (de_cal C_law_shown hr (by first | omega | exact Nat.le_refl _) hgd (by rfl) (dc_valF (p := false) (de_val (pv 1)) (dc_valF (p := false) (de_val (pv 2)) (dc_valF (p := false) (de_val (pv 3)) (dc_valF (p := false) (de_val (pv 8)) dc_nil)))))) (dss_one (ds_ret (p := false) de_bl)) dss_nil)))
    (dss_one (ds_ret (p := false) de_bl)))))))
theorem sc_law : FnScope ["script", "k", "jug", "home", "start", "moves", "rows", "looks", "beads", "track", "turn", "bent", "tracks", "near", "door", "side", "again"] ["script"] (defScope s_law) := ⟨rfl, rfl, rfl, by decide +kernel, rfl, by decide +kernel, by decide +kernel⟩
theorem ok_law_fn {a : Addr} {fd : FuncData} (G : Fun K "law" "law" s_law a fd) (T : Txt mg) (C_law_jug : Cal P w K mg base 1 "_law_jug" s_law_jug ["script", "k"] F_law_jug) (C_law_house : Cal P w K mg base 2 "_law_house" s_law_house ["jug", "most", "more"] F_law_house) (C_law_folk : Cal P w K mg base 2 "_law_folk" s_law_folk ["jug", "home"] F_law_folk) (C_law_gone : Cal P w K mg base 2 "_law_gone" s_law_gone ["jug", "home", "start", "most"] F_law_gone) (C_law_dip : Cal P w K mg base 1 "_law_dip" s_law_dip ["jug", "many"] F_law_dip) (C_law_seen_right : Cal P w K mg base 2 "_law_seen_right" s_law_seen_right ["jug", "home", "rows"] F_law_seen_right) (C_law_hidden : Cal P w K mg base 2 "_law_hidden" s_law_hidden ["jug", "moves"] F_law_hidden) (C_law_track_bent : Cal P w K mg base 3 "_law_track_bent" s_law_track_bent ["jug", "track"] F_law_track_bent) (C_law_look : Cal P w K mg base 2 "_law_look" s_law_look ["jug", "home", "rows"] F_law_look) (C_law_right : Cal P w K mg base 5 "_law_right" s_law_right ["jug", "home", "start", "reel", "tracks"] F_law_right) : FnG P w K mg base CX0 6 a fd ["script"] (spD K F_law) :=
  fn_data G sc_law rfl rfl fun cdv A outer s H E hr hgd => by
    have S := sc_law
    exact (dss_cons (ds_for (p := false) PassesOwn.never rfl (di_range (by rfl) T.b_range (da_cons (de_cb (cs_B (call_max2 rfl) (by rfl) T.b_max (by decide +kernel)) sI2 (da_cons de_int (da_cons (de_cb (cs_B (call_min2 rfl) (by rfl) T.b_min (by decide +kernel)) sI2 (da_cons de_int (da_cons (de_cb (cs_B call_len (by rfl) T.b_len (by decide +kernel)) sLen (da_cons (de_val (pv 0)) da_nil)) da_nil))) da_nil))) da_nil)) (dg_fz (pg_name (i := 1) S.nd rfl (by first | exact Or.inl rfl | exact Or.inr rfl)) (by decide)) (dss_cons (ds_set (p := false) (i := 2) S.nd rfl (by first | exact Or.inl rfl | exact Or.inr rfl) (de_cal C_law_jug hr (by first | omega | exact Nat.le_refl _) hgd (by rfl) (dc_valF (p := false) (de_val (pv 0)) (dc_valF (p := false) (de_val (pv 1)) dc_nil))) (by decide))
    (dss_cons (ds_setF (p := false) (i := 3) S.nd rfl (by first | exact Or.inl rfl | exact Or.inr rfl) (de_cal C_law_house hr (by first | omega | exact Nat.le_refl _) hgd (by rfl) (dc_ref (pv 2) (dc_valF (p := false) de_int (dc_valF (p := false) de_int dc_nil)))) (by decide))
    (dss_cons (ds_setF (p := false) (i := 4) S.nd rfl (by first | exact Or.inl rfl | exact Or.inr rfl) (de_cal C_law_folk hr (by first | omega | exact Nat.le_refl _) hgd (by rfl) (dc_ref (pv 2) (dc_valF (p := false) (de_val (pv 3)) dc_nil))) (by decide))
    (dss_cons (ds_asg (p := false) (de_cal C_law_gone hr (by first | omega | exact Nat.le_refl _) hgd (by rfl) (dc_ref (pv 2) (dc_valF (p := false) (de_val (pv 3)) (dc_valF (p := false) (de_val (pv 4)) (dc_valF (p := false) de_int dc_nil))))) (dg_tup rfl (dgs_cons (dg_fz (pg_name (i := 5) S.nd rfl (by first | exact Or.inl rfl | exact Or.inr rfl)) (by decide)) (dgs_cons (dg_fz (pg_name (i := 6) S.nd rfl (by first | exact Or.inl rfl | exact Or.inr rfl)) (by decide)) dgs_nil))))
    (dss_cons (ds_setLcF (i := 7) (own := [("turn", 10)]) false rfl S.nd rfl rfl (by decide) (sw_true rfl rfl rfl (by decide +kernel)) (di_range (by rfl) T.b_range (da_cons (de_cal C_law_dip hr (by first | omega | exact Nat.le_refl _) hgd (by rfl) (dc_ref (pv 2) (dc_valF (p := false) de_int dc_nil))) da_nil)) (blkOk_by (own := [("turn", 10)]) (N := ["script", "k", "jug", "home", "start", "moves", "rows", "looks", "beads", "track", "turn", "bent", "tracks", "near", "door", "side", "again"]) (sc := defScope s_law) (by decide +kernel)) (fun _ _ _ _ _ => (dg_name (pg_name (i := 10) S.nd rfl (by first | exact Or.inl rfl | exact Or.inr rfl)) (not_outK (by decide)))) (fun _ _ _ _ _ => dts_nil) (fun _ _ _ _ _ => (de_cal C_law_seen_right hr (by first | omega | exact Nat.le_refl _) hgd (by rfl) (dc_ref (pv 2) (dc_valF (p := false) (de_val (pv 3)) (dc_valF (p := false) (de_val (pv 6)) dc_nil))))))
    (dss_cons (ds_setF (p := false) (i := 8) S.nd rfl (by first | exact Or.inl rfl | exact Or.inr rfl) (de_cal C_law_hidden hr (by first | omega | exact Nat.le_refl _) hgd (by rfl) (dc_ref (pv 2) (dc_valF (p := false) (de_val (pv 5)) dc_nil))) (by decide))
    (dss_cons (ds_setLcF (i := 9) (own := [("door", 14), ("side", 15)]) false rfl S.nd rfl rfl (by decide) (sw_true rfl rfl rfl (by decide +kernel)) (di_seq (de_val (pv 5))) (blkOk_by (own := [("door", 14), ("side", 15)]) (N := ["script", "k", "jug", "home", "start", "moves", "rows", "looks", "beads", "track", "turn", "bent", "tracks", "near", "door", "side", "again"]) (sc := defScope s_law) (by decide +kernel)) (fun _ _ _ _ _ => (dg_tup rfl (dgs_cons (dg_name (pg_name (i := 14) S.nd rfl (by first | exact Or.inl rfl | exact Or.inr rfl)) (not_outK (by decide))) (dgs_cons (dg_name (pg_name (i := 15) S.nd rfl (by first | exact Or.inl rfl | exact Or.inr rfl)) (not_outK (by decide))) dgs_nil)))) (fun _ _ _ _ _ => dts_nil) (fun _ _ _ _ _ => (de_val (pv 15))))
    (dss_one (ds_for (p := false) PassesOwn.never rfl (di_range (by rfl) T.b_range (da_cons (de_EE (b2_op opMul) sMul de_int (de_cb (cs_T call_int1 (by rfl) T.b_int (by decide +kernel)) sInt1 (da_cons (de_EE (b2_cmp (op_neD hr.units) (nomark _)) sNe (de_val (pv 9)) (de_lst da_nil)) da_nil))) da_nil)) (dg_fz (pg_name (i := 10) S.nd rfl (by first | exact Or.inl rfl | exact Or.inr rfl)) (by decide)) (dss_cons (ds_setF (p := false) (i := 11) S.nd rfl (by first | exact Or.inl rfl | exact Or.inr rfl) (de_cal C_law_track_bent hr (by first | omega | exact Nat.le_refl _) hgd (by rfl) (dc_ref (pv 2) (dc_valF (p := false) (de_val (pv 9)) dc_nil))) (by decide))
    (dss_cons (ds_setF (p := false) (i := 12) S.nd rfl (by first | exact Or.inl rfl | exact Or.inr rfl) (de_lst (da_cons (de_val (pv 9)) (da_cons (de_val (pv 11)) (da_cons (de_cal C_law_track_bent hr (by first | omega | exact Nat.le_refl _) hgd (by rfl) (dc_ref (pv 2) (dc_valF (p := false) (de_val (pv 11)) dc_nil))) da_nil)))) (by decide))
    (dss_cons (ds_setLcF (i := 13) (own := [("again", 16)]) false rfl S.nd rfl rfl (by decide) (sw_true rfl rfl rfl (by decide +kernel)) (di_range (by rfl) T.b_range (da_cons (de_EE (b2_op opMul) sMul (de_cal C_law_dip hr (by first | omega | exact Nat.le_refl _) hgd (by rfl) (dc_ref (pv 2) (dc_valF (p := false) de_int dc_nil))) (de_EE (b2_op op_fdivW) sI (de_val (pv 10)) de_int)) da_nil)) (blkOk_by (own := [("again", 16)]) (N := ["script", "k", "jug", "home", "start", "moves", "rows", "looks", "beads", "track", "turn", "bent", "tracks", "near", "door", "side", "again"]) (sc := defScope s_law) (by decide +kernel)) (fun _ _ _ _ _ => (dg_name (pg_name (i := 16) S.nd rfl (by first | exact Or.inl rfl | exact Or.inr rfl)) (not_outK (by decide)))) (fun _ _ _ _ _ => dts_nil) (fun _ _ _ _ _ => (de_cal C_law_look hr (by first | omega | exact Nat.le_refl _) hgd (by rfl) (dc_ref (pv 2) (dc_valF (p := false) (de_val (pv 3)) (dc_valF (p := false) (de_val (pv 6)) dc_nil))))))
    (dss_one (ds_if (p := false) (dt_not (dt_tru (de_cal C_law_right hr (by first | omega | exact Nat.le_refl _) hgd (by rfl) (dc_ref (pv 2) (dc_valF (p := false) (de_val (pv 3)) (dc_valF (p := false) (de_val (pv 4)) (dc_valF (p := false) (de_tup (da_cons (de_val (pv 8)) (da_cons (de_EE (b2_op opAdd) sAdd (de_val (pv 7)) (de_val (pv 13))) da_nil))) (dc_valF (p := false) (de_val (pv 12)) dc_nil)))))) fun _ => rfl)) (dss_one (ds_ret (p := false) de_bl)) dss_nil)))))))))))))))
    (dss_one (ds_ret (p := false) de_bl)))
end
theorem all_mk {l : PySem.W.OpenLaw} {w : World} {K : PySem.W.Frag} {h : Heap} {mg : Str → Option Value} {fa : Addr} (X : K.In h) (G : h.Ns mainGlobals mg) (hfa : mg "law" = some (.ref fa))
    {f1 f2 f3 f4 f5 f6 f7 f8 f9 f10 f11 f12 f13 f14 f15 f16 f17 f18 f19 f20 f21 f22 f23 f24 f25 f26 f27 f28 f29 : Addr} {od1 od2 od3 od4 od5 od6 od7 od8 od9 od10 od11 od12 od13 od14 od15 od16 od17 od18 od19 od20 od21 od22 od23 od24 od25 od26 od27 od28 od29 an1 an2 an3 an4 an5 an6 an7 an8 an9 an10 an11 an12 an13 an14 an15 an16 an17 an18 an19 an20 an21 an22 an23 an24 an25 an26 an27 an28 an29 : Option Addr} {sl1 sl2 sl3 sl4 sl5 sl6 sl7 sl8 sl9 sl10 sl11 sl12 sl13 sl14 sl15 sl16 sl17 sl18 sl19 sl20 sl21 sl22 sl23 sl24 sl25 sl26 sl27 sl28 sl29 : Array (Option Value)} {oc1 kV1 dc1 pm1 cd1 ct1 oc2 kV2 dc2 pm2 cd2 ct2 oc3 kV3 dc3 pm3 cd3 ct3 oc4 kV4 dc4 pm4 cd4 ct4 oc5 kV5 dc5 pm5 cd5 ct5 oc6 kV6 dc6 pm6 cd6 ct6 oc7 kV7 dc7 pm7 cd7 ct7 oc8 kV8 dc8 pm8 cd8 ct8 oc9 kV9 dc9 pm9 cd9 ct9 oc10 kV10 dc10 pm10 cd10 ct10 oc11 kV11 dc11 pm11 cd11 ct11 oc12 kV12 dc12 pm12 cd12 ct12 oc13 kV13 dc13 pm13 cd13 ct13 oc14 kV14 dc14 pm14 cd14 ct14 oc15 kV15 dc15 pm15 cd15 ct15 oc16 kV16 dc16 pm16 cd16 ct16 oc17 kV17 dc17 pm17 cd17 ct17 oc18 kV18 dc18 pm18 cd18 ct18 oc19 kV19 dc19 pm19 cd19 ct19 oc20 kV20 dc20 pm20 cd20 ct20 oc21 kV21 dc21 pm21 cd21 ct21 oc22 kV22 dc22 pm22 cd22 ct22 oc23 kV23 dc23 pm23 cd23 ct23 oc24 kV24 dc24 pm24 cd24 ct24 oc25 kV25 dc25 pm25 cd25 ct25 oc26 kV26 dc26 pm26 cd26 ct26 oc27 kV27 dc27 pm27 cd27 ct27 oc28 kV28 dc28 pm28 cd28 ct28 oc29 kV29 dc29 pm29 cd29 ct29 : Value}
    (a1 : PySem.W.nsIn K mainGlobals "met_by" = some (some (.ref f1))) (l1 : K.lookup f1 = some ⟨oc1, od1, .func (PySem.W.fnOf "met_by" "met_by" (defArgs s_met_by) (defBody s_met_by) (defScope s_met_by) .none kV1 dc1 pm1 an1 cd1 ct1), sl1⟩) (c1 : PySem.W.codeIn K cd1 "met_by" = true) (k1 : PySem.W.keepIn K (.ref f1) = true)
    (a2 : PySem.W.nsIn K mainGlobals "looks_at" = some (some (.ref f2))) (l2 : K.lookup f2 = some ⟨oc2, od2, .func (PySem.W.fnOf "looks_at" "looks_at" (defArgs s_looks_at) (defBody s_looks_at) (defScope s_looks_at) .none kV2 dc2 pm2 an2 cd2 ct2), sl2⟩) (c2 : PySem.W.codeIn K cd2 "looks_at" = true) (k2 : PySem.W.keepIn K (.ref f2) = true)
    (a3 : PySem.W.nsIn K mainGlobals "most_out" = some (some (.ref f3))) (l3 : K.lookup f3 = some ⟨oc3, od3, .func (PySem.W.fnOf "most_out" "most_out" (defArgs s_most_out) (defBody s_most_out) (defScope s_most_out) .none kV3 dc3 pm3 an3 cd3 ct3), sl3⟩) (c3 : PySem.W.codeIn K cd3 "most_out" = true) (k3 : PySem.W.keepIn K (.ref f3) = true)
    (a4 : PySem.W.nsIn K mainGlobals "least_out" = some (some (.ref f4))) (l4 : K.lookup f4 = some ⟨oc4, od4, .func (PySem.W.fnOf "least_out" "least_out" (defArgs s_least_out) (defBody s_least_out) (defScope s_least_out) .none kV4 dc4 pm4 an4 cd4 ct4), sl4⟩) (c4 : PySem.W.codeIn K cd4 "least_out" = true) (k4 : PySem.W.keepIn K (.ref f4) = true)
    (a5 : PySem.W.nsIn K mainGlobals "may_leave" = some (some (.ref f5))) (l5 : K.lookup f5 = some ⟨oc5, od5, .func (PySem.W.fnOf "may_leave" "may_leave" (defArgs s_may_leave) (defBody s_may_leave) (defScope s_may_leave) .none kV5 dc5 pm5 an5 cd5 ct5), sl5⟩) (c5 : PySem.W.codeIn K cd5 "may_leave" = true) (k5 : PySem.W.keepIn K (.ref f5) = true)
    (a6 : PySem.W.nsIn K mainGlobals "look_wrong" = some (some (.ref f6))) (l6 : K.lookup f6 = some ⟨oc6, od6, .func (PySem.W.fnOf "look_wrong" "look_wrong" (defArgs s_look_wrong) (defBody s_look_wrong) (defScope s_look_wrong) .none kV6 dc6 pm6 an6 cd6 ct6), sl6⟩) (c6 : PySem.W.codeIn K cd6 "look_wrong" = true) (k6 : PySem.W.keepIn K (.ref f6) = true)
    (a7 : PySem.W.nsIn K mainGlobals "story_right" = some (some (.ref f7))) (l7 : K.lookup f7 = some ⟨oc7, od7, .func (PySem.W.fnOf "story_right" "story_right" (defArgs s_story_right) (defBody s_story_right) (defScope s_story_right) .none kV7 dc7 pm7 an7 cd7 ct7), sl7⟩) (c7 : PySem.W.codeIn K cd7 "story_right" = true) (k7 : PySem.W.keepIn K (.ref f7) = true)
    (a8 : PySem.W.nsIn K mainGlobals "are_stretches" = some (some (.ref f8))) (l8 : K.lookup f8 = some ⟨oc8, od8, .func (PySem.W.fnOf "are_stretches" "are_stretches" (defArgs s_are_stretches) (defBody s_are_stretches) (defScope s_are_stretches) .none kV8 dc8 pm8 an8 cd8 ct8), sl8⟩) (c8 : PySem.W.codeIn K cd8 "are_stretches" = true) (k8 : PySem.W.keepIn K (.ref f8) = true)
    (a9 : PySem.W.nsIn K mainGlobals "in_some" = some (some (.ref f9))) (l9 : K.lookup f9 = some ⟨oc9, od9, .func (PySem.W.fnOf "in_some" "in_some" (defArgs s_in_some) (defBody s_in_some) (defScope s_in_some) .none kV9 dc9 pm9 an9 cd9 ct9), sl9⟩) (c9 : PySem.W.codeIn K cd9 "in_some" = true) (k9 : PySem.W.keepIn K (.ref f9) = true)
    (a10 : PySem.W.nsIn K mainGlobals "ends_of" = some (some (.ref f10))) (l10 : K.lookup f10 = some ⟨oc10, od10, .func (PySem.W.fnOf "ends_of" "ends_of" (defArgs s_ends_of) (defBody s_ends_of) (defScope s_ends_of) .none kV10 dc10 pm10 an10 cd10 ct10), sl10⟩) (c10 : PySem.W.codeIn K cd10 "ends_of" = true) (k10 : PySem.W.keepIn K (.ref f10) = true)
    (a11 : PySem.W.nsIn K mainGlobals "paper_right" = some (some (.ref f11))) (l11 : K.lookup f11 = some ⟨oc11, od11, .func (PySem.W.fnOf "paper_right" "paper_right" (defArgs s_paper_right) (defBody s_paper_right) (defScope s_paper_right) .none kV11 dc11 pm11 an11 cd11 ct11), sl11⟩) (c11 : PySem.W.codeIn K cd11 "paper_right" = true) (k11 : PySem.W.keepIn K (.ref f11) = true)
    (a12 : PySem.W.nsIn K mainGlobals "_law_jug" = some (some (.ref f12))) (l12 : K.lookup f12 = some ⟨oc12, od12, .func (PySem.W.fnOf "_law_jug" "_law_jug" (defArgs s_law_jug) (defBody s_law_jug) (defScope s_law_jug) .none kV12 dc12 pm12 an12 cd12 ct12), sl12⟩) (c12 : PySem.W.codeIn K cd12 "_law_jug" = true) (k12 : PySem.W.keepIn K (.ref f12) = true)
    (a13 : PySem.W.nsIn K mainGlobals "_law_dip" = some (some (.ref f13))) (l13 : K.lookup f13 = some ⟨oc13, od13, .func (PySem.W.fnOf "_law_dip" "_law_dip" (defArgs s_law_dip) (defBody s_law_dip) (defScope s_law_dip) .none kV13 dc13 pm13 an13 cd13 ct13), sl13⟩) (c13 : PySem.W.codeIn K cd13 "_law_dip" = true) (k13 : PySem.W.keepIn K (.ref f13) = true)
    (a14 : PySem.W.nsIn K mainGlobals "_law_house" = some (some (.ref f14))) (l14 : K.lookup f14 = some ⟨oc14, od14, .func (PySem.W.fnOf "_law_house" "_law_house" (defArgs s_law_house) (defBody s_law_house) (defScope s_law_house) .none kV14 dc14 pm14 an14 cd14 ct14), sl14⟩) (c14 : PySem.W.codeIn K cd14 "_law_house" = true) (k14 : PySem.W.keepIn K (.ref f14) = true)
    (a15 : PySem.W.nsIn K mainGlobals "_law_folk" = some (some (.ref f15))) (l15 : K.lookup f15 = some ⟨oc15, od15, .func (PySem.W.fnOf "_law_folk" "_law_folk" (defArgs s_law_folk) (defBody s_law_folk) (defScope s_law_folk) .none kV15 dc15 pm15 an15 cd15 ct15), sl15⟩) (c15 : PySem.W.codeIn K cd15 "_law_folk" = true) (k15 : PySem.W.keepIn K (.ref f15) = true)
    (a16 : PySem.W.nsIn K mainGlobals "_law_gone" = some (some (.ref f16))) (l16 : K.lookup f16 = some ⟨oc16, od16, .func (PySem.W.fnOf "_law_gone" "_law_gone" (defArgs s_law_gone) (defBody s_law_gone) (defScope s_law_gone) .none kV16 dc16 pm16 an16 cd16 ct16), sl16⟩) (c16 : PySem.W.codeIn K cd16 "_law_gone" = true) (k16 : PySem.W.keepIn K (.ref f16) = true)
    (a17 : PySem.W.nsIn K mainGlobals "_law_hidden" = some (some (.ref f17))) (l17 : K.lookup f17 = some ⟨oc17, od17, .func (PySem.W.fnOf "_law_hidden" "_law_hidden" (defArgs s_law_hidden) (defBody s_law_hidden) (defScope s_law_hidden) .none kV17 dc17 pm17 an17 cd17 ct17), sl17⟩) (c17 : PySem.W.codeIn K cd17 "_law_hidden" = true) (k17 : PySem.W.keepIn K (.ref f17) = true)
    (a18 : PySem.W.nsIn K mainGlobals "_law_look" = some (some (.ref f18))) (l18 : K.lookup f18 = some ⟨oc18, od18, .func (PySem.W.fnOf "_law_look" "_law_look" (defArgs s_law_look) (defBody s_law_look) (defScope s_law_look) .none kV18 dc18 pm18 an18 cd18 ct18), sl18⟩) (c18 : PySem.W.codeIn K cd18 "_law_look" = true) (k18 : PySem.W.keepIn K (.ref f18) = true)
    (a19 : PySem.W.nsIn K mainGlobals "_law_stands" = some (some (.ref f19))) (l19 : K.lookup f19 = some ⟨oc19, od19, .func (PySem.W.fnOf "_law_stands" "_law_stands" (defArgs s_law_stands) (defBody s_law_stands) (defScope s_law_stands) .none kV19 dc19 pm19 an19 cd19 ct19), sl19⟩) (c19 : PySem.W.codeIn K cd19 "_law_stands" = true) (k19 : PySem.W.keepIn K (.ref f19) = true)
    (a20 : PySem.W.nsIn K mainGlobals "_law_outs" = some (some (.ref f20))) (l20 : K.lookup f20 = some ⟨oc20, od20, .func (PySem.W.fnOf "_law_outs" "_law_outs" (defArgs s_law_outs) (defBody s_law_outs) (defScope s_law_outs) .none kV20 dc20 pm20 an20 cd20 ct20), sl20⟩) (c20 : PySem.W.codeIn K cd20 "_law_outs" = true) (k20 : PySem.W.keepIn K (.ref f20) = true)
    (a21 : PySem.W.nsIn K mainGlobals "_law_are_stretches" = some (some (.ref f21))) (l21 : K.lookup f21 = some ⟨oc21, od21, .func (PySem.W.fnOf "_law_are_stretches" "_law_are_stretches" (defArgs s_law_are_stretches) (defBody s_law_are_stretches) (defScope s_law_are_stretches) .none kV21 dc21 pm21 an21 cd21 ct21), sl21⟩) (c21 : PySem.W.codeIn K cd21 "_law_are_stretches" = true) (k21 : PySem.W.keepIn K (.ref f21) = true)
    (a22 : PySem.W.nsIn K mainGlobals "_law_looked_wrong" = some (some (.ref f22))) (l22 : K.lookup f22 = some ⟨oc22, od22, .func (PySem.W.fnOf "_law_looked_wrong" "_law_looked_wrong" (defArgs s_law_looked_wrong) (defBody s_law_looked_wrong) (defScope s_law_looked_wrong) .none kV22 dc22 pm22 an22 cd22 ct22), sl22⟩) (c22 : PySem.W.codeIn K cd22 "_law_looked_wrong" = true) (k22 : PySem.W.keepIn K (.ref f22) = true)
    (a23 : PySem.W.nsIn K mainGlobals "_law_shown" = some (some (.ref f23))) (l23 : K.lookup f23 = some ⟨oc23, od23, .func (PySem.W.fnOf "_law_shown" "_law_shown" (defArgs s_law_shown) (defBody s_law_shown) (defScope s_law_shown) .none kV23 dc23 pm23 an23 cd23 ct23), sl23⟩) (c23 : PySem.W.codeIn K cd23 "_law_shown" = true) (k23 : PySem.W.keepIn K (.ref f23) = true)
    (a24 : PySem.W.nsIn K mainGlobals "_law_seen_right" = some (some (.ref f24))) (l24 : K.lookup f24 = some ⟨oc24, od24, .func (PySem.W.fnOf "_law_seen_right" "_law_seen_right" (defArgs s_law_seen_right) (defBody s_law_seen_right) (defScope s_law_seen_right) .none kV24 dc24 pm24 an24 cd24 ct24), sl24⟩) (c24 : PySem.W.codeIn K cd24 "_law_seen_right" = true) (k24 : PySem.W.keepIn K (.ref f24) = true)
    (a25 : PySem.W.nsIn K mainGlobals "_law_late" = some (some (.ref f25))) (l25 : K.lookup f25 = some ⟨oc25, od25, .func (PySem.W.fnOf "_law_late" "_law_late" (defArgs s_law_late) (defBody s_law_late) (defScope s_law_late) .none kV25 dc25 pm25 an25 cd25 ct25), sl25⟩) (c25 : PySem.W.codeIn K cd25 "_law_late" = true) (k25 : PySem.W.keepIn K (.ref f25) = true)
    (a26 : PySem.W.nsIn K mainGlobals "_law_track_bent" = some (some (.ref f26))) (l26 : K.lookup f26 = some ⟨oc26, od26, .func (PySem.W.fnOf "_law_track_bent" "_law_track_bent" (defArgs s_law_track_bent) (defBody s_law_track_bent) (defScope s_law_track_bent) .none kV26 dc26 pm26 an26 cd26 ct26), sl26⟩) (c26 : PySem.W.codeIn K cd26 "_law_track_bent" = true) (k26 : PySem.W.keepIn K (.ref f26) = true)
    (a27 : PySem.W.nsIn K mainGlobals "_law_drawn" = some (some (.ref f27))) (l27 : K.lookup f27 = some ⟨oc27, od27, .func (PySem.W.fnOf "_law_drawn" "_law_drawn" (defArgs s_law_drawn) (defBody s_law_drawn) (defScope s_law_drawn) .none kV27 dc27 pm27 an27 cd27 ct27), sl27⟩) (c27 : PySem.W.codeIn K cd27 "_law_drawn" = true) (k27 : PySem.W.keepIn K (.ref f27) = true)
    (a28 : PySem.W.nsIn K mainGlobals "_law_right" = some (some (.ref f28))) (l28 : K.lookup f28 = some ⟨oc28, od28, .func (PySem.W.fnOf "_law_right" "_law_right" (defArgs s_law_right) (defBody s_law_right) (defScope s_law_right) .none kV28 dc28 pm28 an28 cd28 ct28), sl28⟩) (c28 : PySem.W.codeIn K cd28 "_law_right" = true) (k28 : PySem.W.keepIn K (.ref f28) = true)
    (a29 : PySem.W.nsIn K mainGlobals "law" = some (some (.ref f29))) (l29 : K.lookup f29 = some ⟨oc29, od29, .func (PySem.W.fnOf "law" "law" (defArgs s_law) (defBody s_law) (defScope s_law) .none kV29 dc29 pm29 an29 cd29 ct29), sl29⟩) (c29 : PySem.W.codeIn K cd29 "law" = true) (k29 : PySem.W.keepIn K (.ref f29) = true)
    (z_all : PySem.W.nsIn K mainGlobals "all" = some none)
    (z_any : PySem.W.nsIn K mainGlobals "any" = some none)
    (z_enumerate : PySem.W.nsIn K mainGlobals "enumerate" = some none)
    (z_int : PySem.W.nsIn K mainGlobals "int" = some none)
    (z_len : PySem.W.nsIn K mainGlobals "len" = some none)
    (z_list : PySem.W.nsIn K mainGlobals "list" = some none)
    (z_max : PySem.W.nsIn K mainGlobals "max" = some none)
    (z_min : PySem.W.nsIn K mainGlobals "min" = some none)
    (z_range : PySem.W.nsIn K mainGlobals "range" = some none)
    (z_sorted : PySem.W.nsIn K mainGlobals "sorted" = some none)
    (z_sum : PySem.W.nsIn K mainGlobals "sum" = some none)
    (z_zip : PySem.W.nsIn K mainGlobals "zip" = some none)
    {t_UNSEEN : Tok} (d_UNSEEN : PySem.W.nsIn K mainGlobals "UNSEEN" = some (some (.int (-1) t_UNSEEN)))
    : ∃ fd : FuncData, (∀ (s : Shared) (v : Value), BindsTo s fd ⟨[v], []⟩ [("script", v)]) ∧ ∀ base : Heap, K.In base → base.Ns mainGlobals mg → FnG l.prog w K mg base CX0 6 fa fd ["script"] (spD K F_law) := by
  have T : Txt mg := ⟨PySem.W.mg_none_of X G z_all, PySem.W.mg_none_of X G z_any, PySem.W.mg_none_of X G z_enumerate, PySem.W.mg_none_of X G z_int, PySem.W.mg_none_of X G z_len, PySem.W.mg_none_of X G z_list, PySem.W.mg_none_of X G z_max, PySem.W.mg_none_of X G z_min, PySem.W.mg_none_of X G z_range, PySem.W.mg_none_of X G z_sorted, PySem.W.mg_none_of X G z_sum, PySem.W.mg_none_of X G z_zip, ⟨_, PySem.W.mg_of X G d_UNSEEN⟩⟩
  have M1 := PySem.W.mg_of X G a1
  have D1 := fun_mk (st := s_met_by) l1 c1 k1
  have M2 := PySem.W.mg_of X G a2
  have D2 := fun_mk (st := s_looks_at) l2 c2 k2
  have M3 := PySem.W.mg_of X G a3
  have D3 := fun_mk (st := s_most_out) l3 c3 k3
  have M4 := PySem.W.mg_of X G a4
  have D4 := fun_mk (st := s_least_out) l4 c4 k4
  have M5 := PySem.W.mg_of X G a5
  have D5 := fun_mk (st := s_may_leave) l5 c5 k5
  have M6 := PySem.W.mg_of X G a6
  have D6 := fun_mk (st := s_look_wrong) l6 c6 k6
  have M7 := PySem.W.mg_of X G a7
  have D7 := fun_mk (st := s_story_right) l7 c7 k7
  have M8 := PySem.W.mg_of X G a8
  have D8 := fun_mk (st := s_are_stretches) l8 c8 k8
  have M9 := PySem.W.mg_of X G a9
  have D9 := fun_mk (st := s_in_some) l9 c9 k9
  have M10 := PySem.W.mg_of X G a10
  have D10 := fun_mk (st := s_ends_of) l10 c10 k10
  have M11 := PySem.W.mg_of X G a11
  have D11 := fun_mk (st := s_paper_right) l11 c11 k11
  have M12 := PySem.W.mg_of X G a12
  have D12 := fun_mk (st := s_law_jug) l12 c12 k12
  have M13 := PySem.W.mg_of X G a13
  have D13 := fun_mk (st := s_law_dip) l13 c13 k13
  have M14 := PySem.W.mg_of X G a14
  have D14 := fun_mk (st := s_law_house) l14 c14 k14
  have M15 := PySem.W.mg_of X G a15
  have D15 := fun_mk (st := s_law_folk) l15 c15 k15
  have M16 := PySem.W.mg_of X G a16
  have D16 := fun_mk (st := s_law_gone) l16 c16 k16
  have M17 := PySem.W.mg_of X G a17
  have D17 := fun_mk (st := s_law_hidden) l17 c17 k17
  have M18 := PySem.W.mg_of X G a18
  have D18 := fun_mk (st := s_law_look) l18 c18 k18
  have M19 := PySem.W.mg_of X G a19
  have D19 := fun_mk (st := s_law_stands) l19 c19 k19
  have M20 := PySem.W.mg_of X G a20
  have D20 := fun_mk (st := s_law_outs) l20 c20 k20
  have M21 := PySem.W.mg_of X G a21
  have D21 := fun_mk (st := s_law_are_stretches) l21 c21 k21
  have M22 := PySem.W.mg_of X G a22
  have D22 := fun_mk (st := s_law_looked_wrong) l22 c22 k22
  have M23 := PySem.W.mg_of X G a23
  have D23 := fun_mk (st := s_law_shown) l23 c23 k23
  have M24 := PySem.W.mg_of X G a24
  have D24 := fun_mk (st := s_law_seen_right) l24 c24 k24
  have M25 := PySem.W.mg_of X G a25
  have D25 := fun_mk (st := s_law_late) l25 c25 k25
  have M26 := PySem.W.mg_of X G a26
  have D26 := fun_mk (st := s_law_track_bent) l26 c26 k26
  have M27 := PySem.W.mg_of X G a27
  have D27 := fun_mk (st := s_law_drawn) l27 c27 k27
  have M28 := PySem.W.mg_of X G a28
  have D28 := fun_mk (st := s_law_right) l28 c28 k28
  have M29 := PySem.W.mg_of X G a29
  have D29 := fun_mk (st := s_law) l29 c29 k29
  have e := hfa.symm.trans M29
  cases e
  refine ⟨PySem.W.fnOf "law" "law" (defArgs s_law) (defBody s_law) (defScope s_law) .none kV29 dc29 pm29 an29 cd29 ct29, fun s v => .of_eq rfl, fun base _ _ => ?_⟩
  have C_met_by := ok_met_by (P := l.prog) (w := w) (base := base) D1 M1 T 
  have C_looks_at := ok_looks_at (P := l.prog) (w := w) (base := base) D2 M2 T 
  have C_most_out := ok_most_out (P := l.prog) (w := w) (base := base) D3 M3 T C_looks_at C_met_by
  have C_least_out := ok_least_out (P := l.prog) (w := w) (base := base) D4 M4 T C_met_by C_looks_at
  have C_may_leave := ok_may_leave (P := l.prog) (w := w) (base := base) D5 M5 T 
  have C_look_wrong := ok_look_wrong (P := l.prog) (w := w) (base := base) D6 M6 T C_least_out C_most_out
  have C_story_right := ok_story_right (P := l.prog) (w := w) (base := base) D7 M7 T 
  have C_are_stretches := ok_are_stretches (P := l.prog) (w := w) (base := base) D8 M8 T 
  have C_in_some := ok_in_some (P := l.prog) (w := w) (base := base) D9 M9 T 
  have C_ends_of := ok_ends_of (P := l.prog) (w := w) (base := base) D10 M10 T 
  have C_paper_right := ok_paper_right (P := l.prog) (w := w) (base := base) D11 M11 T C_look_wrong C_are_stretches C_may_leave C_in_some C_ends_of C_most_out C_least_out
  have C_law_jug := ok_law_jug (P := l.prog) (w := w) (base := base) D12 M12 T 
  have C_law_dip := ok_law_dip (P := l.prog) (w := w) (base := base) D13 M13 T 
  have C_law_house := ok_law_house (P := l.prog) (w := w) (base := base) D14 M14 T C_law_dip
  have C_law_folk := ok_law_folk (P := l.prog) (w := w) (base := base) D15 M15 T C_law_dip
  have C_law_gone := ok_law_gone (P := l.prog) (w := w) (base := base) D16 M16 T C_law_dip
  have C_law_hidden := ok_law_hidden (P := l.prog) (w := w) (base := base) D17 M17 T C_law_dip
  have C_law_look := ok_law_look (P := l.prog) (w := w) (base := base) D18 M18 T C_law_dip
  have C_law_stands := ok_law_stands (P := l.prog) (w := w) (base := base) D19 M19 T 
  have C_law_outs := ok_law_outs (P := l.prog) (w := w) (base := base) D20 M20 T 
  have C_law_are_stretches := ok_law_are_stretches (P := l.prog) (w := w) (base := base) D21 M21 T 
  have C_law_looked_wrong := ok_law_looked_wrong (P := l.prog) (w := w) (base := base) D22 M22 T C_law_outs
  have C_law_shown := ok_law_shown (P := l.prog) (w := w) (base := base) D23 M23 T C_law_looked_wrong C_law_are_stretches C_law_outs
  have C_law_seen_right := ok_law_seen_right (P := l.prog) (w := w) (base := base) D24 M24 T C_law_dip
  have C_law_late := ok_law_late (P := l.prog) (w := w) (base := base) D25 M25 T C_law_dip
  have C_law_track_bent := ok_law_track_bent (P := l.prog) (w := w) (base := base) D26 M26 T C_law_late C_law_dip
  have C_law_drawn := ok_law_drawn (P := l.prog) (w := w) (base := base) D27 M27 T C_law_dip C_law_late
  have C_law_right := ok_law_right (P := l.prog) (w := w) (base := base) D28 M28 T C_story_right C_law_stands C_law_drawn C_paper_right C_law_shown
  exact ok_law_fn D29 T C_law_jug C_law_house C_law_folk C_law_gone C_law_dip C_law_seen_right C_law_hidden C_law_track_bent C_law_look C_law_right
theorem walk {q : Program} {loose : List Str} {XP : (Str → Option Value) → Heap → Prop} {YP : World → Heap → Prop} {d : DefRec} {K : Params → PySem.W.Frag} {l : PySem.W.OpenLaw} (hn : l.most = some 63) (hdf : d.params.defaults = [])
    (hY : ∀ (w : World) (h : Heap), YP w h → (K w.params).In h) (F : ∀ (w : World) (mg : Str → Option Value) (fa : Addr) (h : Heap), (K w.params).In h → h.Ns mainGlobals mg → mg d.name = some (.ref fa) → ∃ fd : FuncData, (∀ (s : Shared) (u : Value), BindsTo s fd ⟨[u], []⟩ [("script", u)]) ∧
      ∀ base : Heap, (K w.params).In base → base.Ns mainGlobals mg → FnG l.prog w (K w.params) mg base CX0 6 fa fd ["script"] (spD (K w.params) F_law)) (hlaw : LawOk 63 F_law) :
    PySem.W.WalkO q loose XP YP l.row.toRowW d [] (fun f vs => PySem.call f vs) :=
  walkG (n := 63) (k := 6) (x := "script") (CX := fun _ => CX0) (sp := fun w => spD (K w.params) F_law) hn (by decide) hdf ⟨rfl, by decide, by decide⟩ hY F (fun _ H a ns hl _ hS => law_sp hlaw H a ns hl hS) fun _ _ _ _ _ z => z
end LAW_K70

/-! PM: reckoning with data: dI, loops and comprehensions by induction. -/
namespace PL
open PySem L2
/-- dI as data -/
abbrev dI (ns : List Int) : List D := ns.map fun n => D.sc (V.int n)
@[simp] theorem fz_sc (v : V) : (D.sc v).fz = true := rfl
@[simp] theorem frz_sc (v : V) : (D.sc v).frz = .sc v := rfl
@[simp] theorem fzL_dI (ns : List Int) : D.fzL (dI ns) = true := D.fzL_of fun x hx => by
  obtain ⟨n, _, rfl⟩ := List.mem_map.mp hx; rfl
@[simp] theorem frzL_dI (ns : List Int) : D.frzL (dI ns) = dI ns := D.frzL_of_fzL (fzL_dI ns)
@[simp] theorem frzL_nil : D.frzL [] = [] := rfl
@[simp] theorem frzL_cons (x : D) (xs : List D) : D.frzL (x :: xs) = x.frz :: D.frzL xs := rfl
@[simp] theorem fzL_nil : D.fzL [] = true := rfl
@[simp] theorem fzL_cons (x : D) (xs : List D) : D.fzL (x :: xs) = (x.fz && D.fzL xs) := rfl
@[simp] theorem frz_tup (xs : List D) : (D.tup xs).frz = .tup (D.frzL xs) := rfl
@[simp] theorem fz_tup (xs : List D) : (D.tup xs).fz = D.fzL xs := rfl
@[simp] theorem frz_obj (o : Bool) (sh : Sh) (xs : List D) : (D.obj o sh xs).frz = .obj false sh (D.frzL xs) := rfl
@[simp] theorem fz_own (sh : Sh) (xs : List D) : (D.obj true sh xs).fz = false := rfl
@[simp] theorem fz_frzn (sh : Sh) (xs : List D) : (D.obj false sh xs).fz = D.fzL xs := by simp [D.fz]
theorem dI_length (ns : List Int) : (dI ns).length = ns.length := List.length_map ..
theorem dI_get (ns : List Int) (i : Nat) : (dI ns)[i]? = ns[i]?.map fun n => D.sc (V.int n) := List.getElem?_map ..
theorem dI_set (ns : List Int) (i : Nat) (v : Int) : (dI ns).set i (.sc (.int v)) = dI (ns.set i v) := by
  unfold dI; rw [List.map_set]
theorem fzL_map {α : Type} {f : α → D} (h : ∀ x, (f x).fz = true) (xs : List α) : D.fzL (xs.map f) = true := D.fzL_of fun x hx => by
  obtain ⟨n, _, rfl⟩ := List.mem_map.mp hx; exact h n
theorem frzL_mapE {α : Type} {f : α → D} (h : ∀ x, (f x).fz = true) (xs : List α) : D.frzL (xs.map f) = xs.map f := D.frzL_of_fzL (fzL_map h xs)
/-! places -/
theorem ixN_nat {n i : Nat} (h : i < n) : L2.ixN n (i : Int) = some i := by
  unfold L2.ixN
  rw [if_pos (by omega), if_pos (by omega), Int.toNat_natCast]
theorem ixN_of {n : Nat} {i : Int} (h0 : 0 ≤ i) (h : i < n) : L2.ixN n i = some i.toNat := by
  unfold L2.ixN
  rw [if_pos h0, if_pos h]
theorem atI_of {α : Type} {xs : List α} {i : Int} {x : α} (h0 : 0 ≤ i) (h : xs[i.toNat]? = some x) : L2.atI xs i = some x := by
  have hl := (List.getElem?_eq_some_iff.mp h).1
  unfold L2.atI
  rw [ixN_of h0 (by omega)]
  exact h
theorem range_done {n x : Nat} {done rest : List Nat} (e : done ++ x :: rest = List.range n) : x = done.length ∧ done.length < n := by
  have h1 := congrArg (fun l => l[done.length]?) e
  have h2 := congrArg List.length e
  simp at h1 h2
  have h3 : done.length < n := by omega
  rw [List.getElem?_range h3] at h1
  exact ⟨by simpa using h1, h3⟩
/-! loops -/
theorem loopD_ind {α : Type} {g : WG} {wb : WS} (enc : α → D) (all : List α) (I : List α → En → Prop) (RD : EN)
    (step : ∀ done x rest, done ++ x :: rest = all → ∀ env, I done env → ∀ K : En → Prop, (∀ env', I (done ++ [x]) env' → K env') → g (enc x) env fun e1 => wb e1 { RD with nx := K, ct := K, bk := RD.nx })
    (fin : ∀ env', I all env' → RD.nx env') : ∀ (xs done : List α) env, done ++ xs = all → I done env → loopD g wb (xs.map enc) env RD := by
  intro xs
  induction xs with
  | nil =>
    intro done env e h
    rw [List.append_nil] at e; subst e
    exact fin env h
  | cons x xs ih =>
    intro done env e h
    exact step done x xs e env h _ fun env' h' => ih (done ++ [x]) env' (by simpa using e) h'
theorem loopD_all {α : Type} {g : WG} {wb : WS} (enc : α → D) (xs : List α) (I : List α → En → Prop) {RD : EN} {env : En} (h0 : I [] env)
    (step : ∀ done x rest, done ++ x :: rest = xs → ∀ env, I done env → ∀ K : En → Prop, (∀ env', I (done ++ [x]) env' → K env') → g (enc x) env fun e1 => wb e1 { RD with nx := K, ct := K, bk := RD.nx })
    (fin : ∀ env', I xs env' → RD.nx env') : loopD g wb (xs.map enc) env RD := loopD_ind enc xs I RD step fin xs [] env rfl h0
theorem compD_ind {α : Type} {kf : Bool} {vs : List Nat} {g : WG} {wt : WT} {we : WE} (enc : α → D) (I : En → Prop) (f : α → Option D) {R : List D → En → Prop} :
    ∀ (xs : List α) (acc : List D) env, acc.length + xs.length ≤ sizeLine → I env →
    (∀ x ∈ xs, ∀ env, I env → ∀ K : Option D → En → Prop, (∀ env', I env' → K (f x) env') → g (enc x) (wipeE none vs env) fun e1 => wt e1 fun b e2 => if b = true then we e2 fun y e3 => K (some (inK kf y)) e3 else K none e2) →
    (∀ env', I env' → R (acc ++ xs.filterMap f) env') → compD kf vs g wt we (xs.map enc) acc env R := by
  intro xs
  induction xs with
  | nil =>
    intro acc env _ h _ fin
    have := fin env h
    simp only [List.filterMap_nil, List.append_nil] at this
    exact this
  | cons x xs ih =>
    intro acc env hl h step fin
    have h0 := step x (List.mem_cons_self ..) env h (fun o e3 => match o with
      | some y => acc.length < sizeLine ∧ compD kf vs g wt we (xs.map enc) (acc ++ [y]) e3 R
      | none => compD kf vs g wt we (xs.map enc) acc e3 R) ?_
    · exact h0
    · intro env' h'
      cases hf : f x with
      | none =>
        refine ih acc env' (by simp at hl; omega) h' (fun z hz => step z (List.mem_cons_of_mem _ hz)) fun e he => ?_
        have := fin e he
        rwa [List.filterMap_cons_none hf] at this
      | some y =>
        refine ⟨by simp at hl; omega, ih (acc ++ [y]) env' (by simp at hl ⊢; omega) h' (fun z hz => step z (List.mem_cons_of_mem _ hz)) fun e he => ?_⟩
        have := fin e he
        rw [List.filterMap_cons_some hf] at this
        simpa using this
theorem compD_map {α : Type} {kf : Bool} {vs : List Nat} {g : WG} {wt : WT} {we : WE} (enc : α → D) (xs : List α) (I : En → Prop) (f : α → D) {R : List D → En → Prop} {env : En} (hl : xs.length ≤ sizeLine) (h : I env)
    (step : ∀ x ∈ xs, ∀ env, I env → ∀ K : Option D → En → Prop, (∀ env', I env' → K (some (f x)) env') → g (enc x) (wipeE none vs env) fun e1 => wt e1 fun b e2 => if b = true then we e2 fun y e3 => K (some (inK kf y)) e3 else K none e2)
    (fin : ∀ env', I env' → R (xs.map f) env') : compD kf vs g wt we (xs.map enc) [] env R :=
  compD_ind enc I (fun x => some (f x)) xs [] env (by simpa using hl) h step (by
    intro env' h'
    have := fin env' h'
    rwa [← List.filterMap_eq_map] at this)
/-! a comprehension whose values the reckoner chooses: J holds of what is told so far -/
theorem compD_inv {α : Type} {kf : Bool} {vs : List Nat} {g : WG} {wt : WT} {we : WE} (enc : α → D) (J : List α → List D → En → Prop) {R : List D → En → Prop} (all : List α) (hall : all.length ≤ sizeLine)
    (len : ∀ done acc env, J done acc env → acc.length ≤ done.length)
    (step : ∀ done x rest, done ++ x :: rest = all → ∀ acc env, J done acc env → ∀ K : Option D → En → Prop, (∀ env', J (done ++ [x]) acc env' → K none env') → (∀ y env', J (done ++ [x]) (acc ++ [y]) env' → K (some y) env') →
      g (enc x) (wipeE none vs env) fun e1 => wt e1 fun b e2 => if b = true then we e2 fun y e3 => K (some (inK kf y)) e3 else K none e2)
    (fin : ∀ acc env', J all acc env' → R acc env') : ∀ (xs done : List α) acc env, done ++ xs = all → J done acc env → compD kf vs g wt we (xs.map enc) acc env R := by
  intro xs
  induction xs with
  | nil =>
    intro done acc env e h
    rw [List.append_nil] at e; subst e
    exact fin acc env h
  | cons x xs ih =>
    intro done acc env e h
    have hlen := len done acc env h
    have hd : done.length < all.length := by rw [← e]; simp
    exact step done x xs e acc env h (fun o e3 => match o with
      | some y => acc.length < sizeLine ∧ compD kf vs g wt we (xs.map enc) (acc ++ [y]) e3 R
      | none => compD kf vs g wt we (xs.map enc) acc e3 R) (fun env' h' => ih (done ++ [x]) acc env' (by simpa using e) h') fun y env' h' => ⟨by omega, ih (done ++ [x]) (acc ++ [y]) env' (by simpa using e) h'⟩
/-! equality of data -/
theorem shp_int (i : Int) : (D.sc (.int i)).shp = true := rfl
theorem deq_int (i j : Int) : deq (.sc (.int i)) (.sc (.int j)) = decide (i = j) := by
  show (i == j) = _
  exact Bool.beq_eq_decide_eq ..
theorem deq_bl (i j : Bool) : deq (.sc (.bl i)) (.sc (.bl j)) = (i == j) := rfl
theorem shp_bl (i : Bool) : (D.sc (.bl i)).shp = true := rfl
end PL

/-! PO: reckoning with data, continued: what each combinator says, as equations for simp; plain data. -/
namespace PL
open PySem L2
section
variable {R : D → En → Prop} {env : En} {RD : EN} {i n : Nat} {d x y : D} {xs ys : List D} {o o2 : Bool} {k : Int} {b : Bool}
@[simp ↓] theorem e_wC : wC d env R = R d env := rfl
theorem e_wVal : wVal i env R = ∃ d, env[i]? = some (some d) ∧ d.fz = true ∧ R d env := rfl
theorem e_wVar : wVar i env R = ∃ d, env[i]? = some (some d) ∧ R d.frz (env.set i (some d.frz)) := rfl
theorem e_wMove : wMove i env R = ∃ d, env[i]? = some (some d) ∧ R d (env.set i none) := rfl
theorem e_bName {R : D → Prop} : bName i env R = ∃ d, env[i]? = some (some d) ∧ R d := rfl
@[simp ↓] theorem e_bE {w : WE} {R : D → Prop} : bE w env R = w env fun d _ => R d := rfl
@[simp ↓] theorem e_wBin {rd : RD2} {wa wb : WE} : wBin rd wa wb env R = wa env fun x e1 => wb e1 fun y e2 => rd x y fun z => R z e2 := rfl
@[simp ↓] theorem e_wBinEB {rd : RD2} {wa : WE} {wb : WB} : wBinEB rd wa wb env R = wa env fun x e1 => wb e1 fun y => rd x y fun z => R z e1 := rfl
theorem e_wBinNE {rd : RD2} {wb : WE} : wBinNE rd i wb env R = ((∃ x, env[i]? = some (some x)) ∧ wb env fun y e2 => ∃ x, e2[i]? = some (some x) ∧ rd x y fun z => R z e2) := rfl
@[simp ↓] theorem e_wBinBB {rd : RD2} {wa wb : WB} : wBinBB rd wa wb env R = wa env fun x => wb env fun y => rd x y fun z => R z env := rfl
@[simp ↓] theorem e_wBinBE {rd : RD2} {wa : WB} {wb : WE} : wBinBE rd wa wb env R = wa env fun x => wb env fun y _ => rd x y fun z => R z env := rfl
@[simp ↓] theorem e_asB {K : Bool → Prop} : asB (.sc (.bl b)) K = K b := rfl
@[simp ↓] theorem e_asI {K : Int → Prop} : asI (.sc (.int k)) K = K k := rfl
@[simp ↓] theorem e_wTst {w : WE} {R : Bool → En → Prop} : wTst w env R = w env fun d e1 => asB d fun b => R b e1 := rfl
@[simp ↓] theorem e_wTru {w : WE} {R : Bool → En → Prop} : wTru w env R = w env fun d e1 => truD d fun b => R b e1 := rfl
@[simp ↓] theorem e_wAnd {wa wb : WT} {R : Bool → En → Prop} : wAnd wa wb env R = wa env fun c e1 => if c = true then wb e1 R else R false e1 := rfl
@[simp ↓] theorem e_wOr {wa wb : WT} {R : Bool → En → Prop} : wOr wa wb env R = wa env fun c e1 => if c = true then R true e1 else wb e1 R := rfl
@[simp ↓] theorem e_wNot {wa : WT} {R : Bool → En → Prop} : wNot wa env R = wa env fun c e1 => R (!c) e1 := rfl
@[simp ↓] theorem e_wIf {t : WT} {wa wb : WE} : wIf t wa wb env R = t env fun c e1 => if c = true then wa e1 R else wb e1 R := rfl
@[simp ↓] theorem e_wYes {R : Bool → En → Prop} : wYes env R = R true env := rfl
@[simp ↓] theorem e_wAndV {wa wb : WE} : wAndV wa wb env R = wa env fun d e1 => asB d fun c => if c = true then wb e1 R else R (.bl false) e1 := rfl
@[simp ↓] theorem e_wOrV {wa wb : WE} : wOrV wa wb env R = wa env fun d e1 => asB d fun c => if c = true then R (.bl true) e1 else wb e1 R := rfl
@[simp ↓] theorem e_wNotV {w : WE} : wNotV w env R = w env fun d e1 => asB d fun b => R (.bl (!b)) e1 := rfl
@[simp ↓] theorem e_wNeg {w : WE} : wNeg w env R = w env fun d e1 => asI d fun b => R (.int (-b)) e1 := rfl
@[simp ↓] theorem e_wChain {rd rd' : RD2} {wa wb wc : WE} : wChain rd rd' wa wb wc env R = wa env fun x e1 => wb e1 fun y e2 => y.fz = true ∧ rd x y fun z => asB z fun c => if c = true then wc e2 fun u e3 => rd' y u fun z => R z e3 else R (.bl false) e2 := rfl
@[simp ↓] theorem e_wOfB {wb : WB} : wOfB wb env R = wb env fun d => d.fz = true ∧ R d env := rfl
/-! truth -/
@[simp ↓] theorem e_truI {K : Bool → Prop} : truD (.sc (.int k)) K = K (k != 0) := rfl
@[simp ↓] theorem e_truB {K : Bool → Prop} : truD (.sc (.bl b)) K = K b := rfl
@[simp ↓] theorem e_truN {K : Bool → Prop} : truD (.sc .non) K = K false := rfl
@[simp ↓] theorem e_truT {K : Bool → Prop} : truD (.tup xs) K = K (!xs.isEmpty) := rfl
@[simp ↓] theorem e_truL {K : Bool → Prop} : truD (.obj o .lst xs) K = K (!xs.isEmpty) := by simp [truD, isSeq]
/-! operators -/
@[simp ↓] theorem e_add {a b : Int} {R : D → Prop} : rdAdd (.sc (.int a)) (.sc (.int b)) R = R (.sc (.int (a + b))) := rfl
@[simp ↓] theorem e_cat {R : D → Prop} : rdAdd (.obj o .lst xs) (.obj o2 .lst ys) R = (D.fzL xs = true ∧ D.fzL ys = true ∧ xs.length + ys.length ≤ sizeLine ∧ R (.lst true (xs ++ ys))) := rfl
@[simp ↓] theorem e_catT {R : D → Prop} : rdAdd (.tup (x :: xs)) (.tup (y :: ys)) R = (D.fzL (x :: xs) = true ∧ D.fzL (y :: ys) = true ∧ (x :: xs).length + (y :: ys).length ≤ sizeLine ∧ R (.tup ((x :: xs) ++ (y :: ys)))) := rfl
@[simp ↓] theorem e_rdI {C : Int → Int → Prop} {g : Int → Int → V} {a b : Int} {R : D → Prop} : rdI C g (.sc (.int a)) (.sc (.int b)) R = (C a b ∧ R (.sc (g a b))) := rfl
@[simp ↓] theorem e_rdI0 {g : Int → Int → V} {a b : Int} {R : D → Prop} : rdI0 g (.sc (.int a)) (.sc (.int b)) R = R (.sc (g a b)) := rfl
@[simp ↓] theorem e_mul {a b : Int} {R : D → Prop} : rdMul (.sc (.int a)) (.sc (.int b)) R = (PySem.IntMulOk a b ∧ R (.sc (.int (a * b)))) := rfl
@[simp ↓] theorem e_rep {b : Int} {R : D → Prop} : rdMul (.obj o .lst xs) (.sc (.int b)) R = (D.fzL xs = true ∧ -(2 ^ 63) ≤ b ∧ b < 2 ^ 63 ∧ xs.length * b.toNat ≤ sizeLine ∧ R (.lst true (List.replicate b.toNat xs).flatten)) := rfl
@[simp ↓] theorem e_eq {R : D → Prop} : rdEq x y R = (x.shp = true ∧ y.shp = true ∧ R (.bl (deq x y))) := rfl
@[simp ↓] theorem e_ne {R : D → Prop} : rdNe x y R = (x.shp = true ∧ y.shp = true ∧ R (.bl (!deq x y))) := rfl
@[simp ↓] theorem e_is {R : D → Prop} : rdIs x (.sc .non) R = R (.bl x.isNon) := rfl
@[simp ↓] theorem e_isN {R : D → Prop} : rdIsN x (.sc .non) R = R (.bl (!x.isNon)) := rfl
@[simp ↓] theorem e_isB {a c : Bool} {R : D → Prop} : rdIsB (.sc (.bl a)) (.sc (.bl c)) R = R (.bl (decide (a = c))) := rfl
@[simp ↓] theorem e_notB {a c : Bool} {R : D → Prop} : rdNotB (.sc (.bl a)) (.sc (.bl c)) R = R (.bl (!decide (a = c))) := rfl
@[simp ↓] theorem e_isSeq : isSeq .lst = true := rfl
@[simp ↓] theorem e_isSeq2 : isSeq .sq = true := rfl
@[simp ↓] theorem e_ixL {sh : Sh} {R : D → Prop} : rdIx (.obj o sh xs) (.sc (.int k)) R = (isSeq sh = true ∧ ∃ x, L2.atI xs k = some x ∧ x.fz = true ∧ R x) := rfl
@[simp ↓] theorem e_ixT {R : D → Prop} : rdIx (.tup xs) (.sc (.int k)) R = ∃ x, L2.atI xs k = some x ∧ x.fz = true ∧ R x := rfl
@[simp ↓] theorem e_inL {sh : Sh} {neg : Bool} {R : D → Prop} : rdIn neg x (.obj o sh xs) R = (isSeq sh = true ∧ dIn x xs fun c => R (.bl (if neg then !c else c))) := rfl
@[simp ↓] theorem e_inT {neg : Bool} {R : D → Prop} : rdIn neg x (.tup xs) R = dIn x xs fun c => R (.bl (if neg then !c else c)) := rfl
/-! arguments, displays, builtins -/
@[simp ↓] theorem e_aNil {R : List D → En → Prop} : aNil env R = R [] env := rfl
@[simp ↓] theorem e_aCons {we : WE} {wa : WA} {R : List D → En → Prop} : aCons we wa env R = we env fun d e1 => wa e1 fun ds e2 => R (d :: ds) e2 := rfl
@[simp ↓] theorem e_bNil {R : List D → Prop} : bNil env R = R [] := rfl
@[simp ↓] theorem e_bCons {wb : WB} {wab : WAB} {R : List D → Prop} : bCons wb wab env R = wb env fun d => wab env fun ds => R (d :: ds) := rfl
@[simp ↓] theorem e_wTup {wa : WA} : wTup wa env R = wa env fun ds e1 => ds.length ≤ sizeLine ∧ R (.tup (D.frzL ds)) e1 := rfl
@[simp ↓] theorem e_wLst {wa : WA} : wLst wa env R = wa env fun ds e1 => ds.length ≤ sizeLine ∧ R (.lst true (D.frzL ds)) e1 := rfl
@[simp ↓] theorem e_wLstK {wa : WA} : wLstK wa env R = wa env fun ds e1 => ds.length ≤ sizeLine ∧ R (.lst true ds) e1 := rfl
@[simp ↓] theorem e_wCB {rd : RDA} {wa : WA} : wCB rd wa env R = wa env fun ds e1 => rd ds fun z => R z e1 := rfl
@[simp ↓] theorem e_wCBB {rd : RDA} {wa : WAB} : wCBB rd wa env R = wa env fun ds => rd ds fun z => R z env := rfl
@[simp ↓] theorem e_len {sh : Sh} {R : D → Prop} : rdLen [.obj o sh xs] R = (isSeq sh = true ∧ R (.int xs.length)) := rfl
@[simp ↓] theorem e_lenT {R : D → Prop} : rdLen [.tup xs] R = R (.int xs.length) := rfl
@[simp ↓] theorem e_rdI1 {g : Int → V} {a : Int} {R : D → Prop} : rdI1 g [.sc (.int a)] R = R (.sc (g a)) := rfl
@[simp ↓] theorem e_rdI2 {g : Int → Int → V} {a b : Int} {R : D → Prop} : rdI2 g [.sc (.int a), .sc (.int b)] R = R (.sc (g a b)) := rfl
@[simp ↓] theorem e_int1I {R : D → Prop} : rdInt1 [.sc (.int k)] R = R (.int k) := rfl
@[simp ↓] theorem e_int1B {R : D → Prop} : rdInt1 [.sc (.bl b)] R = R (.int (if b then 1 else 0)) := rfl
@[simp ↓] theorem e_list {sh : Sh} {R : D → Prop} : rdList [.obj o sh xs] R = (isSeq sh = true ∧ D.fzL xs = true ∧ R (.lst true xs)) := rfl
@[simp ↓] theorem e_listT {R : D → Prop} : rdList [.tup xs] R = (D.fzL xs = true ∧ R (.lst true xs)) := rfl
@[simp ↓] theorem e_tuple {sh : Sh} {R : D → Prop} : rdTuple [.obj o sh xs] R = (isSeq sh = true ∧ D.fzL xs = true ∧ R (.tup xs)) := rfl
theorem map_inj {α β : Type} {f : α → β} (hi : ∀ x y, f x = f y → x = y) : ∀ {a b : List α}, a.map f = b.map f → a = b
  | [], [], _ => rfl
  | [], _ :: _, h => by simp at h
  | _ :: _, [], h => by simp at h
  | x :: a, y :: b, h => by
    simp only [List.map_cons, List.cons.injEq] at h
    rw [hi _ _ h.1, map_inj hi h.2]
theorem map_int_inj {a b : List Int} (h : a.map (fun n => D.sc (V.int n)) = b.map fun n => D.sc (V.int n)) : a = b :=
  map_inj (fun x y e => by injection e with e; injection e) h
theorem map_bl_inj {a b : List Bool} (h : a.map (fun n => D.sc (V.bl n)) = b.map fun n => D.sc (V.bl n)) : a = b :=
  map_inj (fun x y e => by injection e with e; injection e) h
theorem e_sum {sh : Sh} {ns : List Int} {R : D → Prop} : rdSum [.obj o sh (dI ns)] R = (isSeq sh = true ∧ R (.int ns.sum)) := by
  apply propext
  constructor
  · rintro ⟨h, ms, e, r⟩
    rw [map_int_inj e]; exact ⟨h, r⟩
  · rintro ⟨h, r⟩; exact ⟨h, ns, rfl, r⟩
theorem sorted_uniq {a b : List Int} (h : a.Perm b) (ha : a.Pairwise (· ≤ ·)) (hb : b.Pairwise (· ≤ ·)) : a = b := h.eq_of_pairwise (fun x y _ _ h1 h2 => Int.le_antisymm h1 h2) ha hb
/-- sorted -/
theorem sorted_of {sh : Sh} {ns ms : List Int} {R : D → Prop} (hs : isSeq sh = true) (hp : ms.Perm ns) (hm : ms.Pairwise (· ≤ ·)) (k : R (.lst true (dI ms))) : rdSorted [.obj o sh (dI ns)] R :=
  ⟨hs, ns, rfl, fun ns' h1 h2 => by rw [show (ns'.map fun n => D.sc (V.int n)) = dI ms from congrArg dI (sorted_uniq (h1.trans hp.symm) h2 hm)]; exact k⟩
theorem e_bs {sh : Sh} {g : List Bool → Bool} {bs : List Bool} {R : D → Prop} : rdBs g [.obj o sh (bs.map fun n => D.sc (V.bl n))] R = (isSeq sh = true ∧ R (.bl (g bs))) := by
  apply propext
  constructor
  · rintro ⟨h, ms, e, r⟩
    rw [map_bl_inj e]; exact ⟨h, r⟩
  · rintro ⟨h, r⟩; exact ⟨h, bs, rfl, r⟩
@[simp] theorem e_all {sh : Sh} {bs : List Bool} {R : D → Prop} : rdAll [.obj o sh (bs.map fun n => D.sc (V.bl n))] R = (isSeq sh = true ∧ R (.bl (bs.all id))) := e_bs
@[simp] theorem e_any {sh : Sh} {bs : List Bool} {R : D → Prop} : rdAny [.obj o sh (bs.map fun n => D.sc (V.bl n))] R = (isSeq sh = true ∧ R (.bl (bs.any id))) := e_bs
/-! slices -/
@[simp ↓] theorem e_oNo {R : Option Int → En → Prop} : oNo env R = R none env := rfl
@[simp ↓] theorem e_oSo {w : WE} {R : Option Int → En → Prop} : oSo w env R = w env fun d e1 => asI d fun i => R (some i) e1 := rfl
@[simp ↓] theorem e_sl {sh : Sh} {lo hi : Option Int} {R : D → Prop} : rdSl (.obj o sh xs) lo hi R = (isSeq sh = true ∧ D.fzL xs = true ∧ R (.lst true (cutD xs lo hi))) := rfl
@[simp ↓] theorem e_slT {lo hi : Option Int} {R : D → Prop} : rdSl (.tup xs) lo hi R = (D.fzL xs = true ∧ ¬ (HT.sIx xs.length 0 lo = 0 ∧ HT.sIx xs.length xs.length hi = xs.length) ∧ R (.tup (cutD xs lo hi))) := rfl
@[simp ↓] theorem e_wSl {we : WE} {wl wh : WO} : wSl we wl wh env R = we env fun d e1 => wl e1 fun l e2 => wh e2 fun h e3 => rdSl d l h fun z => R z e3 := rfl
@[simp ↓] theorem e_wSlB {wb : WB} {wl wh : WO} : wSlB wb wl wh env R = wb env fun d => wl env fun l e2 => wh e2 fun h e3 => rdSl d l h fun z => R z e3 := rfl
@[simp ↓] theorem e_rev {sh : Sh} {R : D → Prop} : rdRev (.obj o sh xs) R = (isSeq sh = true ∧ D.fzL xs = true ∧ R (.lst true xs.reverse)) := rfl
@[simp ↓] theorem e_revT {R : D → Prop} : rdRev (.tup xs) R = (D.fzL xs = true ∧ R (.tup xs.reverse)) := rfl
@[simp ↓] theorem e_wRev {w : WE} : wRev w env R = w env fun d e1 => rdRev d fun z => R z e1 := rfl
@[simp ↓] theorem e_wRevB {w : WB} : wRevB w env R = w env fun d => rdRev d fun z => R z env := rfl
@[simp ↓] theorem e_wView {w : WE} : wView w env R = w (seeE env) fun r _ => outD r = true ∧ R r env := rfl
@[simp] theorem e_seeN : seeE [] = [] := rfl
@[simp] theorem e_see1 : seeE (some d :: env) = some d.frz :: seeE env := rfl
@[simp] theorem e_see0 : seeE (none :: env) = none :: seeE env := rfl
@[simp] theorem e_outS {v : V} : outD (.sc v) = true := rfl
@[simp ↓] theorem e_wRevS {w ws : WE} : wRevS w ws env R = w env fun d e1 => ws e1 fun k e2 => asI k fun kk => rdStep d kk fun z => R z e2 := rfl
@[simp ↓] theorem e_step {R : D → Prop} : rdStep (.tup xs) k R = (D.fzL xs = true ∧ (k = 1 ∨ k = -1) ∧ R (.tup (if k = 1 then xs else xs.reverse))) := rfl
@[simp ↓] theorem e_wListRg {w : WE} : wListRg w env R = w env fun d e1 => asI d fun n => RgOk 0 n ∧ R (.lst true (rng 0 (n - 0).toNat)) e1 := rfl
@[simp ↓] theorem e_wListRg2 {w w2 : WE} : wListRg2 w w2 env R = w env fun d e1 => w2 e1 fun d2 e2 => asI d fun m => asI d2 fun n => RgOk m n ∧ R (.lst true (rng m (n - m).toNat)) e2 := rfl
/-! statements -/
@[simp ↓] theorem e_sNext : sNext env RD = RD.nx env := rfl
@[simp ↓] theorem e_sSeq {w1 w2 : WS} : sSeq w1 w2 env RD = w1 env { RD with nx := fun e1 => w2 e1 RD } := rfl
@[simp ↓] theorem e_sBreak : sBreak env RD = RD.bk env := rfl
@[simp ↓] theorem e_sCont : sCont env RD = RD.ct env := rfl
@[simp ↓] theorem e_sDrop {we : WE} : sDrop we env RD = we env fun _ e1 => RD.nx e1 := rfl
@[simp ↓] theorem e_sRet {we : WE} : sRet we env RD = we env RD.rt := rfl
@[simp ↓] theorem e_sRetN : sRetN env RD = RD.rt .non env := rfl
@[simp ↓] theorem e_sIf {wt : WT} {wa wb : WS} : sIf wt wa wb env RD = wt env fun b e1 => if b = true then wa e1 RD else wb e1 RD := rfl
@[simp ↓] theorem e_sAsg {we : WE} {g : WG} : sAsg we g env RD = we env fun d e1 => g d e1 RD.nx := rfl
theorem e_sAug {rd : RD2} {we : WE} : sAug i rd we env RD = ∃ x, env[i]? = some (some x) ∧ x.fz = true ∧ we env fun y e1 => rd x y fun z => RD.nx (e1.set i (some z)) := rfl
def parK : List D → (D → D → Prop) → Prop
  | [d1, d2], K => K d1 d2
  | _, _ => False
@[simp ↓] theorem e_parK {K : D → D → Prop} : parK [x, y] K = K x y := rfl
@[simp ↓] theorem e_sPar {j : Nat} {wa : WA} : sPar i j wa env RD = wa env fun ds e1 => parK ds fun d1 d2 => gFz i d1 e1 fun e => gFz j d2 e RD.nx := by
  unfold sPar
  congr 1
  funext ds e1
  match ds with
  | [] => rfl
  | [_] => rfl
  | [_, _] => rfl
  | _ :: _ :: _ :: _ => rfl
theorem e_gNm {R : En → Prop} : gNm i d env R = R (env.set i (some d)) := rfl
theorem e_gFz {R : En → Prop} : gFz i d env R = R (env.set i (some d.frz)) := rfl
@[simp ↓] theorem e_gTp {gs : WGs} {R : En → Prop} : gTp n gs (.tup xs) env R = (xs.length = n ∧ gs xs env R) := rfl
@[simp ↓] theorem e_gsNil {R : En → Prop} : gsNil xs env R = (xs = [] ∧ R env) := rfl
@[simp ↓] theorem e_gsCons {g : WG} {gs : WGs} {R : En → Prop} : gsCons g gs (x :: xs) env R = g x env fun e1 => gs xs e1 R := rfl
/-! places -/
theorem e_mName {R : Nat → D → (D → D) → Prop} : mName i env R = ∃ d, env[i]? = some (some d) ∧ R i d id := rfl
@[simp ↓] theorem e_mIx {wm : WM} {wi : WE} {R : Nat → D → (D → D) → Prop} : mIx wm wi env R = wm env fun i d' u => wi env fun k _ => asI k fun kk => match d' with
  | .obj true .lst xs => ∃ j x, L2.ixN xs.length kk = some j ∧ xs[j]? = some x ∧ R i x fun y => u (.lst true (xs.set j y))
  | _ => False := rfl
@[simp ↓] theorem e_inK0 : inK false d = d.frz := rfl
@[simp ↓] theorem e_inK1 : inK true d = d := rfl
@[simp ↓] theorem e_sSetIx {kf : Bool} {we : WE} {wm : WM} {wi : WE} : sSetIx kf we wm wi env RD = we env fun y e1 => wm e1 fun i d' u => wi e1 fun k _ => asI k fun kk => match d' with
  | .obj true .lst xs => ∃ j, L2.ixN xs.length kk = some j ∧ RD.nx (e1.set i (some (u (.lst true (xs.set j (inK kf y))))))
  | _ => False := rfl
@[simp ↓] theorem e_ownL {K : List D → Prop} : ownL (some (some (.obj true .lst xs))) K = K xs := rfl
@[simp ↓] theorem e_ownD {K : List D → Prop} : ownD (.obj true .lst xs) K = K xs := rfl
theorem e_wAppN {kf : Bool} {we : WE} : wAppN kf i we env R = ownL (env[i]?) fun _ => we env fun y e1 => ownL (e1[i]?) fun xs => xs.length < sizeLine ∧ R .non (e1.set i (some (.lst true (xs ++ [inK kf y])))) := rfl
@[simp ↓] theorem e_wAppP {kf : Bool} {wm : WM} {we : WE} : wAppP kf wm we env R = wm env fun i d u => ownD d fun xs => we env fun y e1 => xs.length < sizeLine ∧ R .non (e1.set i (some (u (.lst true (xs ++ [inK kf y]))))) := rfl
@[simp ↓] theorem e_sAugIx {rd : RD2} {wm : WM} {wi we : WE} : sAugIx rd wm wi we env RD = wm env fun i d u => ownD d fun xs => wi env fun k _ => asI k fun kk => ∃ j x, L2.ixN xs.length kk = some j ∧ xs[j]? = some x ∧ x.fz = true ∧
  we env fun y e1 => rd x y fun z => RD.nx (e1.set i (some (u (.lst true (xs.set j z))))) := rfl
@[simp ↓] theorem e_bIx {wb : WB} {wi : WE} {R : D → Prop} : bIx wb wi env R = wb env fun d => wi env fun k _ => asI k fun kk => match d with
  | .obj _ sh xs => isSeq sh = true ∧ ∃ x, L2.atI xs kk = some x ∧ R x
  | .tup xs => ∃ x, L2.atI xs kk = some x ∧ R x
  | _ => False := rfl
/-! loops -/
@[simp ↓] theorem e_seqL {sh : Sh} {K : List D → Prop} : seqOf (.obj o sh xs) K = (isSeq sh = true ∧ K (D.frzL xs)) := rfl
@[simp ↓] theorem e_seqT {K : List D → Prop} : seqOf (.tup xs) K = K (D.frzL xs) := rfl
@[simp ↓] theorem e_iSeq {we : WE} {R : List D → En → Prop} : iSeq we env R = we env fun d e1 => seqOf d fun xs => R xs e1 := rfl
@[simp ↓] theorem e_as1I {K : Int → Prop} : as1I [.sc (.int k)] K = K k := rfl
@[simp ↓] theorem e_as2I {m : Int} {K : Int → Int → Prop} : as2I [.sc (.int k), .sc (.int m)] K = K k m := rfl
@[simp ↓] theorem e_iRng {wa : WA} {R : List D → En → Prop} : iRng wa env R = wa env fun ds e1 => as1I ds fun j => -(2 ^ 62) ≤ j ∧ j < 2 ^ 62 ∧ R (rng 0 j.toNat) e1 := rfl
@[simp ↓] theorem e_iRng2 {wa : WA} {R : List D → En → Prop} : iRng2 wa env R = wa env fun ds e1 => as2I ds fun i j => -(2 ^ 62) ≤ i ∧ i < 2 ^ 62 ∧ -(2 ^ 62) ≤ j ∧ j < 2 ^ 62 ∧ R (rng i (j - i).toNat) e1 := rfl
@[simp ↓] theorem e_iZp {wa : WA} {R : List D → En → Prop} : iZp wa env R = wa env fun ds e1 => match ds with
  | [.obj _ sh xs, .obj _ sh2 ys] => isSeq sh = true ∧ isSeq sh2 = true ∧ R (zipD (D.frzL xs) (D.frzL ys)) e1
  | _ => False := rfl
@[simp ↓] theorem e_iEnm {wa : WA} {R : List D → En → Prop} : iEnm wa env R = wa env fun ds e1 => match ds with
  | [.obj _ sh xs] => isSeq sh = true ∧ R (enumD 0 (D.frzL xs)) e1
  | _ => False := rfl
@[simp ↓] theorem e_sFor {wi : WI} {g : WG} {wb : WS} : sFor wi g wb env RD = wi env fun items e1 => loopD g wb items e1 RD := rfl
@[simp ↓] theorem e_wComp {kf : Bool} {wi : WI} {vs : List Nat} {g : WG} {wt : WT} {we : WE} : wComp kf wi vs g wt we env R = wi env fun items e1 => compD kf vs g wt we items [] e1 fun acc e2 => R (.lst true acc) (restE e1 vs (wipeE none vs e2)) := rfl
@[simp ↓] theorem e_wipeN {α : Type} {e : α} {l : List α} : wipeE e [] l = l := rfl
@[simp ↓] theorem e_wipeC {α : Type} {e : α} {v : Nat} {vs : List Nat} {l : List α} : wipeE e (v :: vs) l = (wipeE e vs l).set v e := rfl
@[simp ↓] theorem e_restN {e0 : En} : restE e0 [] env = env := rfl
@[simp ↓] theorem e_restC {e0 : En} {v : Nat} {vs : List Nat} : restE e0 (v :: vs) env = (restE e0 vs env).set v (fzO e0[v]?) := rfl
@[simp ↓] theorem e_fzO0 : fzO (some none) = none := rfl
@[simp ↓] theorem e_fzO1 : fzO (some (some d)) = if d.fz = true then some d else none := rfl
/-! calls -/
@[simp ↓] theorem e_cNil {R : List AV → En → Prop} : cNil env R = R [] env := rfl
@[simp ↓] theorem e_cVal {we : WE} {wc : WC} {R : List AV → En → Prop} : cVal we wc env R = we env fun d e1 => wc e1 fun is e2 => R (.val d :: is) e2 := rfl
@[simp ↓] theorem e_cValF {we : WE} {wc : WC} {R : List AV → En → Prop} : cValF we wc env R = we env fun d e1 => wc e1 fun is e2 => R (.val d.frz :: is) e2 := rfl
theorem e_cRef {wc : WC} {R : List AV → En → Prop} : cRef i wc env R = ((∃ d, env[i]? = some (some d)) ∧ wc env fun is e2 => R (.ref i :: is) e2) := rfl
@[simp ↓] theorem e_takeN : takeA env [] = some ([], env) := rfl
@[simp ↓] theorem e_takeV {r : List AV} : takeA env (.val d :: r) = (takeA env r).map fun q => (d :: q.1, q.2) := rfl
@[simp ↓] theorem e_takeR {r : List AV} : takeA env (.ref i :: r) = (match env[i]? with
    | some (some d) => (takeA (env.set i none) r).map fun q => (d :: q.1, q.2)
    | _ => none) := rfl
@[simp ↓] theorem e_putN {os : En} : putA env [] os = env := by cases os <;> rfl
@[simp ↓] theorem e_putV {r : List AV} {q : Option D} {os : En} : putA env (.val d :: r) (q :: os) = putA env r os := rfl
@[simp ↓] theorem e_putR {r : List AV} {q : Option D} {os : En} : putA env (.ref i :: r) (q :: os) = putA (env.set i q) r os := rfl
@[simp ↓] theorem e_wCall {f : WF} {wc : WC} : wCall f wc env R = wc env fun is e1 => match takeA e1 is with
  | some (ds, e2) => f ds fun r ds' => R r (putA e2 is ds')
  | none => False := rfl
@[simp ↓] theorem e_wCallK {n m : Nat} {perm : List Nat} {f : WF} {wc wk : WC} : wCallK n m perm f wc wk env R = wc env fun is e1 => is.length = n ∧ plainA is = true ∧ wk e1 fun js e2 => js.length = m ∧ plainA js = true ∧ (perm.all fun i => decide (i < (is ++ js).length)) = true ∧ match takeA e2 (pick perm (is ++ js)) with
  | some (ds, e3) => f ds fun r ds' => R r (putA e3 (pick perm (is ++ js)) ds')
  | none => False := rfl
@[simp ↓] theorem e_plainN : plainA [] = true := rfl
@[simp ↓] theorem e_plainC {r : List AV} : plainA (.val d :: r) = (d.fz && plainA r) := rfl
@[simp ↓] theorem e_pickN {α : Type} {l : List α} : pick [] l = [] := rfl
@[simp ↓] theorem e_pickC {α : Type} {l : List α} {i : Nat} {p : List Nat} : pick (i :: p) l = (l[i]?).toList ++ pick p l := by
  unfold pick; rw [List.filterMap_cons]
  cases l[i]? <;> rfl
@[simp ↓] theorem e_parmN {mask : List Bool} : parm mask [] = [] := by cases mask <;> rfl
@[simp ↓] theorem e_parmN2 {os : En} : parm [] os = [] := rfl
@[simp ↓] theorem e_parmC {mask : List Bool} {q : Option D} {os : En} : parm (b :: mask) (q :: os) = (if b = true then q else none) :: parm mask os := rfl
@[simp ↓] theorem e_wPopAt {wm : WM} {wi : WE} : wPopAt wm wi env R = wm env fun i d u => ownD d fun xs => wi env fun k e1 => asI k fun kk => -(2 ^ 63) ≤ kk ∧ kk < 2 ^ 63 ∧ ∃ j x, L2.ixN xs.length kk = some j ∧ xs[j]? = some x ∧ x.fz = true ∧ R x (e1.set i (some (u (.lst true (xs.eraseIdx j))))) := rfl
@[simp ↓] theorem e_wPop {wm : WM} : wPop wm env R = wm env fun i d u => ownD d fun xs => ∃ x, xs[xs.length - 1]? = some x ∧ x.fz = true ∧ R x (env.set i (some (u (.lst true xs.dropLast)))) := rfl
@[simp ↓] theorem e_sNever : sNever env RD = False := rfl
@[simp ↓] theorem e_sLend {j : Nat} {wi : WE} {wr : WS} : sLend i j wi wr env RD = ((∃ d, env[i]? = some (some d)) ∧ j < env.length ∧ wi env fun k e1 => asI k fun kk => ownL (e1[i]?) fun xs => ∃ n x, L2.ixN xs.length kk = some n ∧ xs[n]? = some x ∧
  ∀ w : V, wr ((e1.set i (some (.obj true .lst (xs.set n (.sc w))))).set j (some x))
    { nx := fun e2 => ownL (e2[i]?) fun ys => ys[n]? = some (.sc w) ∧ ∃ t, e2[j]? = some (some t) ∧ RD.nx ((e2.set j none).set i (some (.obj true .lst (ys.set n t)))),
      rt := fun d e2 => ownL (e2[i]?) fun ys => ys[n]? = some (.sc w) ∧ ∃ t, e2[j]? = some (some t) ∧ RD.rt d ((e2.set j none).set i (some (.obj true .lst (ys.set n t)))),
      bk := fun e2 => ownL (e2[i]?) fun ys => ys[n]? = some (.sc w) ∧ ∃ t, e2[j]? = some (some t) ∧ RD.bk ((e2.set j none).set i (some (.obj true .lst (ys.set n t)))),
      ct := fun e2 => ownL (e2[i]?) fun ys => ys[n]? = some (.sc w) ∧ ∃ t, e2[j]? = some (some t) ∧ RD.ct ((e2.set j none).set i (some (.obj true .lst (ys.set n t)))) }) := rfl
@[simp ↓] theorem e_gLs {sh : Sh} {gs : WGs} {R : En → Prop} : gLs n gs (.obj o sh xs) env R = (isSeq sh = true ∧ xs.length = n ∧ gs xs env R) := rfl
@[simp ↓] theorem e_wOrT {wa wb : WE} : wOrT wa wb env R = wa env fun d e1 => truD d fun c => if c = true then R d e1 else wb e1 R := rfl
@[simp ↓] theorem e_wAndT {wa wb : WE} : wAndT wa wb env R = wa env fun d e1 => truD d fun c => if c = true then wb e1 R else R d e1 := rfl
@[simp ↓] theorem e_wLstC {wc : WC} : wLstC wc env R = wc env fun is e1 => is.length ≤ sizeLine ∧ match takeA e1 is with
  | some (ds, e2) => R (.lst true ds) e2
  | none => False := rfl
@[simp ↓] theorem e_inDt {neg : Bool} {R : D → Prop} : rdInD neg x (.obj o .lst ys) R = (x.shp = true ∧ (D.obj o .lst ys).shp = true ∧ R (.bl (if neg then !ys.any fun z => deq z x else ys.any fun z => deq z x))) := rfl
@[simp ↓] theorem e_sortD {sh : Sh} {R : D → Prop} : rdSortedD [.obj o sh xs] R = (isSeq sh = true ∧ OrdL xs ∧ R (.lst true (sortD xs))) := rfl
@[simp ↓] theorem e_minD {sh : Sh} {R : D → Prop} : rdMinD [.obj o sh xs] R = (isSeq sh = true ∧ OrdL xs ∧ xs ≠ [] ∧ (∀ x ∈ xs, x.py ≠ .none) ∧ ∀ d ∈ xs, (∀ y ∈ xs, dLt y d = false) → R d) := rfl
end
/-! texts of code points -/
theorem strOk_of (x : Str) (h : ∀ c ∈ x.cps.toList, c < 0x110000) : PyData.strOk x = true := by
  show x.cps.all (fun c => decide (c < 0x110000)) = true
  rw [Array.all_eq_true']
  intro c hc
  exact decide_eq_true (h c (Array.mem_def.mp hc))
theorem strOk_mem {x : Str} (h : PyData.strOk x = true) : ∀ c ∈ x.cps.toList, c < 0x110000 := by
  intro c hc
  have h : x.cps.all (fun c => decide (c < 0x110000)) = true := h
  rw [Array.all_eq_true'] at h
  exact of_decide_eq_true (h c (Array.mem_def.mpr hc))
theorem strOk_app {x y : Str} (hx : PyData.strOk x = true) (hy : PyData.strOk y = true) : PyData.strOk (x ++ y) = true := by
  refine strOk_of _ fun c hc => ?_
  have hc : c ∈ (x.cps ++ y.cps).toList := hc
  rw [Array.toList_append, List.mem_append] at hc
  exact hc.elim (strOk_mem hx c) (strOk_mem hy c)
theorem strOk_lit (x : String) : PyData.strOk (Str.ofString x) = true := by
  refine strOk_of _ fun c hc => ?_
  rw [Str.ofString_eq_toList] at hc
  simp only [List.mem_map] at hc
  obtain ⟨a, _, rfl⟩ := hc
  have := a.valid
  rcases this with h | h
  · exact Nat.lt_trans h (by decide)
  · exact h.2
theorem strOk_from : ∀ (ts : List Str) (k : Nat) (acc : Str), PyData.strOk acc = true → (∀ t ∈ ts, PyData.strOk t = true) → PyData.strOk (textFrom k acc ts) = true
  | [], _, _, h, _ => h
  | t :: r, k, acc, h, hs => by
    refine strOk_from r (k + 1) _ (strOk_app (strOk_app h ?_) (hs t (List.mem_cons_self ..))) fun t ht => hs t (List.mem_cons_of_mem _ ht)
    exact strOk_lit _
theorem strOk_join : ∀ (ts : List Str), (∀ t ∈ ts, PyData.strOk t = true) → PyData.strOk (Str.join ", " ts) = true
  | [], _ => strOk_lit ""
  | [x], h => h x (List.mem_cons_self ..)
  | x :: y :: r, h => strOk_app (strOk_app (h x (List.mem_cons_self ..)) (strOk_lit ", ")) (strOk_join (y :: r) fun t ht => h t (List.mem_cons_of_mem _ ht))
theorem strOk_list {ts : List Str} (h : ∀ t ∈ ts, PyData.strOk t = true) : PyData.strOk (listText ts) = true := strOk_app (strOk_from ts 0 _ (strOk_lit "[") h) (strOk_lit "]")
theorem strOk_tuple {ts : List Str} (h : ∀ t ∈ ts, PyData.strOk t = true) : PyData.strOk (tupleText ts) = true := strOk_app (strOk_app (strOk_lit "(") (strOk_join ts h)) (strOk_lit _)
/-! plain data -/
structure Pl (d : D) (k n : Nat) : Prop where
  sok : PyData.strOk d.py.shown = true
  lay : d.py.canLay0 = true
  dep : d.py.depth ≤ k
  sho : d.py.showable = true
  lea : d.py.leavesShort 61 = true
  blk : d.py.bulk + 1 ≤ n
structure PlL (xs : List D) (k n : Nat) : Prop where
  sok : ∀ t ∈ PyData.shownAll (D.pyL xs), PyData.strOk t = true
  lay : PyData.canLayAll0 (D.pyL xs) = true
  dep : PyData.depthAll (D.pyL xs) ≤ k
  sho : PyData.showableAll (D.pyL xs) = true
  lea : PyData.leavesShortAll 61 (D.pyL xs) = true
  blk : PyData.bulkAll (D.pyL xs) ≤ n
theorem log2_lt {i : Nat} (h : i < 10 ^ 60) : i.log2 < 200 := by
  rcases Nat.eq_zero_or_pos i with h0 | h0
  · subst h0; decide
  · exact (Nat.log2_lt (by omega)).mpr (by omega)
theorem Pl.int {i : Int} (h : i.natAbs < 10 ^ 60) : Pl (.sc (.int i)) 0 1 := by
  refine ⟨strOk_lit _, rfl, Nat.le_refl _, ?_, ?_, Nat.le_refl _⟩
  · show decide (i.natAbs.log2 < 1920) = true
    have := log2_lt h
    exact decide_eq_true (by omega)
  · show decide ((PyData.shown (.int i)).length ≤ 61) = true
    have e := int_text_length_le10 (k := 60) (by decide) h
    refine decide_eq_true ?_
    show (Str.ofString (toString i)).length ≤ 61
    rw [ofString_length]; exact e
theorem Pl.nat {i : Int} (h0 : 0 ≤ i) (h : i < 10 ^ 60) : Pl (.sc (.int i)) 0 1 := Pl.int (by omega)
theorem Pl.bl {b : Bool} : Pl (.sc (.bl b)) 0 1 := ⟨by cases b <;> exact strOk_lit _, rfl, Nat.le_refl _, rfl, rfl, Nat.le_refl _⟩
theorem Pl.mono {d : D} {k n k' n' : Nat} (h : Pl d k n) (hk : k ≤ k') (hn : n ≤ n') : Pl d k' n' := ⟨h.sok, h.lay, by have := h.dep; omega, h.sho, h.lea, by have := h.blk; omega⟩
theorem PlL.mono {d : List D} {k n k' n' : Nat} (h : PlL d k n) (hk : k ≤ k') (hn : n ≤ n') : PlL d k' n' := ⟨h.sok, h.lay, by have := h.dep; omega, h.sho, h.lea, by have := h.blk; omega⟩
theorem PlL.nil {k : Nat} : PlL [] k 0 := ⟨fun _ z => (nomatch z), rfl, Nat.zero_le _, rfl, rfl, Nat.le_refl _⟩
theorem PlL.cons {x : D} {xs : List D} {k n m : Nat} (h : Pl x k n) (hs : PlL xs k m) : PlL (x :: xs) k (n + m) := by
  obtain ⟨a0, a1, a2, a3, a4, a5⟩ := h
  obtain ⟨b0, b1, b2, b3, b4, b5⟩ := hs
  refine ⟨?_, ?_, ?_, ?_, ?_, ?_⟩
  · intro t ht
    rcases List.mem_cons.mp ht with rfl | ht
    · exact a0
    · exact b0 t ht
  · simp only [D.pyL, PyData.canLayAll0, a1, b1, Bool.and_self]
  · simp only [D.pyL, PyData.depthAll]; omega
  · simp only [D.pyL, PyData.showableAll, a3, b3, Bool.and_self]
  · simp only [D.pyL, PyData.leavesShortAll, a4, b4, Bool.and_self]
  · simp only [D.pyL, PyData.bulkAll]; omega
theorem PlL.all {xs : List D} {k n : Nat} (h : ∀ x ∈ xs, Pl x k n) : PlL xs k (xs.length * n) := by
  induction xs with
  | nil => simpa using PlL.nil
  | cons x xs ih =>
    have := PlL.cons (h x (List.mem_cons_self ..)) (ih fun z hz => h z (List.mem_cons_of_mem _ hz))
    rw [List.length_cons, Nat.add_mul, Nat.one_mul, Nat.add_comm]
    exact this
theorem Pl.tup {xs : List D} {k n : Nat} (h : PlL xs k n) : Pl (.tup xs) (k + 1) (n + 1) := by
  obtain ⟨b0, b1, b2, b3, b4, b5⟩ := h
  refine ⟨strOk_tuple b0, b1, ?_, b3, b4, ?_⟩
  · simp only [D.py, PyData.depth]; omega
  · simp only [D.py, PyData.bulk]; omega
theorem Pl.lst {o : Bool} {xs : List D} {k n : Nat} (h : PlL xs k n) : Pl (.obj o .lst xs) (k + 1) (n + 1) := by
  obtain ⟨b0, b1, b2, b3, b4, b5⟩ := h
  refine ⟨strOk_list b0, b1, ?_, b3, b4, ?_⟩
  · simp only [D.py, PyData.depth]; omega
  · simp only [D.py, PyData.bulk]; omega
theorem Pl.lstA {o : Bool} {xs : List D} {k n m : Nat} (h : ∀ x ∈ xs, Pl x k n) (hm : xs.length ≤ m) : Pl (.obj o .lst xs) (k + 1) (m * n + 1) := .lst ((PlL.all h).mono (Nat.le_refl _) (Nat.mul_le_mul_right _ hm))
theorem Pl.repr {x : D} {k n : Nat} {R : D → Prop} (h : Pl x k n) (hb : isBox x = true) (hk : k ≤ 63) (hn : n ≤ 250000) (r : R (.str x.py.shown)) : rdRepr [x] R := by
  refine ⟨hb, h.sho, h.lay, by have := h.dep; omega, ?_, r⟩
  have e := PyData.shown_le_bulk 61 (by decide) _ h.lea
  have := h.blk
  show _ ≤ 16777216
  omega
theorem Pl.shpS {x : D} {k n : Nat} (h : Pl x k n) : (D.sc (.str x.py.shown)).shp = true := by
  show (PyData.strOk x.py.shown && decide (0 ≤ 64)) = true
  rw [h.sok]; rfl
@[simp] theorem deqS {x y : Str} : deq (.sc (.str x)) (.sc (.str y)) = (x == y) := rfl
theorem Pl.shp {x : D} {k n : Nat} (h : Pl x k n) (hk : k ≤ 64) : x.shp = true := by
  show (x.py.canLay0 && decide (x.py.depth ≤ 64)) = true
  rw [h.lay, Bool.true_and]
  exact decide_eq_true (by have := h.dep; omega)
structure Ly (d : D) (k : Nat) : Prop where
  lay : d.py.canLay0 = true
  dep : d.py.depth ≤ k
structure LyL (xs : List D) (k : Nat) : Prop where
  lay : PyData.canLayAll0 (D.pyL xs) = true
  dep : PyData.depthAll (D.pyL xs) ≤ k
theorem Ly.int {i : Int} {k : Nat} : Ly (.sc (.int i)) k := ⟨rfl, Nat.zero_le _⟩
theorem Ly.bl {i : Bool} {k : Nat} : Ly (.sc (.bl i)) k := ⟨rfl, Nat.zero_le _⟩
theorem Ly.non {k : Nat} : Ly (.sc .non) k := ⟨rfl, Nat.zero_le _⟩
theorem LyL.nil {k : Nat} : LyL [] k := ⟨rfl, Nat.zero_le _⟩
theorem LyL.cons {x : D} {xs : List D} {k : Nat} (h : Ly x k) (hs : LyL xs k) : LyL (x :: xs) k := by
  obtain ⟨a1, a2⟩ := h
  obtain ⟨b1, b2⟩ := hs
  refine ⟨?_, ?_⟩
  · simp only [D.pyL, PyData.canLayAll0, a1, b1, Bool.and_self]
  · simp only [D.pyL, PyData.depthAll]; omega
theorem LyL.all {xs : List D} {k : Nat} (h : ∀ x ∈ xs, Ly x k) : LyL xs k := by
  induction xs with
  | nil => exact .nil
  | cons x xs ih => exact .cons (h x (List.mem_cons_self ..)) (ih fun z hz => h z (List.mem_cons_of_mem _ hz))
theorem LyL.map {α : Type} {f : α → D} {k : Nat} (h : ∀ x, Ly (f x) k) (xs : List α) : LyL (xs.map f) k := .all fun x hx => by
  obtain ⟨z, _, rfl⟩ := List.mem_map.mp hx
  exact h z
theorem Ly.tup {xs : List D} {k : Nat} (h : LyL xs k) : Ly (.tup xs) (k + 1) := by
  obtain ⟨b1, b2⟩ := h
  exact ⟨b1, by simp only [D.py, PyData.depth]; omega⟩
theorem Ly.lst {o : Bool} {xs : List D} {k : Nat} (h : LyL xs k) : Ly (.obj o .lst xs) (k + 1) := by
  obtain ⟨b1, b2⟩ := h
  exact ⟨b1, by simp only [D.py, PyData.depth]; omega⟩
theorem Ly.shp {x : D} {k : Nat} (h : Ly x k) (hk : k ≤ 64) : x.shp = true := by
  show (x.py.canLay0 && decide (x.py.depth ≤ 64)) = true
  rw [h.lay, Bool.true_and]
  exact decide_eq_true (by have := h.dep; omega)
theorem Ly.deq_self {x : D} {k : Nat} (h : Ly x k) : deq x x = true := SeqAt.eqv_refl _ h.lay
@[simp] theorem shpI {i : Int} : (D.sc (.int i)).shp = true := rfl
@[simp] theorem shpB {i : Bool} : (D.sc (.bl i)).shp = true := rfl
@[simp] theorem shpN : (D.sc .non).shp = true := rfl
@[simp] theorem deqI {i j : Int} : deq (.sc (.int i)) (.sc (.int j)) = decide (i = j) := deq_int i j
@[simp] theorem deqB {i j : Bool} : deq (.sc (.bl i)) (.sc (.bl j)) = (i == j) := rfl
theorem Pl.deq_self {x : D} {k n : Nat} (h : Pl x k n) : deq x x = true := SeqAt.eqv_refl _ h.lay
@[simp] theorem pyL_dI (ns : List Int) : D.pyL (dI ns) = ns.map PyData.int := by rw [D.pyL_map, List.map_map]; rfl
@[simp] theorem shp_dI {o : Bool} {ns : List Int} : (D.obj o .lst (dI ns)).shp = true := by
  have h : ∀ ns : List Int, PyData.canLayAll0 (D.pyL (dI ns)) = true ∧ PyData.depthAll (D.pyL (dI ns)) = 0 := by
    intro ns
    induction ns with
    | nil => exact ⟨rfl, rfl⟩
    | cons n ns ih =>
      have e : D.pyL (dI (n :: ns)) = .int n :: D.pyL (dI ns) := rfl
      rw [e]
      simp only [PyData.canLayAll0, PyData.depthAll, PyData.canLay0, PyData.depth, Bool.true_and, ih.1, ih.2, true_and]
      rfl
  show (PyData.canLayAll0 (D.pyL (dI ns)) && decide (PyData.depthAll (D.pyL (dI ns)) + 1 ≤ 64)) = true
  rw [(h ns).1, (h ns).2]; rfl
theorem eqvAll_ints : ∀ ns ms : List Int, PyData.eqvAll (ns.map PyData.int) (ms.map PyData.int) = decide (ns = ms)
  | [], [] => rfl
  | [], _ :: _ => rfl
  | _ :: _, [] => rfl
  | n :: ns, m :: ms => by
    rw [List.map_cons, List.map_cons, PyData.eqvAll, eqvAll_ints ns ms, show PyData.eqv (.int n) (.int m) = decide (n = m) from Bool.beq_eq_decide_eq ..]
    by_cases h1 : n = m <;> by_cases h2 : ns = ms <;> simp [h1, h2]
@[simp] theorem deq_dI {o o2 : Bool} {ns ms : List Int} : deq (.obj o .lst (dI ns)) (.obj o2 .lst (dI ms)) = decide (ns = ms) := by
  show PyData.eqvAll (D.pyL (dI ns)) (D.pyL (dI ms)) = _
  rw [pyL_dI, pyL_dI]; exact eqvAll_ints ns ms
@[simp] theorem shp_nil {o : Bool} : (D.obj o .lst []).shp = true := by cases o <;> rfl
@[simp] theorem deq_nilR {o o2 : Bool} {xs : List D} : deq (.obj o .lst xs) (.obj o2 .lst []) = xs.isEmpty := by
  cases xs <;> rfl
@[simp] theorem deq_nilL {o o2 : Bool} {xs : List D} : deq (.obj o .lst []) (.obj o2 .lst xs) = xs.isEmpty := by
  cases xs <;> rfl
/-! in -/
theorem dIn_int {a : Int} {ns : List Int} {K : Bool → Prop} (h : K (decide (a ∈ ns))) : dIn (.sc (.int a)) (dI ns) K := by
  refine ⟨.int a, ns.map V.int, rfl, map_sc ns, rfl, ?_, ?_⟩
  · simp [flatV]
  · have e : ∀ ns : List Int, inV (V.int a) (ns.map V.int) = decide (a ∈ ns) := by
      intro ns
      unfold inV
      induction ns with
      | nil => rfl
      | cons n ns ih =>
        rw [List.map_cons, List.any_cons, ih, show eqV (V.int n) (V.int a) = decide (n = a) from Bool.beq_eq_decide_eq ..]
        by_cases h1 : n = a
        · subst h1; simp
        · have : a ≠ n := fun z => h1 z.symm
          simp [h1, this]
    rw [e]; exact h
@[simp ↓] theorem e_dIn {a : Int} {ns : List Int} {K : Bool → Prop} : dIn (.sc (.int a)) (dI ns) K = K (decide (a ∈ ns)) := by
  apply propext
  constructor
  · rintro ⟨v, ws, e1, e2, _, _, k⟩
    have := dIn_int (a := a) (ns := ns) (K := fun b => b = decide (a ∈ ns)) rfl
    obtain ⟨v', ws', e1', e2', _, _, k'⟩ := this
    cases e1; cases e1'
    have : ws = ws' := map_inj (f := D.sc) (fun x y e => by injection e) (e2.symm.trans e2')
    subst this
    rw [← k']; exact k
  · exact dIn_int
@[simp ↓] theorem e_dIn1 {a b : Int} {K : Bool → Prop} : dIn (.sc (.int a)) [.sc (.int b)] K = K (decide (a = b)) := by
  show dIn (.sc (.int a)) (dI [b]) K = _
  rw [e_dIn]; simp
@[simp ↓] theorem e_dIn2 {a b c : Int} {K : Bool → Prop} : dIn (.sc (.int a)) [.sc (.int b), .sc (.int c)] K = K (decide (a = b ∨ a = c)) := by
  show dIn (.sc (.int a)) (dI [b, c]) K = _
  rw [e_dIn]; simp
theorem zipD_map {α β : Type} (f : α → D) (g : β → D) : ∀ (xs : List α) (ys : List β), zipD (xs.map f) (ys.map g) = (xs.zip ys).map fun q => D.tup [f q.1, g q.2]
  | [], _ => rfl
  | _ :: _, [] => rfl
  | x :: xs, y :: ys => by
    show D.tup [f x, g y] :: zipD (xs.map f) (ys.map g) = _
    rw [zipD_map f g xs ys]; rfl
theorem zip_range {α β γ : Type} {ds : List α} {cs : List β} (h : cs.length = ds.length) (a : α) (b : β) (F : α × β → γ) : (List.range cs.length).map (fun k => F (ds.getD k a, cs.getD k b)) = (ds.zip cs).map F := by
  refine List.ext_getElem (by simp [h]) fun i h1 h2 => ?_
  have h3 : i < cs.length := by simpa using h1
  have h4 : i < ds.length := by omega
  simp [List.getD_eq_getElem?_getD, List.getElem?_eq_getElem h3, List.getElem?_eq_getElem h4]
theorem sum_filterMap {α : Type} (g : α → Option Int) : ∀ l : List α, (l.filterMap g).sum = (l.map fun x => (g x).getD 0).sum
  | [] => rfl
  | x :: l => by
    cases h : g x with
    | none => rw [List.filterMap_cons_none h, sum_filterMap g l]; simp [h]
    | some y => rw [List.filterMap_cons_some h, List.sum_cons, sum_filterMap g l]; simp [h]
theorem rep_dI (n : Nat) (x : Int) : (List.replicate n [D.sc (V.int x)]).flatten = dI (List.replicate n x) := by
  induction n with
  | zero => rfl
  | succ n ih => rw [List.replicate_succ, List.flatten_cons, ih]; rfl
/-! ranges -/
theorem rng_map (lo : Int) (n : Nat) : rng lo n = dI ((List.range n).map fun (i : Nat) => lo + (i : Int)) := by
  unfold rng dI; rw [List.map_map]; rfl
/-! greatest -/
def mx0 (l : List Int) : Int := l.foldr max 0
theorem mx0_ge (l : List Int) : ∀ y ∈ 0 :: l, y ≤ mx0 l := by
  intro y hy
  induction l with
  | nil => simp at hy; subst hy; exact Int.le_refl _
  | cons x l ih =>
    show y ≤ max x (mx0 l)
    simp only [List.mem_cons] at hy ih
    rcases hy with h | h | h
    · have := ih (.inl h); omega
    · omega
    · have := ih (.inr h); omega
theorem mx0_mem (l : List Int) : mx0 l ∈ 0 :: l := by
  induction l with
  | nil => simp [mx0]
  | cons x l ih =>
    show max x (mx0 l) ∈ _
    simp only [List.mem_cons] at ih ⊢
    rcases Int.le_total x (mx0 l) with h | h
    · rw [Int.max_eq_right h]
      exact ih.elim .inl fun z => .inr (.inr z)
    · rw [Int.max_eq_left h]; exact .inr (.inl rfl)
theorem max_mx0 {o : Bool} {l : List Int} {R : D → Prop} (k : R (.sc (.int (mx0 l)))) : rdMaxL [.obj o .lst (.sc (.int 0) :: dI l)] R := by
  refine ⟨rfl, 0 :: l, rfl, by simp, fun m hm hb => ?_⟩
  have h1 := mx0_ge l m hm
  have h2 := hb _ (mx0_mem l)
  rw [show m = mx0 l by omega]; exact k
/-! factors and divisors -/
theorem bits_of {i : Int} {n : Nat} (h : i.natAbs < 2 ^ n) : Builtin.Int.intBits i ≤ n := by
  unfold Builtin.Int.intBits
  split
  · exact Nat.zero_le _
  · rename_i hz
    have : i.natAbs ≠ 0 := by
      intro e
      have := Int.natAbs_eq_zero.mp e
      subst this
      exact hz rfl
    have := (Nat.log2_lt this).mpr h
    omega
theorem mulOk_small {a b : Int} (h : a.natAbs < 2 ^ 64 ∨ b.natAbs < 2 ^ 64) : PySem.IntMulOk a b := h.elim (fun h => .of_left (bits_of h)) fun h => .of_right (bits_of h)
theorem log2_of {j n : Nat} (h : j < 2 ^ n) (hn : 0 < n) : j.log2 < n := by
  rcases Nat.eq_zero_or_pos j with h0 | h0
  · subst h0; simpa using hn
  · exact (Nat.log2_lt (by omega)).mpr h
theorem powOk {i j : Int} {n : Nat} (h : i.natAbs < 2 ^ n) (h0 : 0 ≤ j) (h1 : (n : Int) * j ≤ 2 ^ 27) : CPowW i j := ⟨h0, Int.le_trans (Int.mul_le_mul_of_nonneg_right (by have := bits_of h; omega) h0) h1⟩
theorem dI_atI {ns : List Int} {i : Int} (h0 : 0 ≤ i) (h : i < ns.length) : L2.atI (dI ns) i = some (.sc (.int (ns.getD i.toNat 0))) := by
  refine atI_of h0 ?_
  rw [dI_get, List.getElem?_eq_getElem (by omega)]
  simp [List.getD_eq_getElem?_getD, List.getElem?_eq_getElem (show i.toNat < ns.length by omega)]
theorem atI_ex {xs : List D} {v : Int} {P : D → Prop} (h0 : 0 ≤ v) (h1 : v < (xs.length : Int)) (k : ∀ x, xs[v.toNat]? = some x → P x) : ∃ x, L2.atI xs v = some x ∧ P x :=
  have h : v.toNat < xs.length := by omega
  ⟨xs[v.toNat], atI_of h0 (List.getElem?_eq_getElem h), k _ (List.getElem?_eq_getElem h)⟩
theorem atI_exM {α : Type} {f : α → D} {ns : List α} {xs : List D} {v : Int} {P : D → Prop} (e : xs = ns.map f) (h0 : 0 ≤ v) (h1 : v < (ns.length : Int)) (k : ∀ m, ns[v.toNat]? = some m → m ∈ ns → P (f m)) : ∃ x, L2.atI xs v = some x ∧ P x := by
  subst e
  refine atI_ex h0 (by simpa using h1) fun x hx => ?_
  rw [List.getElem?_map, Option.map_eq_some_iff] at hx
  obtain ⟨m, hm, rfl⟩ := hx
  exact k m hm (List.mem_of_getElem? hm)
theorem atI_exI {ns : List Int} {xs : List D} {v : Int} {P : D → Prop} (e : xs = dI ns) (h0 : 0 ≤ v) (h1 : v < (ns.length : Int)) (k : ∀ m, ns[v.toNat]? = some m → m ∈ ns → P (.sc (.int m))) : ∃ x, L2.atI xs v = some x ∧ P x := atI_exM e h0 h1 k
theorem get_getD {ns : List Int} {i : Nat} (h : i < ns.length) : ns[i]? = some (ns.getD i 0) := by
  simp [List.getD_eq_getElem?_getD, List.getElem?_eq_getElem h]
theorem dI_getD {ns : List Int} {i : Nat} (h : i < ns.length) : (dI ns)[i]? = some (.sc (.int (ns.getD i 0))) := by
  rw [dI_get, get_getD h]; rfl
theorem getD_mem {ns : List Int} {i : Nat} (h : i < ns.length) : ns.getD i 0 ∈ ns := by
  simp [List.getD_eq_getElem?_getD, List.getElem?_eq_getElem h]
theorem cutD_map {α β : Type} (f : α → β) (xs : List α) (lo hi : Option Int) : cutD (xs.map f) lo hi = (cutD xs lo hi).map f := by
  unfold cutD; rw [List.length_map, List.map_take, List.map_drop]
theorem cutD_len {α : Type} (xs : List α) (lo hi : Option Int) : (cutD xs lo hi).length ≤ xs.length := by
  unfold cutD; rw [List.length_take, List.length_drop]; omega
theorem cutD_mem {α : Type} {xs : List α} {lo hi : Option Int} {x : α} (h : x ∈ cutD xs lo hi) : x ∈ xs := List.mem_of_mem_drop (List.mem_of_mem_take h)
theorem sWhile_of {wt : WT} {wb : WS} {env : En} {RD : EN} (I : Nat → En → Prop) (m0 : Nat) (h0 : I m0 env)
    (turn : ∀ m env, I m env → wt env fun c e1 => if c = true then wb e1 { RD with nx := fun e2 => ∃ m', m' < m ∧ I m' e2, ct := fun e2 => ∃ m', m' < m ∧ I m' e2, bk := RD.nx } else RD.nx e1) : sWhile wt wb env RD := ⟨I, ⟨m0, h0⟩, turn⟩
theorem divOk {i j : Int} (h0 : 0 < j) (h : j < 2 ^ 80) : CDivW i j := ⟨h0, by have := log2_of (j := j.natAbs) (n := 80) (by omega) (by decide); omega⟩
end PL

/-! PQ: the combinators at laid out slots (printed by slots.py). -/
namespace PL
open PySem L2
section
variable {d x : D} {v : V} {xs : List D} {e : En} {o : Option D}
@[simp ↓] theorem q_val0 {R : D → En → Prop} : wVal 0 (some d :: e) R = (d.fz = true ∧ R d (some d :: e)) := by simp [wVal]
@[simp ↓ high] theorem q_valS0 {R : D → En → Prop} : wVal 0 (some (.sc v) :: e) R = R (.sc v) (some (.sc v) :: e) := by simp [wVal]
@[simp ↓] theorem q_var0 {R : D → En → Prop} : wVar 0 (some d :: e) R = R d.frz (some d.frz :: e) := by simp [wVar]
@[simp ↓ high] theorem q_varL0 {R : D → En → Prop} {w : Bool} : wVar 0 (some (.obj w .lst xs) :: e) R = R (.obj false .lst (D.frzL xs)) (some (.obj false .lst (D.frzL xs)) :: e) := by simp [wVar]
@[simp ↓] theorem q_move0 {R : D → En → Prop} : wMove 0 (some d :: e) R = R d (none :: e) := by simp [wMove]
@[simp ↓] theorem q_bn0 {R : D → Prop} : bName 0 (some d :: e) R = R d := by simp [bName]
@[simp ↓] theorem q_mn0 {R : Nat → D → (D → D) → Prop} : mName 0 (some d :: e) R = R 0 d id := by simp [mName]
@[simp ↓] theorem q_gn0 {R : En → Prop} : gNm 0 d (o :: e) R = R (some d :: e) := by simp [gNm]
@[simp ↓] theorem q_gf0 {R : En → Prop} : gFz 0 d (o :: e) R = R (some d.frz :: e) := by simp [gFz]
@[simp ↓ high] theorem q_gfS0 {R : En → Prop} : gFz 0 (.sc v) (o :: e) R = R (some (.sc v) :: e) := by simp [gFz]
@[simp ↓ high] theorem q_gfT0 {R : En → Prop} : gFz 0 (.tup xs) (o :: e) R = R (some (.tup (D.frzL xs)) :: e) := by simp [gFz]
@[simp ↓ high] theorem q_gfL0 {R : En → Prop} {w : Bool} : gFz 0 (.obj w .lst xs) (o :: e) R = R (some (.obj false .lst (D.frzL xs)) :: e) := by simp [gFz]
@[simp ↓] theorem q_ref0 {wc : WC} {R : List AV → En → Prop} : cRef 0 wc (some d :: e) R = wc (some d :: e) fun is e2 => R (.ref 0 :: is) e2 := by simp [cRef]
@[simp ↓] theorem q_aug0 {rd : RD2} {we : WE} {RD : EN} : sAug 0 rd we (some (.sc v) :: e) RD = we (some (.sc v) :: e) fun y e1 => rd (.sc v) y fun z => RD.nx (e1.set 0 (some z)) := by simp [sAug]
@[simp ↓] theorem q_ne0 {rd : RD2} {wb : WE} {R : D → En → Prop} : wBinNE rd 0 wb (some d :: e) R = wb (some d :: e) fun y e2 => ∃ x, e2[0]? = some (some x) ∧ rd x y fun z => R z e2 := by simp [wBinNE]
@[simp ↓ high] theorem q_neC0 {rd : RD2} {R : D → En → Prop} {c : D} : wBinNE rd 0 (wC c) (some d :: e) R = rd d c fun z => R z (some d :: e) := by simp [wBinNE, wC]
@[simp ↓ high] theorem q_neV0 {rd : RD2} {R : D → En → Prop} {j : Nat} : wBinNE rd 0 (wVal j) (some d :: e) R = wVal j (some d :: e) fun y e2 => rd d y fun z => R z e2 := by
  apply propext; simp only [wBinNE, wVal]; constructor
  · rintro ⟨_, y, h1, h2, x, h3, h4⟩; simp at h3; subst h3; exact ⟨y, h1, h2, h4⟩
  · rintro ⟨y, h1, h2, h4⟩; exact ⟨⟨d, by simp⟩, y, h1, h2, d, by simp, h4⟩
@[simp ↓] theorem q_app0 {kf : Bool} {we : WE} {R : D → En → Prop} : wAppN kf 0 we (some (.obj true .lst xs) :: e) R = we (some (.obj true .lst xs) :: e) fun y e1 => ownL (e1[0]?) fun xs => xs.length < sizeLine ∧ R .non (e1.set 0 (some (.lst true (xs ++ [inK kf y])))) := by simp [wAppN, ownL]
@[simp ↓] theorem q_popN0 {wi : WE} {R : D → En → Prop} : wPopAtN 0 wi (some (.obj true .lst xs) :: e) R = wi (some (.obj true .lst xs) :: e) fun k e1 => asI k fun kk => ownL (e1[0]?) fun xs => -(2 ^ 63) ≤ kk ∧ kk < 2 ^ 63 ∧ ∃ j x, L2.ixN xs.length kk = some j ∧ xs[j]? = some x ∧ x.fz = true ∧ R x (e1.set 0 (some (.lst true (xs.eraseIdx j)))) := by simp [wPopAtN, ownL]
@[simp ↓] theorem q_ins0 {wi we : WE} {R : D → En → Prop} : wInsN 0 wi we (some (.obj true .lst xs) :: e) R = wi (some (.obj true .lst xs) :: e) fun k e1 => asI k fun kk => we e1 fun y e2 => ownL (e2[0]?) fun xs => D.fzL xs = true ∧ xs.length < sizeLine ∧ 0 ≤ kk ∧ kk < 2 ^ 63 ∧ R .non (e2.set 0 (some (.lst true (xs.take kk.toNat ++ [y.frz] ++ xs.drop kk.toNat)))) := by simp [wInsN, ownL]
@[simp ↓] theorem q_augN0 {rd : RD2} {wi we : WE} {RD : EN} : sAugNx rd 0 wi we (some d :: e) RD = wi (some d :: e) fun k e1 => asI k fun kk => ownL (e1[0]?) fun xs => ∃ j x, L2.ixN xs.length kk = some j ∧ xs[j]? = some x ∧ x.fz = true ∧ we e1 fun y e2 => ownL (e2[0]?) fun ys => ∃ j2, L2.ixN ys.length kk = some j2 ∧ rd x y fun z => RD.nx (e2.set 0 (some (.lst true (ys.set j2 z)))) := by simp [sAugNx]
@[simp ↓] theorem q_set0 {q : Option D} : List.set (o :: e) 0 q = (q :: e) := by simp
@[simp ↓] theorem q_get0 : ((o :: e) : En)[0]? = some o := by simp
@[simp ↓] theorem q_val1 {a0 : Option D} {R : D → En → Prop} : wVal 1 (a0 :: some d :: e) R = (d.fz = true ∧ R d (a0 :: some d :: e)) := by simp [wVal]
@[simp ↓ high] theorem q_valS1 {a0 : Option D} {R : D → En → Prop} : wVal 1 (a0 :: some (.sc v) :: e) R = R (.sc v) (a0 :: some (.sc v) :: e) := by simp [wVal]
@[simp ↓] theorem q_var1 {a0 : Option D} {R : D → En → Prop} : wVar 1 (a0 :: some d :: e) R = R d.frz (a0 :: some d.frz :: e) := by simp [wVar]
@[simp ↓ high] theorem q_varL1 {a0 : Option D} {R : D → En → Prop} {w : Bool} : wVar 1 (a0 :: some (.obj w .lst xs) :: e) R = R (.obj false .lst (D.frzL xs)) (a0 :: some (.obj false .lst (D.frzL xs)) :: e) := by simp [wVar]
@[simp ↓] theorem q_move1 {a0 : Option D} {R : D → En → Prop} : wMove 1 (a0 :: some d :: e) R = R d (a0 :: none :: e) := by simp [wMove]
@[simp ↓] theorem q_bn1 {a0 : Option D} {R : D → Prop} : bName 1 (a0 :: some d :: e) R = R d := by simp [bName]
@[simp ↓] theorem q_mn1 {a0 : Option D} {R : Nat → D → (D → D) → Prop} : mName 1 (a0 :: some d :: e) R = R 1 d id := by simp [mName]
@[simp ↓] theorem q_gn1 {a0 : Option D} {R : En → Prop} : gNm 1 d (a0 :: o :: e) R = R (a0 :: some d :: e) := by simp [gNm]
@[simp ↓] theorem q_gf1 {a0 : Option D} {R : En → Prop} : gFz 1 d (a0 :: o :: e) R = R (a0 :: some d.frz :: e) := by simp [gFz]
@[simp ↓ high] theorem q_gfS1 {a0 : Option D} {R : En → Prop} : gFz 1 (.sc v) (a0 :: o :: e) R = R (a0 :: some (.sc v) :: e) := by simp [gFz]
@[simp ↓ high] theorem q_gfT1 {a0 : Option D} {R : En → Prop} : gFz 1 (.tup xs) (a0 :: o :: e) R = R (a0 :: some (.tup (D.frzL xs)) :: e) := by simp [gFz]
@[simp ↓ high] theorem q_gfL1 {a0 : Option D} {R : En → Prop} {w : Bool} : gFz 1 (.obj w .lst xs) (a0 :: o :: e) R = R (a0 :: some (.obj false .lst (D.frzL xs)) :: e) := by simp [gFz]
@[simp ↓] theorem q_ref1 {a0 : Option D} {wc : WC} {R : List AV → En → Prop} : cRef 1 wc (a0 :: some d :: e) R = wc (a0 :: some d :: e) fun is e2 => R (.ref 1 :: is) e2 := by simp [cRef]
@[simp ↓] theorem q_aug1 {a0 : Option D} {rd : RD2} {we : WE} {RD : EN} : sAug 1 rd we (a0 :: some (.sc v) :: e) RD = we (a0 :: some (.sc v) :: e) fun y e1 => rd (.sc v) y fun z => RD.nx (e1.set 1 (some z)) := by simp [sAug]
@[simp ↓] theorem q_ne1 {a0 : Option D} {rd : RD2} {wb : WE} {R : D → En → Prop} : wBinNE rd 1 wb (a0 :: some d :: e) R = wb (a0 :: some d :: e) fun y e2 => ∃ x, e2[1]? = some (some x) ∧ rd x y fun z => R z e2 := by simp [wBinNE]
@[simp ↓ high] theorem q_neC1 {a0 : Option D} {rd : RD2} {R : D → En → Prop} {c : D} : wBinNE rd 1 (wC c) (a0 :: some d :: e) R = rd d c fun z => R z (a0 :: some d :: e) := by simp [wBinNE, wC]
@[simp ↓ high] theorem q_neV1 {a0 : Option D} {rd : RD2} {R : D → En → Prop} {j : Nat} : wBinNE rd 1 (wVal j) (a0 :: some d :: e) R = wVal j (a0 :: some d :: e) fun y e2 => rd d y fun z => R z e2 := by
  apply propext; simp only [wBinNE, wVal]; constructor
  · rintro ⟨_, y, h1, h2, x, h3, h4⟩; simp at h3; subst h3; exact ⟨y, h1, h2, h4⟩
  · rintro ⟨y, h1, h2, h4⟩; exact ⟨⟨d, by simp⟩, y, h1, h2, d, by simp, h4⟩
@[simp ↓] theorem q_app1 {a0 : Option D} {kf : Bool} {we : WE} {R : D → En → Prop} : wAppN kf 1 we (a0 :: some (.obj true .lst xs) :: e) R = we (a0 :: some (.obj true .lst xs) :: e) fun y e1 => ownL (e1[1]?) fun xs => xs.length < sizeLine ∧ R .non (e1.set 1 (some (.lst true (xs ++ [inK kf y])))) := by simp [wAppN, ownL]
@[simp ↓] theorem q_popN1 {a0 : Option D} {wi : WE} {R : D → En → Prop} : wPopAtN 1 wi (a0 :: some (.obj true .lst xs) :: e) R = wi (a0 :: some (.obj true .lst xs) :: e) fun k e1 => asI k fun kk => ownL (e1[1]?) fun xs => -(2 ^ 63) ≤ kk ∧ kk < 2 ^ 63 ∧ ∃ j x, L2.ixN xs.length kk = some j ∧ xs[j]? = some x ∧ x.fz = true ∧ R x (e1.set 1 (some (.lst true (xs.eraseIdx j)))) := by simp [wPopAtN, ownL]
@[simp ↓] theorem q_ins1 {a0 : Option D} {wi we : WE} {R : D → En → Prop} : wInsN 1 wi we (a0 :: some (.obj true .lst xs) :: e) R = wi (a0 :: some (.obj true .lst xs) :: e) fun k e1 => asI k fun kk => we e1 fun y e2 => ownL (e2[1]?) fun xs => D.fzL xs = true ∧ xs.length < sizeLine ∧ 0 ≤ kk ∧ kk < 2 ^ 63 ∧ R .non (e2.set 1 (some (.lst true (xs.take kk.toNat ++ [y.frz] ++ xs.drop kk.toNat)))) := by simp [wInsN, ownL]
@[simp ↓] theorem q_augN1 {a0 : Option D} {rd : RD2} {wi we : WE} {RD : EN} : sAugNx rd 1 wi we (a0 :: some d :: e) RD = wi (a0 :: some d :: e) fun k e1 => asI k fun kk => ownL (e1[1]?) fun xs => ∃ j x, L2.ixN xs.length kk = some j ∧ xs[j]? = some x ∧ x.fz = true ∧ we e1 fun y e2 => ownL (e2[1]?) fun ys => ∃ j2, L2.ixN ys.length kk = some j2 ∧ rd x y fun z => RD.nx (e2.set 1 (some (.lst true (ys.set j2 z)))) := by simp [sAugNx]
@[simp ↓] theorem q_set1 {a0 : Option D} {q : Option D} : List.set (a0 :: o :: e) 1 q = (a0 :: q :: e) := by simp
@[simp ↓] theorem q_get1 {a0 : Option D} : ((a0 :: o :: e) : En)[1]? = some o := by simp
@[simp ↓] theorem q_val2 {a0 a1 : Option D} {R : D → En → Prop} : wVal 2 (a0 :: a1 :: some d :: e) R = (d.fz = true ∧ R d (a0 :: a1 :: some d :: e)) := by simp [wVal]
@[simp ↓ high] theorem q_valS2 {a0 a1 : Option D} {R : D → En → Prop} : wVal 2 (a0 :: a1 :: some (.sc v) :: e) R = R (.sc v) (a0 :: a1 :: some (.sc v) :: e) := by simp [wVal]
@[simp ↓] theorem q_var2 {a0 a1 : Option D} {R : D → En → Prop} : wVar 2 (a0 :: a1 :: some d :: e) R = R d.frz (a0 :: a1 :: some d.frz :: e) := by simp [wVar]
@[simp ↓ high] theorem q_varL2 {a0 a1 : Option D} {R : D → En → Prop} {w : Bool} : wVar 2 (a0 :: a1 :: some (.obj w .lst xs) :: e) R = R (.obj false .lst (D.frzL xs)) (a0 :: a1 :: some (.obj false .lst (D.frzL xs)) :: e) := by simp [wVar]
@[simp ↓] theorem q_move2 {a0 a1 : Option D} {R : D → En → Prop} : wMove 2 (a0 :: a1 :: some d :: e) R = R d (a0 :: a1 :: none :: e) := by simp [wMove]
@[simp ↓] theorem q_bn2 {a0 a1 : Option D} {R : D → Prop} : bName 2 (a0 :: a1 :: some d :: e) R = R d := by simp [bName]
@[simp ↓] theorem q_mn2 {a0 a1 : Option D} {R : Nat → D → (D → D) → Prop} : mName 2 (a0 :: a1 :: some d :: e) R = R 2 d id := by simp [mName]
@[simp ↓] theorem q_gn2 {a0 a1 : Option D} {R : En → Prop} : gNm 2 d (a0 :: a1 :: o :: e) R = R (a0 :: a1 :: some d :: e) := by simp [gNm]
@[simp ↓] theorem q_gf2 {a0 a1 : Option D} {R : En → Prop} : gFz 2 d (a0 :: a1 :: o :: e) R = R (a0 :: a1 :: some d.frz :: e) := by simp [gFz]
@[simp ↓ high] theorem q_gfS2 {a0 a1 : Option D} {R : En → Prop} : gFz 2 (.sc v) (a0 :: a1 :: o :: e) R = R (a0 :: a1 :: some (.sc v) :: e) := by simp [gFz]
@[simp ↓ high] theorem q_gfT2 {a0 a1 : Option D} {R : En → Prop} : gFz 2 (.tup xs) (a0 :: a1 :: o :: e) R = R (a0 :: a1 :: some (.tup (D.frzL xs)) :: e) := by simp [gFz]
@[simp ↓ high] theorem q_gfL2 {a0 a1 : Option D} {R : En → Prop} {w : Bool} : gFz 2 (.obj w .lst xs) (a0 :: a1 :: o :: e) R = R (a0 :: a1 :: some (.obj false .lst (D.frzL xs)) :: e) := by simp [gFz]
@[simp ↓] theorem q_ref2 {a0 a1 : Option D} {wc : WC} {R : List AV → En → Prop} : cRef 2 wc (a0 :: a1 :: some d :: e) R = wc (a0 :: a1 :: some d :: e) fun is e2 => R (.ref 2 :: is) e2 := by simp [cRef]
@[simp ↓] theorem q_aug2 {a0 a1 : Option D} {rd : RD2} {we : WE} {RD : EN} : sAug 2 rd we (a0 :: a1 :: some (.sc v) :: e) RD = we (a0 :: a1 :: some (.sc v) :: e) fun y e1 => rd (.sc v) y fun z => RD.nx (e1.set 2 (some z)) := by simp [sAug]
@[simp ↓] theorem q_ne2 {a0 a1 : Option D} {rd : RD2} {wb : WE} {R : D → En → Prop} : wBinNE rd 2 wb (a0 :: a1 :: some d :: e) R = wb (a0 :: a1 :: some d :: e) fun y e2 => ∃ x, e2[2]? = some (some x) ∧ rd x y fun z => R z e2 := by simp [wBinNE]
@[simp ↓ high] theorem q_neC2 {a0 a1 : Option D} {rd : RD2} {R : D → En → Prop} {c : D} : wBinNE rd 2 (wC c) (a0 :: a1 :: some d :: e) R = rd d c fun z => R z (a0 :: a1 :: some d :: e) := by simp [wBinNE, wC]
@[simp ↓ high] theorem q_neV2 {a0 a1 : Option D} {rd : RD2} {R : D → En → Prop} {j : Nat} : wBinNE rd 2 (wVal j) (a0 :: a1 :: some d :: e) R = wVal j (a0 :: a1 :: some d :: e) fun y e2 => rd d y fun z => R z e2 := by
  apply propext; simp only [wBinNE, wVal]; constructor
  · rintro ⟨_, y, h1, h2, x, h3, h4⟩; simp at h3; subst h3; exact ⟨y, h1, h2, h4⟩
  · rintro ⟨y, h1, h2, h4⟩; exact ⟨⟨d, by simp⟩, y, h1, h2, d, by simp, h4⟩
@[simp ↓] theorem q_app2 {a0 a1 : Option D} {kf : Bool} {we : WE} {R : D → En → Prop} : wAppN kf 2 we (a0 :: a1 :: some (.obj true .lst xs) :: e) R = we (a0 :: a1 :: some (.obj true .lst xs) :: e) fun y e1 => ownL (e1[2]?) fun xs => xs.length < sizeLine ∧ R .non (e1.set 2 (some (.lst true (xs ++ [inK kf y])))) := by simp [wAppN, ownL]
@[simp ↓] theorem q_popN2 {a0 a1 : Option D} {wi : WE} {R : D → En → Prop} : wPopAtN 2 wi (a0 :: a1 :: some (.obj true .lst xs) :: e) R = wi (a0 :: a1 :: some (.obj true .lst xs) :: e) fun k e1 => asI k fun kk => ownL (e1[2]?) fun xs => -(2 ^ 63) ≤ kk ∧ kk < 2 ^ 63 ∧ ∃ j x, L2.ixN xs.length kk = some j ∧ xs[j]? = some x ∧ x.fz = true ∧ R x (e1.set 2 (some (.lst true (xs.eraseIdx j)))) := by simp [wPopAtN, ownL]
@[simp ↓] theorem q_ins2 {a0 a1 : Option D} {wi we : WE} {R : D → En → Prop} : wInsN 2 wi we (a0 :: a1 :: some (.obj true .lst xs) :: e) R = wi (a0 :: a1 :: some (.obj true .lst xs) :: e) fun k e1 => asI k fun kk => we e1 fun y e2 => ownL (e2[2]?) fun xs => D.fzL xs = true ∧ xs.length < sizeLine ∧ 0 ≤ kk ∧ kk < 2 ^ 63 ∧ R .non (e2.set 2 (some (.lst true (xs.take kk.toNat ++ [y.frz] ++ xs.drop kk.toNat)))) := by simp [wInsN, ownL]
@[simp ↓] theorem q_augN2 {a0 a1 : Option D} {rd : RD2} {wi we : WE} {RD : EN} : sAugNx rd 2 wi we (a0 :: a1 :: some d :: e) RD = wi (a0 :: a1 :: some d :: e) fun k e1 => asI k fun kk => ownL (e1[2]?) fun xs => ∃ j x, L2.ixN xs.length kk = some j ∧ xs[j]? = some x ∧ x.fz = true ∧ we e1 fun y e2 => ownL (e2[2]?) fun ys => ∃ j2, L2.ixN ys.length kk = some j2 ∧ rd x y fun z => RD.nx (e2.set 2 (some (.lst true (ys.set j2 z)))) := by simp [sAugNx]
@[simp ↓] theorem q_set2 {a0 a1 : Option D} {q : Option D} : List.set (a0 :: a1 :: o :: e) 2 q = (a0 :: a1 :: q :: e) := by simp
@[simp ↓] theorem q_get2 {a0 a1 : Option D} : ((a0 :: a1 :: o :: e) : En)[2]? = some o := by simp
@[simp ↓] theorem q_val3 {a0 a1 a2 : Option D} {R : D → En → Prop} : wVal 3 (a0 :: a1 :: a2 :: some d :: e) R = (d.fz = true ∧ R d (a0 :: a1 :: a2 :: some d :: e)) := by simp [wVal]
@[simp ↓ high] theorem q_valS3 {a0 a1 a2 : Option D} {R : D → En → Prop} : wVal 3 (a0 :: a1 :: a2 :: some (.sc v) :: e) R = R (.sc v) (a0 :: a1 :: a2 :: some (.sc v) :: e) := by simp [wVal]
@[simp ↓] theorem q_var3 {a0 a1 a2 : Option D} {R : D → En → Prop} : wVar 3 (a0 :: a1 :: a2 :: some d :: e) R = R d.frz (a0 :: a1 :: a2 :: some d.frz :: e) := by simp [wVar]
@[simp ↓ high] theorem q_varL3 {a0 a1 a2 : Option D} {R : D → En → Prop} {w : Bool} : wVar 3 (a0 :: a1 :: a2 :: some (.obj w .lst xs) :: e) R = R (.obj false .lst (D.frzL xs)) (a0 :: a1 :: a2 :: some (.obj false .lst (D.frzL xs)) :: e) := by simp [wVar]
@[simp ↓] theorem q_move3 {a0 a1 a2 : Option D} {R : D → En → Prop} : wMove 3 (a0 :: a1 :: a2 :: some d :: e) R = R d (a0 :: a1 :: a2 :: none :: e) := by simp [wMove]
@[simp ↓] theorem q_bn3 {a0 a1 a2 : Option D} {R : D → Prop} : bName 3 (a0 :: a1 :: a2 :: some d :: e) R = R d := by simp [bName]
@[simp ↓] theorem q_mn3 {a0 a1 a2 : Option D} {R : Nat → D → (D → D) → Prop} : mName 3 (a0 :: a1 :: a2 :: some d :: e) R = R 3 d id := by simp [mName]
@[simp ↓] theorem q_gn3 {a0 a1 a2 : Option D} {R : En → Prop} : gNm 3 d (a0 :: a1 :: a2 :: o :: e) R = R (a0 :: a1 :: a2 :: some d :: e) := by simp [gNm]
@[simp ↓] theorem q_gf3 {a0 a1 a2 : Option D} {R : En → Prop} : gFz 3 d (a0 :: a1 :: a2 :: o :: e) R = R (a0 :: a1 :: a2 :: some d.frz :: e) := by simp [gFz]
@[simp ↓ high] theorem q_gfS3 {a0 a1 a2 : Option D} {R : En → Prop} : gFz 3 (.sc v) (a0 :: a1 :: a2 :: o :: e) R = R (a0 :: a1 :: a2 :: some (.sc v) :: e) := by simp [gFz]
@[simp ↓ high] theorem q_gfT3 {a0 a1 a2 : Option D} {R : En → Prop} : gFz 3 (.tup xs) (a0 :: a1 :: a2 :: o :: e) R = R (a0 :: a1 :: a2 :: some (.tup (D.frzL xs)) :: e) := by simp [gFz]
@[simp ↓ high] theorem q_gfL3 {a0 a1 a2 : Option D} {R : En → Prop} {w : Bool} : gFz 3 (.obj w .lst xs) (a0 :: a1 :: a2 :: o :: e) R = R (a0 :: a1 :: a2 :: some (.obj false .lst (D.frzL xs)) :: e) := by simp [gFz]
@[simp ↓] theorem q_ref3 {a0 a1 a2 : Option D} {wc : WC} {R : List AV → En → Prop} : cRef 3 wc (a0 :: a1 :: a2 :: some d :: e) R = wc (a0 :: a1 :: a2 :: some d :: e) fun is e2 => R (.ref 3 :: is) e2 := by simp [cRef]
@[simp ↓] theorem q_aug3 {a0 a1 a2 : Option D} {rd : RD2} {we : WE} {RD : EN} : sAug 3 rd we (a0 :: a1 :: a2 :: some (.sc v) :: e) RD = we (a0 :: a1 :: a2 :: some (.sc v) :: e) fun y e1 => rd (.sc v) y fun z => RD.nx (e1.set 3 (some z)) := by simp [sAug]
@[simp ↓] theorem q_ne3 {a0 a1 a2 : Option D} {rd : RD2} {wb : WE} {R : D → En → Prop} : wBinNE rd 3 wb (a0 :: a1 :: a2 :: some d :: e) R = wb (a0 :: a1 :: a2 :: some d :: e) fun y e2 => ∃ x, e2[3]? = some (some x) ∧ rd x y fun z => R z e2 := by simp [wBinNE]
@[simp ↓ high] theorem q_neC3 {a0 a1 a2 : Option D} {rd : RD2} {R : D → En → Prop} {c : D} : wBinNE rd 3 (wC c) (a0 :: a1 :: a2 :: some d :: e) R = rd d c fun z => R z (a0 :: a1 :: a2 :: some d :: e) := by simp [wBinNE, wC]
@[simp ↓ high] theorem q_neV3 {a0 a1 a2 : Option D} {rd : RD2} {R : D → En → Prop} {j : Nat} : wBinNE rd 3 (wVal j) (a0 :: a1 :: a2 :: some d :: e) R = wVal j (a0 :: a1 :: a2 :: some d :: e) fun y e2 => rd d y fun z => R z e2 := by
  apply propext; simp only [wBinNE, wVal]; constructor
  · rintro ⟨_, y, h1, h2, x, h3, h4⟩; simp at h3; subst h3; exact ⟨y, h1, h2, h4⟩
  · rintro ⟨y, h1, h2, h4⟩; exact ⟨⟨d, by simp⟩, y, h1, h2, d, by simp, h4⟩
@[simp ↓] theorem q_app3 {a0 a1 a2 : Option D} {kf : Bool} {we : WE} {R : D → En → Prop} : wAppN kf 3 we (a0 :: a1 :: a2 :: some (.obj true .lst xs) :: e) R = we (a0 :: a1 :: a2 :: some (.obj true .lst xs) :: e) fun y e1 => ownL (e1[3]?) fun xs => xs.length < sizeLine ∧ R .non (e1.set 3 (some (.lst true (xs ++ [inK kf y])))) := by simp [wAppN, ownL]
@[simp ↓] theorem q_popN3 {a0 a1 a2 : Option D} {wi : WE} {R : D → En → Prop} : wPopAtN 3 wi (a0 :: a1 :: a2 :: some (.obj true .lst xs) :: e) R = wi (a0 :: a1 :: a2 :: some (.obj true .lst xs) :: e) fun k e1 => asI k fun kk => ownL (e1[3]?) fun xs => -(2 ^ 63) ≤ kk ∧ kk < 2 ^ 63 ∧ ∃ j x, L2.ixN xs.length kk = some j ∧ xs[j]? = some x ∧ x.fz = true ∧ R x (e1.set 3 (some (.lst true (xs.eraseIdx j)))) := by simp [wPopAtN, ownL]
@[simp ↓] theorem q_ins3 {a0 a1 a2 : Option D} {wi we : WE} {R : D → En → Prop} : wInsN 3 wi we (a0 :: a1 :: a2 :: some (.obj true .lst xs) :: e) R = wi (a0 :: a1 :: a2 :: some (.obj true .lst xs) :: e) fun k e1 => asI k fun kk => we e1 fun y e2 => ownL (e2[3]?) fun xs => D.fzL xs = true ∧ xs.length < sizeLine ∧ 0 ≤ kk ∧ kk < 2 ^ 63 ∧ R .non (e2.set 3 (some (.lst true (xs.take kk.toNat ++ [y.frz] ++ xs.drop kk.toNat)))) := by simp [wInsN, ownL]
@[simp ↓] theorem q_augN3 {a0 a1 a2 : Option D} {rd : RD2} {wi we : WE} {RD : EN} : sAugNx rd 3 wi we (a0 :: a1 :: a2 :: some d :: e) RD = wi (a0 :: a1 :: a2 :: some d :: e) fun k e1 => asI k fun kk => ownL (e1[3]?) fun xs => ∃ j x, L2.ixN xs.length kk = some j ∧ xs[j]? = some x ∧ x.fz = true ∧ we e1 fun y e2 => ownL (e2[3]?) fun ys => ∃ j2, L2.ixN ys.length kk = some j2 ∧ rd x y fun z => RD.nx (e2.set 3 (some (.lst true (ys.set j2 z)))) := by simp [sAugNx]
@[simp ↓] theorem q_set3 {a0 a1 a2 : Option D} {q : Option D} : List.set (a0 :: a1 :: a2 :: o :: e) 3 q = (a0 :: a1 :: a2 :: q :: e) := by simp
@[simp ↓] theorem q_get3 {a0 a1 a2 : Option D} : ((a0 :: a1 :: a2 :: o :: e) : En)[3]? = some o := by simp
@[simp ↓] theorem q_val4 {a0 a1 a2 a3 : Option D} {R : D → En → Prop} : wVal 4 (a0 :: a1 :: a2 :: a3 :: some d :: e) R = (d.fz = true ∧ R d (a0 :: a1 :: a2 :: a3 :: some d :: e)) := by simp [wVal]
@[simp ↓ high] theorem q_valS4 {a0 a1 a2 a3 : Option D} {R : D → En → Prop} : wVal 4 (a0 :: a1 :: a2 :: a3 :: some (.sc v) :: e) R = R (.sc v) (a0 :: a1 :: a2 :: a3 :: some (.sc v) :: e) := by simp [wVal]
@[simp ↓] theorem q_var4 {a0 a1 a2 a3 : Option D} {R : D → En → Prop} : wVar 4 (a0 :: a1 :: a2 :: a3 :: some d :: e) R = R d.frz (a0 :: a1 :: a2 :: a3 :: some d.frz :: e) := by simp [wVar]
@[simp ↓ high] theorem q_varL4 {a0 a1 a2 a3 : Option D} {R : D → En → Prop} {w : Bool} : wVar 4 (a0 :: a1 :: a2 :: a3 :: some (.obj w .lst xs) :: e) R = R (.obj false .lst (D.frzL xs)) (a0 :: a1 :: a2 :: a3 :: some (.obj false .lst (D.frzL xs)) :: e) := by simp [wVar]
@[simp ↓] theorem q_move4 {a0 a1 a2 a3 : Option D} {R : D → En → Prop} : wMove 4 (a0 :: a1 :: a2 :: a3 :: some d :: e) R = R d (a0 :: a1 :: a2 :: a3 :: none :: e) := by simp [wMove]
@[simp ↓] theorem q_bn4 {a0 a1 a2 a3 : Option D} {R : D → Prop} : bName 4 (a0 :: a1 :: a2 :: a3 :: some d :: e) R = R d := by simp [bName]
@[simp ↓] theorem q_mn4 {a0 a1 a2 a3 : Option D} {R : Nat → D → (D → D) → Prop} : mName 4 (a0 :: a1 :: a2 :: a3 :: some d :: e) R = R 4 d id := by simp [mName]
@[simp ↓] theorem q_gn4 {a0 a1 a2 a3 : Option D} {R : En → Prop} : gNm 4 d (a0 :: a1 :: a2 :: a3 :: o :: e) R = R (a0 :: a1 :: a2 :: a3 :: some d :: e) := by simp [gNm]
@[simp ↓] theorem q_gf4 {a0 a1 a2 a3 : Option D} {R : En → Prop} : gFz 4 d (a0 :: a1 :: a2 :: a3 :: o :: e) R = R (a0 :: a1 :: a2 :: a3 :: some d.frz :: e) := by simp [gFz]
@[simp ↓ high] theorem q_gfS4 {a0 a1 a2 a3 : Option D} {R : En → Prop} : gFz 4 (.sc v) (a0 :: a1 :: a2 :: a3 :: o :: e) R = R (a0 :: a1 :: a2 :: a3 :: some (.sc v) :: e) := by simp [gFz]
@[simp ↓ high] theorem q_gfT4 {a0 a1 a2 a3 : Option D} {R : En → Prop} : gFz 4 (.tup xs) (a0 :: a1 :: a2 :: a3 :: o :: e) R = R (a0 :: a1 :: a2 :: a3 :: some (.tup (D.frzL xs)) :: e) := by simp [gFz]
@[simp ↓ high] theorem q_gfL4 {a0 a1 a2 a3 : Option D} {R : En → Prop} {w : Bool} : gFz 4 (.obj w .lst xs) (a0 :: a1 :: a2 :: a3 :: o :: e) R = R (a0 :: a1 :: a2 :: a3 :: some (.obj false .lst (D.frzL xs)) :: e) := by simp [gFz]
@[simp ↓] theorem q_ref4 {a0 a1 a2 a3 : Option D} {wc : WC} {R : List AV → En → Prop} : cRef 4 wc (a0 :: a1 :: a2 :: a3 :: some d :: e) R = wc (a0 :: a1 :: a2 :: a3 :: some d :: e) fun is e2 => R (.ref 4 :: is) e2 := by simp [cRef]
@[simp ↓] theorem q_aug4 {a0 a1 a2 a3 : Option D} {rd : RD2} {we : WE} {RD : EN} : sAug 4 rd we (a0 :: a1 :: a2 :: a3 :: some (.sc v) :: e) RD = we (a0 :: a1 :: a2 :: a3 :: some (.sc v) :: e) fun y e1 => rd (.sc v) y fun z => RD.nx (e1.set 4 (some z)) := by simp [sAug]
@[simp ↓] theorem q_ne4 {a0 a1 a2 a3 : Option D} {rd : RD2} {wb : WE} {R : D → En → Prop} : wBinNE rd 4 wb (a0 :: a1 :: a2 :: a3 :: some d :: e) R = wb (a0 :: a1 :: a2 :: a3 :: some d :: e) fun y e2 => ∃ x, e2[4]? = some (some x) ∧ rd x y fun z => R z e2 := by simp [wBinNE]
@[simp ↓ high] theorem q_neC4 {a0 a1 a2 a3 : Option D} {rd : RD2} {R : D → En → Prop} {c : D} : wBinNE rd 4 (wC c) (a0 :: a1 :: a2 :: a3 :: some d :: e) R = rd d c fun z => R z (a0 :: a1 :: a2 :: a3 :: some d :: e) := by simp [wBinNE, wC]
@[simp ↓ high] theorem q_neV4 {a0 a1 a2 a3 : Option D} {rd : RD2} {R : D → En → Prop} {j : Nat} : wBinNE rd 4 (wVal j) (a0 :: a1 :: a2 :: a3 :: some d :: e) R = wVal j (a0 :: a1 :: a2 :: a3 :: some d :: e) fun y e2 => rd d y fun z => R z e2 := by
  apply propext; simp only [wBinNE, wVal]; constructor
  · rintro ⟨_, y, h1, h2, x, h3, h4⟩; simp at h3; subst h3; exact ⟨y, h1, h2, h4⟩
  · rintro ⟨y, h1, h2, h4⟩; exact ⟨⟨d, by simp⟩, y, h1, h2, d, by simp, h4⟩
@[simp ↓] theorem q_app4 {a0 a1 a2 a3 : Option D} {kf : Bool} {we : WE} {R : D → En → Prop} : wAppN kf 4 we (a0 :: a1 :: a2 :: a3 :: some (.obj true .lst xs) :: e) R = we (a0 :: a1 :: a2 :: a3 :: some (.obj true .lst xs) :: e) fun y e1 => ownL (e1[4]?) fun xs => xs.length < sizeLine ∧ R .non (e1.set 4 (some (.lst true (xs ++ [inK kf y])))) := by simp [wAppN, ownL]
@[simp ↓] theorem q_popN4 {a0 a1 a2 a3 : Option D} {wi : WE} {R : D → En → Prop} : wPopAtN 4 wi (a0 :: a1 :: a2 :: a3 :: some (.obj true .lst xs) :: e) R = wi (a0 :: a1 :: a2 :: a3 :: some (.obj true .lst xs) :: e) fun k e1 => asI k fun kk => ownL (e1[4]?) fun xs => -(2 ^ 63) ≤ kk ∧ kk < 2 ^ 63 ∧ ∃ j x, L2.ixN xs.length kk = some j ∧ xs[j]? = some x ∧ x.fz = true ∧ R x (e1.set 4 (some (.lst true (xs.eraseIdx j)))) := by simp [wPopAtN, ownL]
@[simp ↓] theorem q_ins4 {a0 a1 a2 a3 : Option D} {wi we : WE} {R : D → En → Prop} : wInsN 4 wi we (a0 :: a1 :: a2 :: a3 :: some (.obj true .lst xs) :: e) R = wi (a0 :: a1 :: a2 :: a3 :: some (.obj true .lst xs) :: e) fun k e1 => asI k fun kk => we e1 fun y e2 => ownL (e2[4]?) fun xs => D.fzL xs = true ∧ xs.length < sizeLine ∧ 0 ≤ kk ∧ kk < 2 ^ 63 ∧ R .non (e2.set 4 (some (.lst true (xs.take kk.toNat ++ [y.frz] ++ xs.drop kk.toNat)))) := by simp [wInsN, ownL]
@[simp ↓] theorem q_augN4 {a0 a1 a2 a3 : Option D} {rd : RD2} {wi we : WE} {RD : EN} : sAugNx rd 4 wi we (a0 :: a1 :: a2 :: a3 :: some d :: e) RD = wi (a0 :: a1 :: a2 :: a3 :: some d :: e) fun k e1 => asI k fun kk => ownL (e1[4]?) fun xs => ∃ j x, L2.ixN xs.length kk = some j ∧ xs[j]? = some x ∧ x.fz = true ∧ we e1 fun y e2 => ownL (e2[4]?) fun ys => ∃ j2, L2.ixN ys.length kk = some j2 ∧ rd x y fun z => RD.nx (e2.set 4 (some (.lst true (ys.set j2 z)))) := by simp [sAugNx]
@[simp ↓] theorem q_set4 {a0 a1 a2 a3 : Option D} {q : Option D} : List.set (a0 :: a1 :: a2 :: a3 :: o :: e) 4 q = (a0 :: a1 :: a2 :: a3 :: q :: e) := by simp
@[simp ↓] theorem q_get4 {a0 a1 a2 a3 : Option D} : ((a0 :: a1 :: a2 :: a3 :: o :: e) : En)[4]? = some o := by simp
@[simp ↓] theorem q_val5 {a0 a1 a2 a3 a4 : Option D} {R : D → En → Prop} : wVal 5 (a0 :: a1 :: a2 :: a3 :: a4 :: some d :: e) R = (d.fz = true ∧ R d (a0 :: a1 :: a2 :: a3 :: a4 :: some d :: e)) := by simp [wVal]
@[simp ↓ high] theorem q_valS5 {a0 a1 a2 a3 a4 : Option D} {R : D → En → Prop} : wVal 5 (a0 :: a1 :: a2 :: a3 :: a4 :: some (.sc v) :: e) R = R (.sc v) (a0 :: a1 :: a2 :: a3 :: a4 :: some (.sc v) :: e) := by simp [wVal]
@[simp ↓] theorem q_var5 {a0 a1 a2 a3 a4 : Option D} {R : D → En → Prop} : wVar 5 (a0 :: a1 :: a2 :: a3 :: a4 :: some d :: e) R = R d.frz (a0 :: a1 :: a2 :: a3 :: a4 :: some d.frz :: e) := by simp [wVar]
@[simp ↓ high] theorem q_varL5 {a0 a1 a2 a3 a4 : Option D} {R : D → En → Prop} {w : Bool} : wVar 5 (a0 :: a1 :: a2 :: a3 :: a4 :: some (.obj w .lst xs) :: e) R = R (.obj false .lst (D.frzL xs)) (a0 :: a1 :: a2 :: a3 :: a4 :: some (.obj false .lst (D.frzL xs)) :: e) := by simp [wVar]
@[simp ↓] theorem q_move5 {a0 a1 a2 a3 a4 : Option D} {R : D → En → Prop} : wMove 5 (a0 :: a1 :: a2 :: a3 :: a4 :: some d :: e) R = R d (a0 :: a1 :: a2 :: a3 :: a4 :: none :: e) := by simp [wMove]
@[simp ↓] theorem q_bn5 {a0 a1 a2 a3 a4 : Option D} {R : D → Prop} : bName 5 (a0 :: a1 :: a2 :: a3 :: a4 :: some d :: e) R = R d := by simp [bName]
@[simp ↓] theorem q_mn5 {a0 a1 a2 a3 a4 : Option D} {R : Nat → D → (D → D) → Prop} : mName 5 (a0 :: a1 :: a2 :: a3 :: a4 :: some d :: e) R = R 5 d id := by simp [mName]
@[simp ↓] theorem q_gn5 {a0 a1 a2 a3 a4 : Option D} {R : En → Prop} : gNm 5 d (a0 :: a1 :: a2 :: a3 :: a4 :: o :: e) R = R (a0 :: a1 :: a2 :: a3 :: a4 :: some d :: e) := by simp [gNm]
@[simp ↓] theorem q_gf5 {a0 a1 a2 a3 a4 : Option D} {R : En → Prop} : gFz 5 d (a0 :: a1 :: a2 :: a3 :: a4 :: o :: e) R = R (a0 :: a1 :: a2 :: a3 :: a4 :: some d.frz :: e) := by simp [gFz]
@[simp ↓ high] theorem q_gfS5 {a0 a1 a2 a3 a4 : Option D} {R : En → Prop} : gFz 5 (.sc v) (a0 :: a1 :: a2 :: a3 :: a4 :: o :: e) R = R (a0 :: a1 :: a2 :: a3 :: a4 :: some (.sc v) :: e) := by simp [gFz]
@[simp ↓ high] theorem q_gfT5 {a0 a1 a2 a3 a4 : Option D} {R : En → Prop} : gFz 5 (.tup xs) (a0 :: a1 :: a2 :: a3 :: a4 :: o :: e) R = R (a0 :: a1 :: a2 :: a3 :: a4 :: some (.tup (D.frzL xs)) :: e) := by simp [gFz]
@[simp ↓ high] theorem q_gfL5 {a0 a1 a2 a3 a4 : Option D} {R : En → Prop} {w : Bool} : gFz 5 (.obj w .lst xs) (a0 :: a1 :: a2 :: a3 :: a4 :: o :: e) R = R (a0 :: a1 :: a2 :: a3 :: a4 :: some (.obj false .lst (D.frzL xs)) :: e) := by simp [gFz]
@[simp ↓] theorem q_ref5 {a0 a1 a2 a3 a4 : Option D} {wc : WC} {R : List AV → En → Prop} : cRef 5 wc (a0 :: a1 :: a2 :: a3 :: a4 :: some d :: e) R = wc (a0 :: a1 :: a2 :: a3 :: a4 :: some d :: e) fun is e2 => R (.ref 5 :: is) e2 := by simp [cRef]
@[simp ↓] theorem q_aug5 {a0 a1 a2 a3 a4 : Option D} {rd : RD2} {we : WE} {RD : EN} : sAug 5 rd we (a0 :: a1 :: a2 :: a3 :: a4 :: some (.sc v) :: e) RD = we (a0 :: a1 :: a2 :: a3 :: a4 :: some (.sc v) :: e) fun y e1 => rd (.sc v) y fun z => RD.nx (e1.set 5 (some z)) := by simp [sAug]
@[simp ↓] theorem q_ne5 {a0 a1 a2 a3 a4 : Option D} {rd : RD2} {wb : WE} {R : D → En → Prop} : wBinNE rd 5 wb (a0 :: a1 :: a2 :: a3 :: a4 :: some d :: e) R = wb (a0 :: a1 :: a2 :: a3 :: a4 :: some d :: e) fun y e2 => ∃ x, e2[5]? = some (some x) ∧ rd x y fun z => R z e2 := by simp [wBinNE]
@[simp ↓ high] theorem q_neC5 {a0 a1 a2 a3 a4 : Option D} {rd : RD2} {R : D → En → Prop} {c : D} : wBinNE rd 5 (wC c) (a0 :: a1 :: a2 :: a3 :: a4 :: some d :: e) R = rd d c fun z => R z (a0 :: a1 :: a2 :: a3 :: a4 :: some d :: e) := by simp [wBinNE, wC]
@[simp ↓ high] theorem q_neV5 {a0 a1 a2 a3 a4 : Option D} {rd : RD2} {R : D → En → Prop} {j : Nat} : wBinNE rd 5 (wVal j) (a0 :: a1 :: a2 :: a3 :: a4 :: some d :: e) R = wVal j (a0 :: a1 :: a2 :: a3 :: a4 :: some d :: e) fun y e2 => rd d y fun z => R z e2 := by
  apply propext; simp only [wBinNE, wVal]; constructor
  · rintro ⟨_, y, h1, h2, x, h3, h4⟩; simp at h3; subst h3; exact ⟨y, h1, h2, h4⟩
  · rintro ⟨y, h1, h2, h4⟩; exact ⟨⟨d, by simp⟩, y, h1, h2, d, by simp, h4⟩
@[simp ↓] theorem q_app5 {a0 a1 a2 a3 a4 : Option D} {kf : Bool} {we : WE} {R : D → En → Prop} : wAppN kf 5 we (a0 :: a1 :: a2 :: a3 :: a4 :: some (.obj true .lst xs) :: e) R = we (a0 :: a1 :: a2 :: a3 :: a4 :: some (.obj true .lst xs) :: e) fun y e1 => ownL (e1[5]?) fun xs => xs.length < sizeLine ∧ R .non (e1.set 5 (some (.lst true (xs ++ [inK kf y])))) := by simp [wAppN, ownL]
@[simp ↓] theorem q_popN5 {a0 a1 a2 a3 a4 : Option D} {wi : WE} {R : D → En → Prop} : wPopAtN 5 wi (a0 :: a1 :: a2 :: a3 :: a4 :: some (.obj true .lst xs) :: e) R = wi (a0 :: a1 :: a2 :: a3 :: a4 :: some (.obj true .lst xs) :: e) fun k e1 => asI k fun kk => ownL (e1[5]?) fun xs => -(2 ^ 63) ≤ kk ∧ kk < 2 ^ 63 ∧ ∃ j x, L2.ixN xs.length kk = some j ∧ xs[j]? = some x ∧ x.fz = true ∧ R x (e1.set 5 (some (.lst true (xs.eraseIdx j)))) := by simp [wPopAtN, ownL]
@[simp ↓] theorem q_ins5 {a0 a1 a2 a3 a4 : Option D} {wi we : WE} {R : D → En → Prop} : wInsN 5 wi we (a0 :: a1 :: a2 :: a3 :: a4 :: some (.obj true .lst xs) :: e) R = wi (a0 :: a1 :: a2 :: a3 :: a4 :: some (.obj true .lst xs) :: e) fun k e1 => asI k fun kk => we e1 fun y e2 => ownL (e2[5]?) fun xs => D.fzL xs = true ∧ xs.length < sizeLine ∧ 0 ≤ kk ∧ kk < 2 ^ 63 ∧ R .non (e2.set 5 (some (.lst true (xs.take kk.toNat ++ [y.frz] ++ xs.drop kk.toNat)))) := by simp [wInsN, ownL]
@[simp ↓] theorem q_augN5 {a0 a1 a2 a3 a4 : Option D} {rd : RD2} {wi we : WE} {RD : EN} : sAugNx rd 5 wi we (a0 :: a1 :: a2 :: a3 :: a4 :: some d :: e) RD = wi (a0 :: a1 :: a2 :: a3 :: a4 :: some d :: e) fun k e1 => asI k fun kk => ownL (e1[5]?) fun xs => ∃ j x, L2.ixN xs.length kk = some j ∧ xs[j]? = some x ∧ x.fz = true ∧ we e1 fun y e2 => ownL (e2[5]?) fun ys => ∃ j2, L2.ixN ys.length kk = some j2 ∧ rd x y fun z => RD.nx (e2.set 5 (some (.lst true (ys.set j2 z)))) := by simp [sAugNx]
@[simp ↓] theorem q_set5 {a0 a1 a2 a3 a4 : Option D} {q : Option D} : List.set (a0 :: a1 :: a2 :: a3 :: a4 :: o :: e) 5 q = (a0 :: a1 :: a2 :: a3 :: a4 :: q :: e) := by simp
@[simp ↓] theorem q_get5 {a0 a1 a2 a3 a4 : Option D} : ((a0 :: a1 :: a2 :: a3 :: a4 :: o :: e) : En)[5]? = some o := by simp
@[simp ↓] theorem q_val6 {a0 a1 a2 a3 a4 a5 : Option D} {R : D → En → Prop} : wVal 6 (a0 :: a1 :: a2 :: a3 :: a4 :: a5 :: some d :: e) R = (d.fz = true ∧ R d (a0 :: a1 :: a2 :: a3 :: a4 :: a5 :: some d :: e)) := by simp [wVal]
@[simp ↓ high] theorem q_valS6 {a0 a1 a2 a3 a4 a5 : Option D} {R : D → En → Prop} : wVal 6 (a0 :: a1 :: a2 :: a3 :: a4 :: a5 :: some (.sc v) :: e) R = R (.sc v) (a0 :: a1 :: a2 :: a3 :: a4 :: a5 :: some (.sc v) :: e) := by simp [wVal]
@[simp ↓] theorem q_var6 {a0 a1 a2 a3 a4 a5 : Option D} {R : D → En → Prop} : wVar 6 (a0 :: a1 :: a2 :: a3 :: a4 :: a5 :: some d :: e) R = R d.frz (a0 :: a1 :: a2 :: a3 :: a4 :: a5 :: some d.frz :: e) := by simp [wVar]
@[simp ↓ high] theorem q_varL6 {a0 a1 a2 a3 a4 a5 : Option D} {R : D → En → Prop} {w : Bool} : wVar 6 (a0 :: a1 :: a2 :: a3 :: a4 :: a5 :: some (.obj w .lst xs) :: e) R = R (.obj false .lst (D.frzL xs)) (a0 :: a1 :: a2 :: a3 :: a4 :: a5 :: some (.obj false .lst (D.frzL xs)) :: e) := by simp [wVar]
@[simp ↓] theorem q_move6 {a0 a1 a2 a3 a4 a5 : Option D} {R : D → En → Prop} : wMove 6 (a0 :: a1 :: a2 :: a3 :: a4 :: a5 :: some d :: e) R = R d (a0 :: a1 :: a2 :: a3 :: a4 :: a5 :: none :: e) := by simp [wMove]
@[simp ↓] theorem q_bn6 {a0 a1 a2 a3 a4 a5 : Option D} {R : D → Prop} : bName 6 (a0 :: a1 :: a2 :: a3 :: a4 :: a5 :: some d :: e) R = R d := by simp [bName]
@[simp ↓] theorem q_mn6 {a0 a1 a2 a3 a4 a5 : Option D} {R : Nat → D → (D → D) → Prop} : mName 6 (a0 :: a1 :: a2 :: a3 :: a4 :: a5 :: some d :: e) R = R 6 d id := by simp [mName]
@[simp ↓] theorem q_gn6 {a0 a1 a2 a3 a4 a5 : Option D} {R : En → Prop} : gNm 6 d (a0 :: a1 :: a2 :: a3 :: a4 :: a5 :: o :: e) R = R (a0 :: a1 :: a2 :: a3 :: a4 :: a5 :: some d :: e) := by simp [gNm]
@[simp ↓] theorem q_gf6 {a0 a1 a2 a3 a4 a5 : Option D} {R : En → Prop} : gFz 6 d (a0 :: a1 :: a2 :: a3 :: a4 :: a5 :: o :: e) R = R (a0 :: a1 :: a2 :: a3 :: a4 :: a5 :: some d.frz :: e) := by simp [gFz]
@[simp ↓ high] theorem q_gfS6 {a0 a1 a2 a3 a4 a5 : Option D} {R : En → Prop} : gFz 6 (.sc v) (a0 :: a1 :: a2 :: a3 :: a4 :: a5 :: o :: e) R = R (a0 :: a1 :: a2 :: a3 :: a4 :: a5 :: some (.sc v) :: e) := by simp [gFz]
@[simp ↓ high] theorem q_gfT6 {a0 a1 a2 a3 a4 a5 : Option D} {R : En → Prop} : gFz 6 (.tup xs) (a0 :: a1 :: a2 :: a3 :: a4 :: a5 :: o :: e) R = R (a0 :: a1 :: a2 :: a3 :: a4 :: a5 :: some (.tup (D.frzL xs)) :: e) := by simp [gFz]
@[simp ↓ high] theorem q_gfL6 {a0 a1 a2 a3 a4 a5 : Option D} {R : En → Prop} {w : Bool} : gFz 6 (.obj w .lst xs) (a0 :: a1 :: a2 :: a3 :: a4 :: a5 :: o :: e) R = R (a0 :: a1 :: a2 :: a3 :: a4 :: a5 :: some (.obj false .lst (D.frzL xs)) :: e) := by simp [gFz]
@[simp ↓] theorem q_ref6 {a0 a1 a2 a3 a4 a5 : Option D} {wc : WC} {R : List AV → En → Prop} : cRef 6 wc (a0 :: a1 :: a2 :: a3 :: a4 :: a5 :: some d :: e) R = wc (a0 :: a1 :: a2 :: a3 :: a4 :: a5 :: some d :: e) fun is e2 => R (.ref 6 :: is) e2 := by simp [cRef]
@[simp ↓] theorem q_aug6 {a0 a1 a2 a3 a4 a5 : Option D} {rd : RD2} {we : WE} {RD : EN} : sAug 6 rd we (a0 :: a1 :: a2 :: a3 :: a4 :: a5 :: some (.sc v) :: e) RD = we (a0 :: a1 :: a2 :: a3 :: a4 :: a5 :: some (.sc v) :: e) fun y e1 => rd (.sc v) y fun z => RD.nx (e1.set 6 (some z)) := by simp [sAug]
@[simp ↓] theorem q_ne6 {a0 a1 a2 a3 a4 a5 : Option D} {rd : RD2} {wb : WE} {R : D → En → Prop} : wBinNE rd 6 wb (a0 :: a1 :: a2 :: a3 :: a4 :: a5 :: some d :: e) R = wb (a0 :: a1 :: a2 :: a3 :: a4 :: a5 :: some d :: e) fun y e2 => ∃ x, e2[6]? = some (some x) ∧ rd x y fun z => R z e2 := by simp [wBinNE]
@[simp ↓ high] theorem q_neC6 {a0 a1 a2 a3 a4 a5 : Option D} {rd : RD2} {R : D → En → Prop} {c : D} : wBinNE rd 6 (wC c) (a0 :: a1 :: a2 :: a3 :: a4 :: a5 :: some d :: e) R = rd d c fun z => R z (a0 :: a1 :: a2 :: a3 :: a4 :: a5 :: some d :: e) := by simp [wBinNE, wC]
@[simp ↓ high] theorem q_neV6 {a0 a1 a2 a3 a4 a5 : Option D} {rd : RD2} {R : D → En → Prop} {j : Nat} : wBinNE rd 6 (wVal j) (a0 :: a1 :: a2 :: a3 :: a4 :: a5 :: some d :: e) R = wVal j (a0 :: a1 :: a2 :: a3 :: a4 :: a5 :: some d :: e) fun y e2 => rd d y fun z => R z e2 := by
  apply propext; simp only [wBinNE, wVal]; constructor
  · rintro ⟨_, y, h1, h2, x, h3, h4⟩; simp at h3; subst h3; exact ⟨y, h1, h2, h4⟩
  · rintro ⟨y, h1, h2, h4⟩; exact ⟨⟨d, by simp⟩, y, h1, h2, d, by simp, h4⟩
@[simp ↓] theorem q_app6 {a0 a1 a2 a3 a4 a5 : Option D} {kf : Bool} {we : WE} {R : D → En → Prop} : wAppN kf 6 we (a0 :: a1 :: a2 :: a3 :: a4 :: a5 :: some (.obj true .lst xs) :: e) R = we (a0 :: a1 :: a2 :: a3 :: a4 :: a5 :: some (.obj true .lst xs) :: e) fun y e1 => ownL (e1[6]?) fun xs => xs.length < sizeLine ∧ R .non (e1.set 6 (some (.lst true (xs ++ [inK kf y])))) := by simp [wAppN, ownL]
@[simp ↓] theorem q_popN6 {a0 a1 a2 a3 a4 a5 : Option D} {wi : WE} {R : D → En → Prop} : wPopAtN 6 wi (a0 :: a1 :: a2 :: a3 :: a4 :: a5 :: some (.obj true .lst xs) :: e) R = wi (a0 :: a1 :: a2 :: a3 :: a4 :: a5 :: some (.obj true .lst xs) :: e) fun k e1 => asI k fun kk => ownL (e1[6]?) fun xs => -(2 ^ 63) ≤ kk ∧ kk < 2 ^ 63 ∧ ∃ j x, L2.ixN xs.length kk = some j ∧ xs[j]? = some x ∧ x.fz = true ∧ R x (e1.set 6 (some (.lst true (xs.eraseIdx j)))) := by simp [wPopAtN, ownL]
@[simp ↓] theorem q_ins6 {a0 a1 a2 a3 a4 a5 : Option D} {wi we : WE} {R : D → En → Prop} : wInsN 6 wi we (a0 :: a1 :: a2 :: a3 :: a4 :: a5 :: some (.obj true .lst xs) :: e) R = wi (a0 :: a1 :: a2 :: a3 :: a4 :: a5 :: some (.obj true .lst xs) :: e) fun k e1 => asI k fun kk => we e1 fun y e2 => ownL (e2[6]?) fun xs => D.fzL xs = true ∧ xs.length < sizeLine ∧ 0 ≤ kk ∧ kk < 2 ^ 63 ∧ R .non (e2.set 6 (some (.lst true (xs.take kk.toNat ++ [y.frz] ++ xs.drop kk.toNat)))) := by simp [wInsN, ownL]
@[simp ↓] theorem q_augN6 {a0 a1 a2 a3 a4 a5 : Option D} {rd : RD2} {wi we : WE} {RD : EN} : sAugNx rd 6 wi we (a0 :: a1 :: a2 :: a3 :: a4 :: a5 :: some d :: e) RD = wi (a0 :: a1 :: a2 :: a3 :: a4 :: a5 :: some d :: e) fun k e1 => asI k fun kk => ownL (e1[6]?) fun xs => ∃ j x, L2.ixN xs.length kk = some j ∧ xs[j]? = some x ∧ x.fz = true ∧ we e1 fun y e2 => ownL (e2[6]?) fun ys => ∃ j2, L2.ixN ys.length kk = some j2 ∧ rd x y fun z => RD.nx (e2.set 6 (some (.lst true (ys.set j2 z)))) := by simp [sAugNx]
@[simp ↓] theorem q_set6 {a0 a1 a2 a3 a4 a5 : Option D} {q : Option D} : List.set (a0 :: a1 :: a2 :: a3 :: a4 :: a5 :: o :: e) 6 q = (a0 :: a1 :: a2 :: a3 :: a4 :: a5 :: q :: e) := by simp
@[simp ↓] theorem q_get6 {a0 a1 a2 a3 a4 a5 : Option D} : ((a0 :: a1 :: a2 :: a3 :: a4 :: a5 :: o :: e) : En)[6]? = some o := by simp
@[simp ↓] theorem q_val7 {a0 a1 a2 a3 a4 a5 a6 : Option D} {R : D → En → Prop} : wVal 7 (a0 :: a1 :: a2 :: a3 :: a4 :: a5 :: a6 :: some d :: e) R = (d.fz = true ∧ R d (a0 :: a1 :: a2 :: a3 :: a4 :: a5 :: a6 :: some d :: e)) := by simp [wVal]
@[simp ↓ high] theorem q_valS7 {a0 a1 a2 a3 a4 a5 a6 : Option D} {R : D → En → Prop} : wVal 7 (a0 :: a1 :: a2 :: a3 :: a4 :: a5 :: a6 :: some (.sc v) :: e) R = R (.sc v) (a0 :: a1 :: a2 :: a3 :: a4 :: a5 :: a6 :: some (.sc v) :: e) := by simp [wVal]
@[simp ↓] theorem q_var7 {a0 a1 a2 a3 a4 a5 a6 : Option D} {R : D → En → Prop} : wVar 7 (a0 :: a1 :: a2 :: a3 :: a4 :: a5 :: a6 :: some d :: e) R = R d.frz (a0 :: a1 :: a2 :: a3 :: a4 :: a5 :: a6 :: some d.frz :: e) := by simp [wVar]
@[simp ↓ high] theorem q_varL7 {a0 a1 a2 a3 a4 a5 a6 : Option D} {R : D → En → Prop} {w : Bool} : wVar 7 (a0 :: a1 :: a2 :: a3 :: a4 :: a5 :: a6 :: some (.obj w .lst xs) :: e) R = R (.obj false .lst (D.frzL xs)) (a0 :: a1 :: a2 :: a3 :: a4 :: a5 :: a6 :: some (.obj false .lst (D.frzL xs)) :: e) := by simp [wVar]
@[simp ↓] theorem q_move7 {a0 a1 a2 a3 a4 a5 a6 : Option D} {R : D → En → Prop} : wMove 7 (a0 :: a1 :: a2 :: a3 :: a4 :: a5 :: a6 :: some d :: e) R = R d (a0 :: a1 :: a2 :: a3 :: a4 :: a5 :: a6 :: none :: e) := by simp [wMove]
@[simp ↓] theorem q_bn7 {a0 a1 a2 a3 a4 a5 a6 : Option D} {R : D → Prop} : bName 7 (a0 :: a1 :: a2 :: a3 :: a4 :: a5 :: a6 :: some d :: e) R = R d := by simp [bName]
@[simp ↓] theorem q_mn7 {a0 a1 a2 a3 a4 a5 a6 : Option D} {R : Nat → D → (D → D) → Prop} : mName 7 (a0 :: a1 :: a2 :: a3 :: a4 :: a5 :: a6 :: some d :: e) R = R 7 d id := by simp [mName]
@[simp ↓] theorem q_gn7 {a0 a1 a2 a3 a4 a5 a6 : Option D} {R : En → Prop} : gNm 7 d (a0 :: a1 :: a2 :: a3 :: a4 :: a5 :: a6 :: o :: e) R = R (a0 :: a1 :: a2 :: a3 :: a4 :: a5 :: a6 :: some d :: e) := by simp [gNm]
@[simp ↓] theorem q_gf7 {a0 a1 a2 a3 a4 a5 a6 : Option D} {R : En → Prop} : gFz 7 d (a0 :: a1 :: a2 :: a3 :: a4 :: a5 :: a6 :: o :: e) R = R (a0 :: a1 :: a2 :: a3 :: a4 :: a5 :: a6 :: some d.frz :: e) := by simp [gFz]
@[simp ↓ high] theorem q_gfS7 {a0 a1 a2 a3 a4 a5 a6 : Option D} {R : En → Prop} : gFz 7 (.sc v) (a0 :: a1 :: a2 :: a3 :: a4 :: a5 :: a6 :: o :: e) R = R (a0 :: a1 :: a2 :: a3 :: a4 :: a5 :: a6 :: some (.sc v) :: e) := by simp [gFz]
@[simp ↓ high] theorem q_gfT7 {a0 a1 a2 a3 a4 a5 a6 : Option D} {R : En → Prop} : gFz 7 (.tup xs) (a0 :: a1 :: a2 :: a3 :: a4 :: a5 :: a6 :: o :: e) R = R (a0 :: a1 :: a2 :: a3 :: a4 :: a5 :: a6 :: some (.tup (D.frzL xs)) :: e) := by simp [gFz]
@[simp ↓ high] theorem q_gfL7 {a0 a1 a2 a3 a4 a5 a6 : Option D} {R : En → Prop} {w : Bool} : gFz 7 (.obj w .lst xs) (a0 :: a1 :: a2 :: a3 :: a4 :: a5 :: a6 :: o :: e) R = R (a0 :: a1 :: a2 :: a3 :: a4 :: a5 :: a6 :: some (.obj false .lst (D.frzL xs)) :: e) := by simp [gFz]
@[simp ↓] theorem q_ref7 {a0 a1 a2 a3 a4 a5 a6 : Option D} {wc : WC} {R : List AV → En → Prop} : cRef 7 wc (a0 :: a1 :: a2 :: a3 :: a4 :: a5 :: a6 :: some d :: e) R = wc (a0 :: a1 :: a2 :: a3 :: a4 :: a5 :: a6 :: some d :: e) fun is e2 => R (.ref 7 :: is) e2 := by simp [cRef]
@[simp ↓] theorem q_aug7 {a0 a1 a2 a3 a4 a5 a6 : Option D} {rd : RD2} {we : WE} {RD : EN} : sAug 7 rd we (a0 :: a1 :: a2 :: a3 :: a4 :: a5 :: a6 :: some (.sc v) :: e) RD = we (a0 :: a1 :: a2 :: a3 :: a4 :: a5 :: a6 :: some (.sc v) :: e) fun y e1 => rd (.sc v) y fun z => RD.nx (e1.set 7 (some z)) := by simp [sAug]
@[simp ↓] theorem q_ne7 {a0 a1 a2 a3 a4 a5 a6 : Option D} {rd : RD2} {wb : WE} {R : D → En → Prop} : wBinNE rd 7 wb (a0 :: a1 :: a2 :: a3 :: a4 :: a5 :: a6 :: some d :: e) R = wb (a0 :: a1 :: a2 :: a3 :: a4 :: a5 :: a6 :: some d :: e) fun y e2 => ∃ x, e2[7]? = some (some x) ∧ rd x y fun z => R z e2 := by simp [wBinNE]
@[simp ↓ high] theorem q_neC7 {a0 a1 a2 a3 a4 a5 a6 : Option D} {rd : RD2} {R : D → En → Prop} {c : D} : wBinNE rd 7 (wC c) (a0 :: a1 :: a2 :: a3 :: a4 :: a5 :: a6 :: some d :: e) R = rd d c fun z => R z (a0 :: a1 :: a2 :: a3 :: a4 :: a5 :: a6 :: some d :: e) := by simp [wBinNE, wC]
@[simp ↓ high] theorem q_neV7 {a0 a1 a2 a3 a4 a5 a6 : Option D} {rd : RD2} {R : D → En → Prop} {j : Nat} : wBinNE rd 7 (wVal j) (a0 :: a1 :: a2 :: a3 :: a4 :: a5 :: a6 :: some d :: e) R = wVal j (a0 :: a1 :: a2 :: a3 :: a4 :: a5 :: a6 :: some d :: e) fun y e2 => rd d y fun z => R z e2 := by
  apply propext; simp only [wBinNE, wVal]; constructor
  · rintro ⟨_, y, h1, h2, x, h3, h4⟩; simp at h3; subst h3; exact ⟨y, h1, h2, h4⟩
  · rintro ⟨y, h1, h2, h4⟩; exact ⟨⟨d, by simp⟩, y, h1, h2, d, by simp, h4⟩
@[simp ↓] theorem q_app7 {a0 a1 a2 a3 a4 a5 a6 : Option D} {kf : Bool} {we : WE} {R : D → En → Prop} : wAppN kf 7 we (a0 :: a1 :: a2 :: a3 :: a4 :: a5 :: a6 :: some (.obj true .lst xs) :: e) R = we (a0 :: a1 :: a2 :: a3 :: a4 :: a5 :: a6 :: some (.obj true .lst xs) :: e) fun y e1 => ownL (e1[7]?) fun xs => xs.length < sizeLine ∧ R .non (e1.set 7 (some (.lst true (xs ++ [inK kf y])))) := by simp [wAppN, ownL]
@[simp ↓] theorem q_popN7 {a0 a1 a2 a3 a4 a5 a6 : Option D} {wi : WE} {R : D → En → Prop} : wPopAtN 7 wi (a0 :: a1 :: a2 :: a3 :: a4 :: a5 :: a6 :: some (.obj true .lst xs) :: e) R = wi (a0 :: a1 :: a2 :: a3 :: a4 :: a5 :: a6 :: some (.obj true .lst xs) :: e) fun k e1 => asI k fun kk => ownL (e1[7]?) fun xs => -(2 ^ 63) ≤ kk ∧ kk < 2 ^ 63 ∧ ∃ j x, L2.ixN xs.length kk = some j ∧ xs[j]? = some x ∧ x.fz = true ∧ R x (e1.set 7 (some (.lst true (xs.eraseIdx j)))) := by simp [wPopAtN, ownL]
@[simp ↓] theorem q_ins7 {a0 a1 a2 a3 a4 a5 a6 : Option D} {wi we : WE} {R : D → En → Prop} : wInsN 7 wi we (a0 :: a1 :: a2 :: a3 :: a4 :: a5 :: a6 :: some (.obj true .lst xs) :: e) R = wi (a0 :: a1 :: a2 :: a3 :: a4 :: a5 :: a6 :: some (.obj true .lst xs) :: e) fun k e1 => asI k fun kk => we e1 fun y e2 => ownL (e2[7]?) fun xs => D.fzL xs = true ∧ xs.length < sizeLine ∧ 0 ≤ kk ∧ kk < 2 ^ 63 ∧ R .non (e2.set 7 (some (.lst true (xs.take kk.toNat ++ [y.frz] ++ xs.drop kk.toNat)))) := by simp [wInsN, ownL]
@[simp ↓] theorem q_augN7 {a0 a1 a2 a3 a4 a5 a6 : Option D} {rd : RD2} {wi we : WE} {RD : EN} : sAugNx rd 7 wi we (a0 :: a1 :: a2 :: a3 :: a4 :: a5 :: a6 :: some d :: e) RD = wi (a0 :: a1 :: a2 :: a3 :: a4 :: a5 :: a6 :: some d :: e) fun k e1 => asI k fun kk => ownL (e1[7]?) fun xs => ∃ j x, L2.ixN xs.length kk = some j ∧ xs[j]? = some x ∧ x.fz = true ∧ we e1 fun y e2 => ownL (e2[7]?) fun ys => ∃ j2, L2.ixN ys.length kk = some j2 ∧ rd x y fun z => RD.nx (e2.set 7 (some (.lst true (ys.set j2 z)))) := by simp [sAugNx]
@[simp ↓] theorem q_set7 {a0 a1 a2 a3 a4 a5 a6 : Option D} {q : Option D} : List.set (a0 :: a1 :: a2 :: a3 :: a4 :: a5 :: a6 :: o :: e) 7 q = (a0 :: a1 :: a2 :: a3 :: a4 :: a5 :: a6 :: q :: e) := by simp
@[simp ↓] theorem q_get7 {a0 a1 a2 a3 a4 a5 a6 : Option D} : ((a0 :: a1 :: a2 :: a3 :: a4 :: a5 :: a6 :: o :: e) : En)[7]? = some o := by simp
@[simp ↓] theorem q_val8 {a0 a1 a2 a3 a4 a5 a6 a7 : Option D} {R : D → En → Prop} : wVal 8 (a0 :: a1 :: a2 :: a3 :: a4 :: a5 :: a6 :: a7 :: some d :: e) R = (d.fz = true ∧ R d (a0 :: a1 :: a2 :: a3 :: a4 :: a5 :: a6 :: a7 :: some d :: e)) := by simp [wVal]
@[simp ↓ high] theorem q_valS8 {a0 a1 a2 a3 a4 a5 a6 a7 : Option D} {R : D → En → Prop} : wVal 8 (a0 :: a1 :: a2 :: a3 :: a4 :: a5 :: a6 :: a7 :: some (.sc v) :: e) R = R (.sc v) (a0 :: a1 :: a2 :: a3 :: a4 :: a5 :: a6 :: a7 :: some (.sc v) :: e) := by simp [wVal]
@[simp ↓] theorem q_var8 {a0 a1 a2 a3 a4 a5 a6 a7 : Option D} {R : D → En → Prop} : wVar 8 (a0 :: a1 :: a2 :: a3 :: a4 :: a5 :: a6 :: a7 :: some d :: e) R = R d.frz (a0 :: a1 :: a2 :: a3 :: a4 :: a5 :: a6 :: a7 :: some d.frz :: e) := by simp [wVar]
@[simp ↓ high] theorem q_varL8 {a0 a1 a2 a3 a4 a5 a6 a7 : Option D} {R : D → En → Prop} {w : Bool} : wVar 8 (a0 :: a1 :: a2 :: a3 :: a4 :: a5 :: a6 :: a7 :: some (.obj w .lst xs) :: e) R = R (.obj false .lst (D.frzL xs)) (a0 :: a1 :: a2 :: a3 :: a4 :: a5 :: a6 :: a7 :: some (.obj false .lst (D.frzL xs)) :: e) := by simp [wVar]
@[simp ↓] theorem q_move8 {a0 a1 a2 a3 a4 a5 a6 a7 : Option D} {R : D → En → Prop} : wMove 8 (a0 :: a1 :: a2 :: a3 :: a4 :: a5 :: a6 :: a7 :: some d :: e) R = R d (a0 :: a1 :: a2 :: a3 :: a4 :: a5 :: a6 :: a7 :: none :: e) := by simp [wMove]
@[simp ↓] theorem q_bn8 {a0 a1 a2 a3 a4 a5 a6 a7 : Option D} {R : D → Prop} : bName 8 (a0 :: a1 :: a2 :: a3 :: a4 :: a5 :: a6 :: a7 :: some d :: e) R = R d := by simp [bName]
@[simp ↓] theorem q_mn8 {a0 a1 a2 a3 a4 a5 a6 a7 : Option D} {R : Nat → D → (D → D) → Prop} : mName 8 (a0 :: a1 :: a2 :: a3 :: a4 :: a5 :: a6 :: a7 :: some d :: e) R = R 8 d id := by simp [mName]
@[simp ↓] theorem q_gn8 {a0 a1 a2 a3 a4 a5 a6 a7 : Option D} {R : En → Prop} : gNm 8 d (a0 :: a1 :: a2 :: a3 :: a4 :: a5 :: a6 :: a7 :: o :: e) R = R (a0 :: a1 :: a2 :: a3 :: a4 :: a5 :: a6 :: a7 :: some d :: e) := by simp [gNm]
@[simp ↓] theorem q_gf8 {a0 a1 a2 a3 a4 a5 a6 a7 : Option D} {R : En → Prop} : gFz 8 d (a0 :: a1 :: a2 :: a3 :: a4 :: a5 :: a6 :: a7 :: o :: e) R = R (a0 :: a1 :: a2 :: a3 :: a4 :: a5 :: a6 :: a7 :: some d.frz :: e) := by simp [gFz]
@[simp ↓ high] theorem q_gfS8 {a0 a1 a2 a3 a4 a5 a6 a7 : Option D} {R : En → Prop} : gFz 8 (.sc v) (a0 :: a1 :: a2 :: a3 :: a4 :: a5 :: a6 :: a7 :: o :: e) R = R (a0 :: a1 :: a2 :: a3 :: a4 :: a5 :: a6 :: a7 :: some (.sc v) :: e) := by simp [gFz]
@[simp ↓ high] theorem q_gfT8 {a0 a1 a2 a3 a4 a5 a6 a7 : Option D} {R : En → Prop} : gFz 8 (.tup xs) (a0 :: a1 :: a2 :: a3 :: a4 :: a5 :: a6 :: a7 :: o :: e) R = R (a0 :: a1 :: a2 :: a3 :: a4 :: a5 :: a6 :: a7 :: some (.tup (D.frzL xs)) :: e) := by simp [gFz]
@[simp ↓ high] theorem q_gfL8 {a0 a1 a2 a3 a4 a5 a6 a7 : Option D} {R : En → Prop} {w : Bool} : gFz 8 (.obj w .lst xs) (a0 :: a1 :: a2 :: a3 :: a4 :: a5 :: a6 :: a7 :: o :: e) R = R (a0 :: a1 :: a2 :: a3 :: a4 :: a5 :: a6 :: a7 :: some (.obj false .lst (D.frzL xs)) :: e) := by simp [gFz]
@[simp ↓] theorem q_ref8 {a0 a1 a2 a3 a4 a5 a6 a7 : Option D} {wc : WC} {R : List AV → En → Prop} : cRef 8 wc (a0 :: a1 :: a2 :: a3 :: a4 :: a5 :: a6 :: a7 :: some d :: e) R = wc (a0 :: a1 :: a2 :: a3 :: a4 :: a5 :: a6 :: a7 :: some d :: e) fun is e2 => R (.ref 8 :: is) e2 := by simp [cRef]
@[simp ↓] theorem q_aug8 {a0 a1 a2 a3 a4 a5 a6 a7 : Option D} {rd : RD2} {we : WE} {RD : EN} : sAug 8 rd we (a0 :: a1 :: a2 :: a3 :: a4 :: a5 :: a6 :: a7 :: some (.sc v) :: e) RD = we (a0 :: a1 :: a2 :: a3 :: a4 :: a5 :: a6 :: a7 :: some (.sc v) :: e) fun y e1 => rd (.sc v) y fun z => RD.nx (e1.set 8 (some z)) := by simp [sAug]
@[simp ↓] theorem q_ne8 {a0 a1 a2 a3 a4 a5 a6 a7 : Option D} {rd : RD2} {wb : WE} {R : D → En → Prop} : wBinNE rd 8 wb (a0 :: a1 :: a2 :: a3 :: a4 :: a5 :: a6 :: a7 :: some d :: e) R = wb (a0 :: a1 :: a2 :: a3 :: a4 :: a5 :: a6 :: a7 :: some d :: e) fun y e2 => ∃ x, e2[8]? = some (some x) ∧ rd x y fun z => R z e2 := by simp [wBinNE]
@[simp ↓ high] theorem q_neC8 {a0 a1 a2 a3 a4 a5 a6 a7 : Option D} {rd : RD2} {R : D → En → Prop} {c : D} : wBinNE rd 8 (wC c) (a0 :: a1 :: a2 :: a3 :: a4 :: a5 :: a6 :: a7 :: some d :: e) R = rd d c fun z => R z (a0 :: a1 :: a2 :: a3 :: a4 :: a5 :: a6 :: a7 :: some d :: e) := by simp [wBinNE, wC]
@[simp ↓ high] theorem q_neV8 {a0 a1 a2 a3 a4 a5 a6 a7 : Option D} {rd : RD2} {R : D → En → Prop} {j : Nat} : wBinNE rd 8 (wVal j) (a0 :: a1 :: a2 :: a3 :: a4 :: a5 :: a6 :: a7 :: some d :: e) R = wVal j (a0 :: a1 :: a2 :: a3 :: a4 :: a5 :: a6 :: a7 :: some d :: e) fun y e2 => rd d y fun z => R z e2 := by
  apply propext; simp only [wBinNE, wVal]; constructor
  · rintro ⟨_, y, h1, h2, x, h3, h4⟩; simp at h3; subst h3; exact ⟨y, h1, h2, h4⟩
  · rintro ⟨y, h1, h2, h4⟩; exact ⟨⟨d, by simp⟩, y, h1, h2, d, by simp, h4⟩
@[simp ↓] theorem q_app8 {a0 a1 a2 a3 a4 a5 a6 a7 : Option D} {kf : Bool} {we : WE} {R : D → En → Prop} : wAppN kf 8 we (a0 :: a1 :: a2 :: a3 :: a4 :: a5 :: a6 :: a7 :: some (.obj true .lst xs) :: e) R = we (a0 :: a1 :: a2 :: a3 :: a4 :: a5 :: a6 :: a7 :: some (.obj true .lst xs) :: e) fun y e1 => ownL (e1[8]?) fun xs => xs.length < sizeLine ∧ R .non (e1.set 8 (some (.lst true (xs ++ [inK kf y])))) := by simp [wAppN, ownL]
@[simp ↓] theorem q_popN8 {a0 a1 a2 a3 a4 a5 a6 a7 : Option D} {wi : WE} {R : D → En → Prop} : wPopAtN 8 wi (a0 :: a1 :: a2 :: a3 :: a4 :: a5 :: a6 :: a7 :: some (.obj true .lst xs) :: e) R = wi (a0 :: a1 :: a2 :: a3 :: a4 :: a5 :: a6 :: a7 :: some (.obj true .lst xs) :: e) fun k e1 => asI k fun kk => ownL (e1[8]?) fun xs => -(2 ^ 63) ≤ kk ∧ kk < 2 ^ 63 ∧ ∃ j x, L2.ixN xs.length kk = some j ∧ xs[j]? = some x ∧ x.fz = true ∧ R x (e1.set 8 (some (.lst true (xs.eraseIdx j)))) := by simp [wPopAtN, ownL]
@[simp ↓] theorem q_ins8 {a0 a1 a2 a3 a4 a5 a6 a7 : Option D} {wi we : WE} {R : D → En → Prop} : wInsN 8 wi we (a0 :: a1 :: a2 :: a3 :: a4 :: a5 :: a6 :: a7 :: some (.obj true .lst xs) :: e) R = wi (a0 :: a1 :: a2 :: a3 :: a4 :: a5 :: a6 :: a7 :: some (.obj true .lst xs) :: e) fun k e1 => asI k fun kk => we e1 fun y e2 => ownL (e2[8]?) fun xs => D.fzL xs = true ∧ xs.length < sizeLine ∧ 0 ≤ kk ∧ kk < 2 ^ 63 ∧ R .non (e2.set 8 (some (.lst true (xs.take kk.toNat ++ [y.frz] ++ xs.drop kk.toNat)))) := by simp [wInsN, ownL]
@[simp ↓] theorem q_augN8 {a0 a1 a2 a3 a4 a5 a6 a7 : Option D} {rd : RD2} {wi we : WE} {RD : EN} : sAugNx rd 8 wi we (a0 :: a1 :: a2 :: a3 :: a4 :: a5 :: a6 :: a7 :: some d :: e) RD = wi (a0 :: a1 :: a2 :: a3 :: a4 :: a5 :: a6 :: a7 :: some d :: e) fun k e1 => asI k fun kk => ownL (e1[8]?) fun xs => ∃ j x, L2.ixN xs.length kk = some j ∧ xs[j]? = some x ∧ x.fz = true ∧ we e1 fun y e2 => ownL (e2[8]?) fun ys => ∃ j2, L2.ixN ys.length kk = some j2 ∧ rd x y fun z => RD.nx (e2.set 8 (some (.lst true (ys.set j2 z)))) := by simp [sAugNx]
@[simp ↓] theorem q_set8 {a0 a1 a2 a3 a4 a5 a6 a7 : Option D} {q : Option D} : List.set (a0 :: a1 :: a2 :: a3 :: a4 :: a5 :: a6 :: a7 :: o :: e) 8 q = (a0 :: a1 :: a2 :: a3 :: a4 :: a5 :: a6 :: a7 :: q :: e) := by simp
@[simp ↓] theorem q_get8 {a0 a1 a2 a3 a4 a5 a6 a7 : Option D} : ((a0 :: a1 :: a2 :: a3 :: a4 :: a5 :: a6 :: a7 :: o :: e) : En)[8]? = some o := by simp
@[simp ↓] theorem q_val9 {a0 a1 a2 a3 a4 a5 a6 a7 a8 : Option D} {R : D → En → Prop} : wVal 9 (a0 :: a1 :: a2 :: a3 :: a4 :: a5 :: a6 :: a7 :: a8 :: some d :: e) R = (d.fz = true ∧ R d (a0 :: a1 :: a2 :: a3 :: a4 :: a5 :: a6 :: a7 :: a8 :: some d :: e)) := by simp [wVal]
@[simp ↓ high] theorem q_valS9 {a0 a1 a2 a3 a4 a5 a6 a7 a8 : Option D} {R : D → En → Prop} : wVal 9 (a0 :: a1 :: a2 :: a3 :: a4 :: a5 :: a6 :: a7 :: a8 :: some (.sc v) :: e) R = R (.sc v) (a0 :: a1 :: a2 :: a3 :: a4 :: a5 :: a6 :: a7 :: a8 :: some (.sc v) :: e) := by simp [wVal]
@[simp ↓] theorem q_var9 {a0 a1 a2 a3 a4 a5 a6 a7 a8 : Option D} {R : D → En → Prop} : wVar 9 (a0 :: a1 :: a2 :: a3 :: a4 :: a5 :: a6 :: a7 :: a8 :: some d :: e) R = R d.frz (a0 :: a1 :: a2 :: a3 :: a4 :: a5 :: a6 :: a7 :: a8 :: some d.frz :: e) := by simp [wVar]
@[simp ↓ high] theorem q_varL9 {a0 a1 a2 a3 a4 a5 a6 a7 a8 : Option D} {R : D → En → Prop} {w : Bool} : wVar 9 (a0 :: a1 :: a2 :: a3 :: a4 :: a5 :: a6 :: a7 :: a8 :: some (.obj w .lst xs) :: e) R = R (.obj false .lst (D.frzL xs)) (a0 :: a1 :: a2 :: a3 :: a4 :: a5 :: a6 :: a7 :: a8 :: some (.obj false .lst (D.frzL xs)) :: e) := by simp [wVar]
@[simp ↓] theorem q_move9 {a0 a1 a2 a3 a4 a5 a6 a7 a8 : Option D} {R : D → En → Prop} : wMove 9 (a0 :: a1 :: a2 :: a3 :: a4 :: a5 :: a6 :: a7 :: a8 :: some d :: e) R = R d (a0 :: a1 :: a2 :: a3 :: a4 :: a5 :: a6 :: a7 :: a8 :: none :: e) := by simp [wMove]
@[simp ↓] theorem q_bn9 {a0 a1 a2 a3 a4 a5 a6 a7 a8 : Option D} {R : D → Prop} : bName 9 (a0 :: a1 :: a2 :: a3 :: a4 :: a5 :: a6 :: a7 :: a8 :: some d :: e) R = R d := by simp [bName]
@[simp ↓] theorem q_mn9 {a0 a1 a2 a3 a4 a5 a6 a7 a8 : Option D} {R : Nat → D → (D → D) → Prop} : mName 9 (a0 :: a1 :: a2 :: a3 :: a4 :: a5 :: a6 :: a7 :: a8 :: some d :: e) R = R 9 d id := by simp [mName]
@[simp ↓] theorem q_gn9 {a0 a1 a2 a3 a4 a5 a6 a7 a8 : Option D} {R : En → Prop} : gNm 9 d (a0 :: a1 :: a2 :: a3 :: a4 :: a5 :: a6 :: a7 :: a8 :: o :: e) R = R (a0 :: a1 :: a2 :: a3 :: a4 :: a5 :: a6 :: a7 :: a8 :: some d :: e) := by simp [gNm]
@[simp ↓] theorem q_gf9 {a0 a1 a2 a3 a4 a5 a6 a7 a8 : Option D} {R : En → Prop} : gFz 9 d (a0 :: a1 :: a2 :: a3 :: a4 :: a5 :: a6 :: a7 :: a8 :: o :: e) R = R (a0 :: a1 :: a2 :: a3 :: a4 :: a5 :: a6 :: a7 :: a8 :: some d.frz :: e) := by simp [gFz]
@[simp ↓ high] theorem q_gfS9 {a0 a1 a2 a3 a4 a5 a6 a7 a8 : Option D} {R : En → Prop} : gFz 9 (.sc v) (a0 :: a1 :: a2 :: a3 :: a4 :: a5 :: a6 :: a7 :: a8 :: o :: e) R = R (a0 :: a1 :: a2 :: a3 :: a4 :: a5 :: a6 :: a7 :: a8 :: some (.sc v) :: e) := by simp [gFz]
@[simp ↓ high] theorem q_gfT9 {a0 a1 a2 a3 a4 a5 a6 a7 a8 : Option D} {R : En → Prop} : gFz 9 (.tup xs) (a0 :: a1 :: a2 :: a3 :: a4 :: a5 :: a6 :: a7 :: a8 :: o :: e) R = R (a0 :: a1 :: a2 :: a3 :: a4 :: a5 :: a6 :: a7 :: a8 :: some (.tup (D.frzL xs)) :: e) := by simp [gFz]
@[simp ↓ high] theorem q_gfL9 {a0 a1 a2 a3 a4 a5 a6 a7 a8 : Option D} {R : En → Prop} {w : Bool} : gFz 9 (.obj w .lst xs) (a0 :: a1 :: a2 :: a3 :: a4 :: a5 :: a6 :: a7 :: a8 :: o :: e) R = R (a0 :: a1 :: a2 :: a3 :: a4 :: a5 :: a6 :: a7 :: a8 :: some (.obj false .lst (D.frzL xs)) :: e) := by simp [gFz]
@[simp ↓] theorem q_ref9 {a0 a1 a2 a3 a4 a5 a6 a7 a8 : Option D} {wc : WC} {R : List AV → En → Prop} : cRef 9 wc (a0 :: a1 :: a2 :: a3 :: a4 :: a5 :: a6 :: a7 :: a8 :: some d :: e) R = wc (a0 :: a1 :: a2 :: a3 :: a4 :: a5 :: a6 :: a7 :: a8 :: some d :: e) fun is e2 => R (.ref 9 :: is) e2 := by simp [cRef]
@[simp ↓] theorem q_aug9 {a0 a1 a2 a3 a4 a5 a6 a7 a8 : Option D} {rd : RD2} {we : WE} {RD : EN} : sAug 9 rd we (a0 :: a1 :: a2 :: a3 :: a4 :: a5 :: a6 :: a7 :: a8 :: some (.sc v) :: e) RD = we (a0 :: a1 :: a2 :: a3 :: a4 :: a5 :: a6 :: a7 :: a8 :: some (.sc v) :: e) fun y e1 => rd (.sc v) y fun z => RD.nx (e1.set 9 (some z)) := by simp [sAug]
@[simp ↓] theorem q_ne9 {a0 a1 a2 a3 a4 a5 a6 a7 a8 : Option D} {rd : RD2} {wb : WE} {R : D → En → Prop} : wBinNE rd 9 wb (a0 :: a1 :: a2 :: a3 :: a4 :: a5 :: a6 :: a7 :: a8 :: some d :: e) R = wb (a0 :: a1 :: a2 :: a3 :: a4 :: a5 :: a6 :: a7 :: a8 :: some d :: e) fun y e2 => ∃ x, e2[9]? = some (some x) ∧ rd x y fun z => R z e2 := by simp [wBinNE]
@[simp ↓ high] theorem q_neC9 {a0 a1 a2 a3 a4 a5 a6 a7 a8 : Option D} {rd : RD2} {R : D → En → Prop} {c : D} : wBinNE rd 9 (wC c) (a0 :: a1 :: a2 :: a3 :: a4 :: a5 :: a6 :: a7 :: a8 :: some d :: e) R = rd d c fun z => R z (a0 :: a1 :: a2 :: a3 :: a4 :: a5 :: a6 :: a7 :: a8 :: some d :: e) := by simp [wBinNE, wC]
@[simp ↓ high] theorem q_neV9 {a0 a1 a2 a3 a4 a5 a6 a7 a8 : Option D} {rd : RD2} {R : D → En → Prop} {j : Nat} : wBinNE rd 9 (wVal j) (a0 :: a1 :: a2 :: a3 :: a4 :: a5 :: a6 :: a7 :: a8 :: some d :: e) R = wVal j (a0 :: a1 :: a2 :: a3 :: a4 :: a5 :: a6 :: a7 :: a8 :: some d :: e) fun y e2 => rd d y fun z => R z e2 := by
  apply propext; simp only [wBinNE, wVal]; constructor
  · rintro ⟨_, y, h1, h2, x, h3, h4⟩; simp at h3; subst h3; exact ⟨y, h1, h2, h4⟩
  · rintro ⟨y, h1, h2, h4⟩; exact ⟨⟨d, by simp⟩, y, h1, h2, d, by simp, h4⟩
@[simp ↓] theorem q_app9 {a0 a1 a2 a3 a4 a5 a6 a7 a8 : Option D} {kf : Bool} {we : WE} {R : D → En → Prop} : wAppN kf 9 we (a0 :: a1 :: a2 :: a3 :: a4 :: a5 :: a6 :: a7 :: a8 :: some (.obj true .lst xs) :: e) R = we (a0 :: a1 :: a2 :: a3 :: a4 :: a5 :: a6 :: a7 :: a8 :: some (.obj true .lst xs) :: e) fun y e1 => ownL (e1[9]?) fun xs => xs.length < sizeLine ∧ R .non (e1.set 9 (some (.lst true (xs ++ [inK kf y])))) := by simp [wAppN, ownL]
@[simp ↓] theorem q_popN9 {a0 a1 a2 a3 a4 a5 a6 a7 a8 : Option D} {wi : WE} {R : D → En → Prop} : wPopAtN 9 wi (a0 :: a1 :: a2 :: a3 :: a4 :: a5 :: a6 :: a7 :: a8 :: some (.obj true .lst xs) :: e) R = wi (a0 :: a1 :: a2 :: a3 :: a4 :: a5 :: a6 :: a7 :: a8 :: some (.obj true .lst xs) :: e) fun k e1 => asI k fun kk => ownL (e1[9]?) fun xs => -(2 ^ 63) ≤ kk ∧ kk < 2 ^ 63 ∧ ∃ j x, L2.ixN xs.length kk = some j ∧ xs[j]? = some x ∧ x.fz = true ∧ R x (e1.set 9 (some (.lst true (xs.eraseIdx j)))) := by simp [wPopAtN, ownL]
@[simp ↓] theorem q_ins9 {a0 a1 a2 a3 a4 a5 a6 a7 a8 : Option D} {wi we : WE} {R : D → En → Prop} : wInsN 9 wi we (a0 :: a1 :: a2 :: a3 :: a4 :: a5 :: a6 :: a7 :: a8 :: some (.obj true .lst xs) :: e) R = wi (a0 :: a1 :: a2 :: a3 :: a4 :: a5 :: a6 :: a7 :: a8 :: some (.obj true .lst xs) :: e) fun k e1 => asI k fun kk => we e1 fun y e2 => ownL (e2[9]?) fun xs => D.fzL xs = true ∧ xs.length < sizeLine ∧ 0 ≤ kk ∧ kk < 2 ^ 63 ∧ R .non (e2.set 9 (some (.lst true (xs.take kk.toNat ++ [y.frz] ++ xs.drop kk.toNat)))) := by simp [wInsN, ownL]
@[simp ↓] theorem q_augN9 {a0 a1 a2 a3 a4 a5 a6 a7 a8 : Option D} {rd : RD2} {wi we : WE} {RD : EN} : sAugNx rd 9 wi we (a0 :: a1 :: a2 :: a3 :: a4 :: a5 :: a6 :: a7 :: a8 :: some d :: e) RD = wi (a0 :: a1 :: a2 :: a3 :: a4 :: a5 :: a6 :: a7 :: a8 :: some d :: e) fun k e1 => asI k fun kk => ownL (e1[9]?) fun xs => ∃ j x, L2.ixN xs.length kk = some j ∧ xs[j]? = some x ∧ x.fz = true ∧ we e1 fun y e2 => ownL (e2[9]?) fun ys => ∃ j2, L2.ixN ys.length kk = some j2 ∧ rd x y fun z => RD.nx (e2.set 9 (some (.lst true (ys.set j2 z)))) := by simp [sAugNx]
@[simp ↓] theorem q_set9 {a0 a1 a2 a3 a4 a5 a6 a7 a8 : Option D} {q : Option D} : List.set (a0 :: a1 :: a2 :: a3 :: a4 :: a5 :: a6 :: a7 :: a8 :: o :: e) 9 q = (a0 :: a1 :: a2 :: a3 :: a4 :: a5 :: a6 :: a7 :: a8 :: q :: e) := by simp
@[simp ↓] theorem q_get9 {a0 a1 a2 a3 a4 a5 a6 a7 a8 : Option D} : ((a0 :: a1 :: a2 :: a3 :: a4 :: a5 :: a6 :: a7 :: a8 :: o :: e) : En)[9]? = some o := by simp
@[simp ↓] theorem q_val10 {a0 a1 a2 a3 a4 a5 a6 a7 a8 a9 : Option D} {R : D → En → Prop} : wVal 10 (a0 :: a1 :: a2 :: a3 :: a4 :: a5 :: a6 :: a7 :: a8 :: a9 :: some d :: e) R = (d.fz = true ∧ R d (a0 :: a1 :: a2 :: a3 :: a4 :: a5 :: a6 :: a7 :: a8 :: a9 :: some d :: e)) := by simp [wVal]
@[simp ↓ high] theorem q_valS10 {a0 a1 a2 a3 a4 a5 a6 a7 a8 a9 : Option D} {R : D → En → Prop} : wVal 10 (a0 :: a1 :: a2 :: a3 :: a4 :: a5 :: a6 :: a7 :: a8 :: a9 :: some (.sc v) :: e) R = R (.sc v) (a0 :: a1 :: a2 :: a3 :: a4 :: a5 :: a6 :: a7 :: a8 :: a9 :: some (.sc v) :: e) := by simp [wVal]
@[simp ↓] theorem q_var10 {a0 a1 a2 a3 a4 a5 a6 a7 a8 a9 : Option D} {R : D → En → Prop} : wVar 10 (a0 :: a1 :: a2 :: a3 :: a4 :: a5 :: a6 :: a7 :: a8 :: a9 :: some d :: e) R = R d.frz (a0 :: a1 :: a2 :: a3 :: a4 :: a5 :: a6 :: a7 :: a8 :: a9 :: some d.frz :: e) := by simp [wVar]
@[simp ↓ high] theorem q_varL10 {a0 a1 a2 a3 a4 a5 a6 a7 a8 a9 : Option D} {R : D → En → Prop} {w : Bool} : wVar 10 (a0 :: a1 :: a2 :: a3 :: a4 :: a5 :: a6 :: a7 :: a8 :: a9 :: some (.obj w .lst xs) :: e) R = R (.obj false .lst (D.frzL xs)) (a0 :: a1 :: a2 :: a3 :: a4 :: a5 :: a6 :: a7 :: a8 :: a9 :: some (.obj false .lst (D.frzL xs)) :: e) := by simp [wVar]
@[simp ↓] theorem q_move10 {a0 a1 a2 a3 a4 a5 a6 a7 a8 a9 : Option D} {R : D → En → Prop} : wMove 10 (a0 :: a1 :: a2 :: a3 :: a4 :: a5 :: a6 :: a7 :: a8 :: a9 :: some d :: e) R = R d (a0 :: a1 :: a2 :: a3 :: a4 :: a5 :: a6 :: a7 :: a8 :: a9 :: none :: e) := by simp [wMove]
@[simp ↓] theorem q_bn10 {a0 a1 a2 a3 a4 a5 a6 a7 a8 a9 : Option D} {R : D → Prop} : bName 10 (a0 :: a1 :: a2 :: a3 :: a4 :: a5 :: a6 :: a7 :: a8 :: a9 :: some d :: e) R = R d := by simp [bName]
@[simp ↓] theorem q_mn10 {a0 a1 a2 a3 a4 a5 a6 a7 a8 a9 : Option D} {R : Nat → D → (D → D) → Prop} : mName 10 (a0 :: a1 :: a2 :: a3 :: a4 :: a5 :: a6 :: a7 :: a8 :: a9 :: some d :: e) R = R 10 d id := by simp [mName]
@[simp ↓] theorem q_gn10 {a0 a1 a2 a3 a4 a5 a6 a7 a8 a9 : Option D} {R : En → Prop} : gNm 10 d (a0 :: a1 :: a2 :: a3 :: a4 :: a5 :: a6 :: a7 :: a8 :: a9 :: o :: e) R = R (a0 :: a1 :: a2 :: a3 :: a4 :: a5 :: a6 :: a7 :: a8 :: a9 :: some d :: e) := by simp [gNm]
@[simp ↓] theorem q_gf10 {a0 a1 a2 a3 a4 a5 a6 a7 a8 a9 : Option D} {R : En → Prop} : gFz 10 d (a0 :: a1 :: a2 :: a3 :: a4 :: a5 :: a6 :: a7 :: a8 :: a9 :: o :: e) R = R (a0 :: a1 :: a2 :: a3 :: a4 :: a5 :: a6 :: a7 :: a8 :: a9 :: some d.frz :: e) := by simp [gFz]
@[simp ↓ high] theorem q_gfS10 {a0 a1 a2 a3 a4 a5 a6 a7 a8 a9 : Option D} {R : En → Prop} : gFz 10 (.sc v) (a0 :: a1 :: a2 :: a3 :: a4 :: a5 :: a6 :: a7 :: a8 :: a9 :: o :: e) R = R (a0 :: a1 :: a2 :: a3 :: a4 :: a5 :: a6 :: a7 :: a8 :: a9 :: some (.sc v) :: e) := by simp [gFz]
@[simp ↓ high] theorem q_gfT10 {a0 a1 a2 a3 a4 a5 a6 a7 a8 a9 : Option D} {R : En → Prop} : gFz 10 (.tup xs) (a0 :: a1 :: a2 :: a3 :: a4 :: a5 :: a6 :: a7 :: a8 :: a9 :: o :: e) R = R (a0 :: a1 :: a2 :: a3 :: a4 :: a5 :: a6 :: a7 :: a8 :: a9 :: some (.tup (D.frzL xs)) :: e) := by simp [gFz]
@[simp ↓ high] theorem q_gfL10 {a0 a1 a2 a3 a4 a5 a6 a7 a8 a9 : Option D} {R : En → Prop} {w : Bool} : gFz 10 (.obj w .lst xs) (a0 :: a1 :: a2 :: a3 :: a4 :: a5 :: a6 :: a7 :: a8 :: a9 :: o :: e) R = R (a0 :: a1 :: a2 :: a3 :: a4 :: a5 :: a6 :: a7 :: a8 :: a9 :: some (.obj false .lst (D.frzL xs)) :: e) := by simp [gFz]
@[simp ↓] theorem q_ref10 {a0 a1 a2 a3 a4 a5 a6 a7 a8 a9 : Option D} {wc : WC} {R : List AV → En → Prop} : cRef 10 wc (a0 :: a1 :: a2 :: a3 :: a4 :: a5 :: a6 :: a7 :: a8 :: a9 :: some d :: e) R = wc (a0 :: a1 :: a2 :: a3 :: a4 :: a5 :: a6 :: a7 :: a8 :: a9 :: some d :: e) fun is e2 => R (.ref 10 :: is) e2 := by simp [cRef]
@[simp ↓] theorem q_aug10 {a0 a1 a2 a3 a4 a5 a6 a7 a8 a9 : Option D} {rd : RD2} {we : WE} {RD : EN} : sAug 10 rd we (a0 :: a1 :: a2 :: a3 :: a4 :: a5 :: a6 :: a7 :: a8 :: a9 :: some (.sc v) :: e) RD = we (a0 :: a1 :: a2 :: a3 :: a4 :: a5 :: a6 :: a7 :: a8 :: a9 :: some (.sc v) :: e) fun y e1 => rd (.sc v) y fun z => RD.nx (e1.set 10 (some z)) := by simp [sAug]
@[simp ↓] theorem q_ne10 {a0 a1 a2 a3 a4 a5 a6 a7 a8 a9 : Option D} {rd : RD2} {wb : WE} {R : D → En → Prop} : wBinNE rd 10 wb (a0 :: a1 :: a2 :: a3 :: a4 :: a5 :: a6 :: a7 :: a8 :: a9 :: some d :: e) R = wb (a0 :: a1 :: a2 :: a3 :: a4 :: a5 :: a6 :: a7 :: a8 :: a9 :: some d :: e) fun y e2 => ∃ x, e2[10]? = some (some x) ∧ rd x y fun z => R z e2 := by simp [wBinNE]
@[simp ↓ high] theorem q_neC10 {a0 a1 a2 a3 a4 a5 a6 a7 a8 a9 : Option D} {rd : RD2} {R : D → En → Prop} {c : D} : wBinNE rd 10 (wC c) (a0 :: a1 :: a2 :: a3 :: a4 :: a5 :: a6 :: a7 :: a8 :: a9 :: some d :: e) R = rd d c fun z => R z (a0 :: a1 :: a2 :: a3 :: a4 :: a5 :: a6 :: a7 :: a8 :: a9 :: some d :: e) := by simp [wBinNE, wC]
@[simp ↓ high] theorem q_neV10 {a0 a1 a2 a3 a4 a5 a6 a7 a8 a9 : Option D} {rd : RD2} {R : D → En → Prop} {j : Nat} : wBinNE rd 10 (wVal j) (a0 :: a1 :: a2 :: a3 :: a4 :: a5 :: a6 :: a7 :: a8 :: a9 :: some d :: e) R = wVal j (a0 :: a1 :: a2 :: a3 :: a4 :: a5 :: a6 :: a7 :: a8 :: a9 :: some d :: e) fun y e2 => rd d y fun z => R z e2 := by
  apply propext; simp only [wBinNE, wVal]; constructor
  · rintro ⟨_, y, h1, h2, x, h3, h4⟩; simp at h3; subst h3; exact ⟨y, h1, h2, h4⟩
  · rintro ⟨y, h1, h2, h4⟩; exact ⟨⟨d, by simp⟩, y, h1, h2, d, by simp, h4⟩
@[simp ↓] theorem q_app10 {a0 a1 a2 a3 a4 a5 a6 a7 a8 a9 : Option D} {kf : Bool} {we : WE} {R : D → En → Prop} : wAppN kf 10 we (a0 :: a1 :: a2 :: a3 :: a4 :: a5 :: a6 :: a7 :: a8 :: a9 :: some (.obj true .lst xs) :: e) R = we (a0 :: a1 :: a2 :: a3 :: a4 :: a5 :: a6 :: a7 :: a8 :: a9 :: some (.obj true .lst xs) :: e) fun y e1 => ownL (e1[10]?) fun xs => xs.length < sizeLine ∧ R .non (e1.set 10 (some (.lst true (xs ++ [inK kf y])))) := by simp [wAppN, ownL]
@[simp ↓] theorem q_popN10 {a0 a1 a2 a3 a4 a5 a6 a7 a8 a9 : Option D} {wi : WE} {R : D → En → Prop} : wPopAtN 10 wi (a0 :: a1 :: a2 :: a3 :: a4 :: a5 :: a6 :: a7 :: a8 :: a9 :: some (.obj true .lst xs) :: e) R = wi (a0 :: a1 :: a2 :: a3 :: a4 :: a5 :: a6 :: a7 :: a8 :: a9 :: some (.obj true .lst xs) :: e) fun k e1 => asI k fun kk => ownL (e1[10]?) fun xs => -(2 ^ 63) ≤ kk ∧ kk < 2 ^ 63 ∧ ∃ j x, L2.ixN xs.length kk = some j ∧ xs[j]? = some x ∧ x.fz = true ∧ R x (e1.set 10 (some (.lst true (xs.eraseIdx j)))) := by simp [wPopAtN, ownL]
@[simp ↓] theorem q_ins10 {a0 a1 a2 a3 a4 a5 a6 a7 a8 a9 : Option D} {wi we : WE} {R : D → En → Prop} : wInsN 10 wi we (a0 :: a1 :: a2 :: a3 :: a4 :: a5 :: a6 :: a7 :: a8 :: a9 :: some (.obj true .lst xs) :: e) R = wi (a0 :: a1 :: a2 :: a3 :: a4 :: a5 :: a6 :: a7 :: a8 :: a9 :: some (.obj true .lst xs) :: e) fun k e1 => asI k fun kk => we e1 fun y e2 => ownL (e2[10]?) fun xs => D.fzL xs = true ∧ xs.length < sizeLine ∧ 0 ≤ kk ∧ kk < 2 ^ 63 ∧ R .non (e2.set 10 (some (.lst true (xs.take kk.toNat ++ [y.frz] ++ xs.drop kk.toNat)))) := by simp [wInsN, ownL]
@[simp ↓] theorem q_augN10 {a0 a1 a2 a3 a4 a5 a6 a7 a8 a9 : Option D} {rd : RD2} {wi we : WE} {RD : EN} : sAugNx rd 10 wi we (a0 :: a1 :: a2 :: a3 :: a4 :: a5 :: a6 :: a7 :: a8 :: a9 :: some d :: e) RD = wi (a0 :: a1 :: a2 :: a3 :: a4 :: a5 :: a6 :: a7 :: a8 :: a9 :: some d :: e) fun k e1 => asI k fun kk => ownL (e1[10]?) fun xs => ∃ j x, L2.ixN xs.length kk = some j ∧ xs[j]? = some x ∧ x.fz = true ∧ we e1 fun y e2 => ownL (e2[10]?) fun ys => ∃ j2, L2.ixN ys.length kk = some j2 ∧ rd x y fun z => RD.nx (e2.set 10 (some (.lst true (ys.set j2 z)))) := by simp [sAugNx]
@[simp ↓] theorem q_set10 {a0 a1 a2 a3 a4 a5 a6 a7 a8 a9 : Option D} {q : Option D} : List.set (a0 :: a1 :: a2 :: a3 :: a4 :: a5 :: a6 :: a7 :: a8 :: a9 :: o :: e) 10 q = (a0 :: a1 :: a2 :: a3 :: a4 :: a5 :: a6 :: a7 :: a8 :: a9 :: q :: e) := by simp
@[simp ↓] theorem q_get10 {a0 a1 a2 a3 a4 a5 a6 a7 a8 a9 : Option D} : ((a0 :: a1 :: a2 :: a3 :: a4 :: a5 :: a6 :: a7 :: a8 :: a9 :: o :: e) : En)[10]? = some o := by simp
@[simp ↓] theorem q_val11 {a0 a1 a2 a3 a4 a5 a6 a7 a8 a9 a10 : Option D} {R : D → En → Prop} : wVal 11 (a0 :: a1 :: a2 :: a3 :: a4 :: a5 :: a6 :: a7 :: a8 :: a9 :: a10 :: some d :: e) R = (d.fz = true ∧ R d (a0 :: a1 :: a2 :: a3 :: a4 :: a5 :: a6 :: a7 :: a8 :: a9 :: a10 :: some d :: e)) := by simp [wVal]
@[simp ↓ high] theorem q_valS11 {a0 a1 a2 a3 a4 a5 a6 a7 a8 a9 a10 : Option D} {R : D → En → Prop} : wVal 11 (a0 :: a1 :: a2 :: a3 :: a4 :: a5 :: a6 :: a7 :: a8 :: a9 :: a10 :: some (.sc v) :: e) R = R (.sc v) (a0 :: a1 :: a2 :: a3 :: a4 :: a5 :: a6 :: a7 :: a8 :: a9 :: a10 :: some (.sc v) :: e) := by simp [wVal]
@[simp ↓] theorem q_var11 {a0 a1 a2 a3 a4 a5 a6 a7 a8 a9 a10 : Option D} {R : D → En → Prop} : wVar 11 (a0 :: a1 :: a2 :: a3 :: a4 :: a5 :: a6 :: a7 :: a8 :: a9 :: a10 :: some d :: e) R = R d.frz (a0 :: a1 :: a2 :: a3 :: a4 :: a5 :: a6 :: a7 :: a8 :: a9 :: a10 :: some d.frz :: e) := by simp [wVar]
@[simp ↓ high] theorem q_varL11 {a0 a1 a2 a3 a4 a5 a6 a7 a8 a9 a10 : Option D} {R : D → En → Prop} {w : Bool} : wVar 11 (a0 :: a1 :: a2 :: a3 :: a4 :: a5 :: a6 :: a7 :: a8 :: a9 :: a10 :: some (.obj w .lst xs) :: e) R = R (.obj false .lst (D.frzL xs)) (a0 :: a1 :: a2 :: a3 :: a4 :: a5 :: a6 :: a7 :: a8 :: a9 :: a10 :: some (.obj false .lst (D.frzL xs)) :: e) := by simp [wVar]
@[simp ↓] theorem q_move11 {a0 a1 a2 a3 a4 a5 a6 a7 a8 a9 a10 : Option D} {R : D → En → Prop} : wMove 11 (a0 :: a1 :: a2 :: a3 :: a4 :: a5 :: a6 :: a7 :: a8 :: a9 :: a10 :: some d :: e) R = R d (a0 :: a1 :: a2 :: a3 :: a4 :: a5 :: a6 :: a7 :: a8 :: a9 :: a10 :: none :: e) := by simp [wMove]
@[simp ↓] theorem q_bn11 {a0 a1 a2 a3 a4 a5 a6 a7 a8 a9 a10 : Option D} {R : D → Prop} : bName 11 (a0 :: a1 :: a2 :: a3 :: a4 :: a5 :: a6 :: a7 :: a8 :: a9 :: a10 :: some d :: e) R = R d := by simp [bName]
@[simp ↓] theorem q_mn11 {a0 a1 a2 a3 a4 a5 a6 a7 a8 a9 a10 : Option D} {R : Nat → D → (D → D) → Prop} : mName 11 (a0 :: a1 :: a2 :: a3 :: a4 :: a5 :: a6 :: a7 :: a8 :: a9 :: a10 :: some d :: e) R = R 11 d id := by simp [mName]
@[simp ↓] theorem q_gn11 {a0 a1 a2 a3 a4 a5 a6 a7 a8 a9 a10 : Option D} {R : En → Prop} : gNm 11 d (a0 :: a1 :: a2 :: a3 :: a4 :: a5 :: a6 :: a7 :: a8 :: a9 :: a10 :: o :: e) R = R (a0 :: a1 :: a2 :: a3 :: a4 :: a5 :: a6 :: a7 :: a8 :: a9 :: a10 :: some d :: e) := by simp [gNm]
@[simp ↓] theorem q_gf11 {a0 a1 a2 a3 a4 a5 a6 a7 a8 a9 a10 : Option D} {R : En → Prop} : gFz 11 d (a0 :: a1 :: a2 :: a3 :: a4 :: a5 :: a6 :: a7 :: a8 :: a9 :: a10 :: o :: e) R = R (a0 :: a1 :: a2 :: a3 :: a4 :: a5 :: a6 :: a7 :: a8 :: a9 :: a10 :: some d.frz :: e) := by simp [gFz]
@[simp ↓ high] theorem q_gfS11 {a0 a1 a2 a3 a4 a5 a6 a7 a8 a9 a10 : Option D} {R : En → Prop} : gFz 11 (.sc v) (a0 :: a1 :: a2 :: a3 :: a4 :: a5 :: a6 :: a7 :: a8 :: a9 :: a10 :: o :: e) R = R (a0 :: a1 :: a2 :: a3 :: a4 :: a5 :: a6 :: a7 :: a8 :: a9 :: a10 :: some (.sc v) :: e) := by simp [gFz]
@[simp ↓ high] theorem q_gfT11 {a0 a1 a2 a3 a4 a5 a6 a7 a8 a9 a10 : Option D} {R : En → Prop} : gFz 11 (.tup xs) (a0 :: a1 :: a2 :: a3 :: a4 :: a5 :: a6 :: a7 :: a8 :: a9 :: a10 :: o :: e) R = R (a0 :: a1 :: a2 :: a3 :: a4 :: a5 :: a6 :: a7 :: a8 :: a9 :: a10 :: some (.tup (D.frzL xs)) :: e) := by simp [gFz]
@[simp ↓ high] theorem q_gfL11 {a0 a1 a2 a3 a4 a5 a6 a7 a8 a9 a10 : Option D} {R : En → Prop} {w : Bool} : gFz 11 (.obj w .lst xs) (a0 :: a1 :: a2 :: a3 :: a4 :: a5 :: a6 :: a7 :: a8 :: a9 :: a10 :: o :: e) R = R (a0 :: a1 :: a2 :: a3 :: a4 :: a5 :: a6 :: a7 :: a8 :: a9 :: a10 :: some (.obj false .lst (D.frzL xs)) :: e) := by simp [gFz]
@[simp ↓] theorem q_ref11 {a0 a1 a2 a3 a4 a5 a6 a7 a8 a9 a10 : Option D} {wc : WC} {R : List AV → En → Prop} : cRef 11 wc (a0 :: a1 :: a2 :: a3 :: a4 :: a5 :: a6 :: a7 :: a8 :: a9 :: a10 :: some d :: e) R = wc (a0 :: a1 :: a2 :: a3 :: a4 :: a5 :: a6 :: a7 :: a8 :: a9 :: a10 :: some d :: e) fun is e2 => R (.ref 11 :: is) e2 := by simp [cRef]
@[simp ↓] theorem q_aug11 {a0 a1 a2 a3 a4 a5 a6 a7 a8 a9 a10 : Option D} {rd : RD2} {we : WE} {RD : EN} : sAug 11 rd we (a0 :: a1 :: a2 :: a3 :: a4 :: a5 :: a6 :: a7 :: a8 :: a9 :: a10 :: some (.sc v) :: e) RD = we (a0 :: a1 :: a2 :: a3 :: a4 :: a5 :: a6 :: a7 :: a8 :: a9 :: a10 :: some (.sc v) :: e) fun y e1 => rd (.sc v) y fun z => RD.nx (e1.set 11 (some z)) := by simp [sAug]
@[simp ↓] theorem q_ne11 {a0 a1 a2 a3 a4 a5 a6 a7 a8 a9 a10 : Option D} {rd : RD2} {wb : WE} {R : D → En → Prop} : wBinNE rd 11 wb (a0 :: a1 :: a2 :: a3 :: a4 :: a5 :: a6 :: a7 :: a8 :: a9 :: a10 :: some d :: e) R = wb (a0 :: a1 :: a2 :: a3 :: a4 :: a5 :: a6 :: a7 :: a8 :: a9 :: a10 :: some d :: e) fun y e2 => ∃ x, e2[11]? = some (some x) ∧ rd x y fun z => R z e2 := by simp [wBinNE]
@[simp ↓ high] theorem q_neC11 {a0 a1 a2 a3 a4 a5 a6 a7 a8 a9 a10 : Option D} {rd : RD2} {R : D → En → Prop} {c : D} : wBinNE rd 11 (wC c) (a0 :: a1 :: a2 :: a3 :: a4 :: a5 :: a6 :: a7 :: a8 :: a9 :: a10 :: some d :: e) R = rd d c fun z => R z (a0 :: a1 :: a2 :: a3 :: a4 :: a5 :: a6 :: a7 :: a8 :: a9 :: a10 :: some d :: e) := by simp [wBinNE, wC]
@[simp ↓ high] theorem q_neV11 {a0 a1 a2 a3 a4 a5 a6 a7 a8 a9 a10 : Option D} {rd : RD2} {R : D → En → Prop} {j : Nat} : wBinNE rd 11 (wVal j) (a0 :: a1 :: a2 :: a3 :: a4 :: a5 :: a6 :: a7 :: a8 :: a9 :: a10 :: some d :: e) R = wVal j (a0 :: a1 :: a2 :: a3 :: a4 :: a5 :: a6 :: a7 :: a8 :: a9 :: a10 :: some d :: e) fun y e2 => rd d y fun z => R z e2 := by
  apply propext; simp only [wBinNE, wVal]; constructor
  · rintro ⟨_, y, h1, h2, x, h3, h4⟩; simp at h3; subst h3; exact ⟨y, h1, h2, h4⟩
  · rintro ⟨y, h1, h2, h4⟩; exact ⟨⟨d, by simp⟩, y, h1, h2, d, by simp, h4⟩
@[simp ↓] theorem q_app11 {a0 a1 a2 a3 a4 a5 a6 a7 a8 a9 a10 : Option D} {kf : Bool} {we : WE} {R : D → En → Prop} : wAppN kf 11 we (a0 :: a1 :: a2 :: a3 :: a4 :: a5 :: a6 :: a7 :: a8 :: a9 :: a10 :: some (.obj true .lst xs) :: e) R = we (a0 :: a1 :: a2 :: a3 :: a4 :: a5 :: a6 :: a7 :: a8 :: a9 :: a10 :: some (.obj true .lst xs) :: e) fun y e1 => ownL (e1[11]?) fun xs => xs.length < sizeLine ∧ R .non (e1.set 11 (some (.lst true (xs ++ [inK kf y])))) := by simp [wAppN, ownL]
@[simp ↓] theorem q_popN11 {a0 a1 a2 a3 a4 a5 a6 a7 a8 a9 a10 : Option D} {wi : WE} {R : D → En → Prop} : wPopAtN 11 wi (a0 :: a1 :: a2 :: a3 :: a4 :: a5 :: a6 :: a7 :: a8 :: a9 :: a10 :: some (.obj true .lst xs) :: e) R = wi (a0 :: a1 :: a2 :: a3 :: a4 :: a5 :: a6 :: a7 :: a8 :: a9 :: a10 :: some (.obj true .lst xs) :: e) fun k e1 => asI k fun kk => ownL (e1[11]?) fun xs => -(2 ^ 63) ≤ kk ∧ kk < 2 ^ 63 ∧ ∃ j x, L2.ixN xs.length kk = some j ∧ xs[j]? = some x ∧ x.fz = true ∧ R x (e1.set 11 (some (.lst true (xs.eraseIdx j)))) := by simp [wPopAtN, ownL]
@[simp ↓] theorem q_ins11 {a0 a1 a2 a3 a4 a5 a6 a7 a8 a9 a10 : Option D} {wi we : WE} {R : D → En → Prop} : wInsN 11 wi we (a0 :: a1 :: a2 :: a3 :: a4 :: a5 :: a6 :: a7 :: a8 :: a9 :: a10 :: some (.obj true .lst xs) :: e) R = wi (a0 :: a1 :: a2 :: a3 :: a4 :: a5 :: a6 :: a7 :: a8 :: a9 :: a10 :: some (.obj true .lst xs) :: e) fun k e1 => asI k fun kk => we e1 fun y e2 => ownL (e2[11]?) fun xs => D.fzL xs = true ∧ xs.length < sizeLine ∧ 0 ≤ kk ∧ kk < 2 ^ 63 ∧ R .non (e2.set 11 (some (.lst true (xs.take kk.toNat ++ [y.frz] ++ xs.drop kk.toNat)))) := by simp [wInsN, ownL]
@[simp ↓] theorem q_augN11 {a0 a1 a2 a3 a4 a5 a6 a7 a8 a9 a10 : Option D} {rd : RD2} {wi we : WE} {RD : EN} : sAugNx rd 11 wi we (a0 :: a1 :: a2 :: a3 :: a4 :: a5 :: a6 :: a7 :: a8 :: a9 :: a10 :: some d :: e) RD = wi (a0 :: a1 :: a2 :: a3 :: a4 :: a5 :: a6 :: a7 :: a8 :: a9 :: a10 :: some d :: e) fun k e1 => asI k fun kk => ownL (e1[11]?) fun xs => ∃ j x, L2.ixN xs.length kk = some j ∧ xs[j]? = some x ∧ x.fz = true ∧ we e1 fun y e2 => ownL (e2[11]?) fun ys => ∃ j2, L2.ixN ys.length kk = some j2 ∧ rd x y fun z => RD.nx (e2.set 11 (some (.lst true (ys.set j2 z)))) := by simp [sAugNx]
@[simp ↓] theorem q_set11 {a0 a1 a2 a3 a4 a5 a6 a7 a8 a9 a10 : Option D} {q : Option D} : List.set (a0 :: a1 :: a2 :: a3 :: a4 :: a5 :: a6 :: a7 :: a8 :: a9 :: a10 :: o :: e) 11 q = (a0 :: a1 :: a2 :: a3 :: a4 :: a5 :: a6 :: a7 :: a8 :: a9 :: a10 :: q :: e) := by simp
@[simp ↓] theorem q_get11 {a0 a1 a2 a3 a4 a5 a6 a7 a8 a9 a10 : Option D} : ((a0 :: a1 :: a2 :: a3 :: a4 :: a5 :: a6 :: a7 :: a8 :: a9 :: a10 :: o :: e) : En)[11]? = some o := by simp
@[simp ↓] theorem q_val12 {a0 a1 a2 a3 a4 a5 a6 a7 a8 a9 a10 a11 : Option D} {R : D → En → Prop} : wVal 12 (a0 :: a1 :: a2 :: a3 :: a4 :: a5 :: a6 :: a7 :: a8 :: a9 :: a10 :: a11 :: some d :: e) R = (d.fz = true ∧ R d (a0 :: a1 :: a2 :: a3 :: a4 :: a5 :: a6 :: a7 :: a8 :: a9 :: a10 :: a11 :: some d :: e)) := by simp [wVal]
@[simp ↓ high] theorem q_valS12 {a0 a1 a2 a3 a4 a5 a6 a7 a8 a9 a10 a11 : Option D} {R : D → En → Prop} : wVal 12 (a0 :: a1 :: a2 :: a3 :: a4 :: a5 :: a6 :: a7 :: a8 :: a9 :: a10 :: a11 :: some (.sc v) :: e) R = R (.sc v) (a0 :: a1 :: a2 :: a3 :: a4 :: a5 :: a6 :: a7 :: a8 :: a9 :: a10 :: a11 :: some (.sc v) :: e) := by simp [wVal]
@[simp ↓] theorem q_var12 {a0 a1 a2 a3 a4 a5 a6 a7 a8 a9 a10 a11 : Option D} {R : D → En → Prop} : wVar 12 (a0 :: a1 :: a2 :: a3 :: a4 :: a5 :: a6 :: a7 :: a8 :: a9 :: a10 :: a11 :: some d :: e) R = R d.frz (a0 :: a1 :: a2 :: a3 :: a4 :: a5 :: a6 :: a7 :: a8 :: a9 :: a10 :: a11 :: some d.frz :: e) := by simp [wVar]
@[simp ↓ high] theorem q_varL12 {a0 a1 a2 a3 a4 a5 a6 a7 a8 a9 a10 a11 : Option D} {R : D → En → Prop} {w : Bool} : wVar 12 (a0 :: a1 :: a2 :: a3 :: a4 :: a5 :: a6 :: a7 :: a8 :: a9 :: a10 :: a11 :: some (.obj w .lst xs) :: e) R = R (.obj false .lst (D.frzL xs)) (a0 :: a1 :: a2 :: a3 :: a4 :: a5 :: a6 :: a7 :: a8 :: a9 :: a10 :: a11 :: some (.obj false .lst (D.frzL xs)) :: e) := by simp [wVar]
@[simp ↓] theorem q_move12 {a0 a1 a2 a3 a4 a5 a6 a7 a8 a9 a10 a11 : Option D} {R : D → En → Prop} : wMove 12 (a0 :: a1 :: a2 :: a3 :: a4 :: a5 :: a6 :: a7 :: a8 :: a9 :: a10 :: a11 :: some d :: e) R = R d (a0 :: a1 :: a2 :: a3 :: a4 :: a5 :: a6 :: a7 :: a8 :: a9 :: a10 :: a11 :: none :: e) := by simp [wMove]
@[simp ↓] theorem q_bn12 {a0 a1 a2 a3 a4 a5 a6 a7 a8 a9 a10 a11 : Option D} {R : D → Prop} : bName 12 (a0 :: a1 :: a2 :: a3 :: a4 :: a5 :: a6 :: a7 :: a8 :: a9 :: a10 :: a11 :: some d :: e) R = R d := by simp [bName]
@[simp ↓] theorem q_mn12 {a0 a1 a2 a3 a4 a5 a6 a7 a8 a9 a10 a11 : Option D} {R : Nat → D → (D → D) → Prop} : mName 12 (a0 :: a1 :: a2 :: a3 :: a4 :: a5 :: a6 :: a7 :: a8 :: a9 :: a10 :: a11 :: some d :: e) R = R 12 d id := by simp [mName]
@[simp ↓] theorem q_gn12 {a0 a1 a2 a3 a4 a5 a6 a7 a8 a9 a10 a11 : Option D} {R : En → Prop} : gNm 12 d (a0 :: a1 :: a2 :: a3 :: a4 :: a5 :: a6 :: a7 :: a8 :: a9 :: a10 :: a11 :: o :: e) R = R (a0 :: a1 :: a2 :: a3 :: a4 :: a5 :: a6 :: a7 :: a8 :: a9 :: a10 :: a11 :: some d :: e) := by simp [gNm]
@[simp ↓] theorem q_gf12 {a0 a1 a2 a3 a4 a5 a6 a7 a8 a9 a10 a11 : Option D} {R : En → Prop} : gFz 12 d (a0 :: a1 :: a2 :: a3 :: a4 :: a5 :: a6 :: a7 :: a8 :: a9 :: a10 :: a11 :: o :: e) R = R (a0 :: a1 :: a2 :: a3 :: a4 :: a5 :: a6 :: a7 :: a8 :: a9 :: a10 :: a11 :: some d.frz :: e) := by simp [gFz]
@[simp ↓ high] theorem q_gfS12 {a0 a1 a2 a3 a4 a5 a6 a7 a8 a9 a10 a11 : Option D} {R : En → Prop} : gFz 12 (.sc v) (a0 :: a1 :: a2 :: a3 :: a4 :: a5 :: a6 :: a7 :: a8 :: a9 :: a10 :: a11 :: o :: e) R = R (a0 :: a1 :: a2 :: a3 :: a4 :: a5 :: a6 :: a7 :: a8 :: a9 :: a10 :: a11 :: some (.sc v) :: e) := by simp [gFz]
@[simp ↓ high] theorem q_gfT12 {a0 a1 a2 a3 a4 a5 a6 a7 a8 a9 a10 a11 : Option D} {R : En → Prop} : gFz 12 (.tup xs) (a0 :: a1 :: a2 :: a3 :: a4 :: a5 :: a6 :: a7 :: a8 :: a9 :: a10 :: a11 :: o :: e) R = R (a0 :: a1 :: a2 :: a3 :: a4 :: a5 :: a6 :: a7 :: a8 :: a9 :: a10 :: a11 :: some (.tup (D.frzL xs)) :: e) := by simp [gFz]
@[simp ↓ high] theorem q_gfL12 {a0 a1 a2 a3 a4 a5 a6 a7 a8 a9 a10 a11 : Option D} {R : En → Prop} {w : Bool} : gFz 12 (.obj w .lst xs) (a0 :: a1 :: a2 :: a3 :: a4 :: a5 :: a6 :: a7 :: a8 :: a9 :: a10 :: a11 :: o :: e) R = R (a0 :: a1 :: a2 :: a3 :: a4 :: a5 :: a6 :: a7 :: a8 :: a9 :: a10 :: a11 :: some (.obj false .lst (D.frzL xs)) :: e) := by simp [gFz]
@[simp ↓] theorem q_ref12 {a0 a1 a2 a3 a4 a5 a6 a7 a8 a9 a10 a11 : Option D} {wc : WC} {R : List AV → En → Prop} : cRef 12 wc (a0 :: a1 :: a2 :: a3 :: a4 :: a5 :: a6 :: a7 :: a8 :: a9 :: a10 :: a11 :: some d :: e) R = wc (a0 :: a1 :: a2 :: a3 :: a4 :: a5 :: a6 :: a7 :: a8 :: a9 :: a10 :: a11 :: some d :: e) fun is e2 => R (.ref 12 :: is) e2 := by simp [cRef]
@[simp ↓] theorem q_aug12 {a0 a1 a2 a3 a4 a5 a6 a7 a8 a9 a10 a11 : Option D} {rd : RD2} {we : WE} {RD : EN} : sAug 12 rd we (a0 :: a1 :: a2 :: a3 :: a4 :: a5 :: a6 :: a7 :: a8 :: a9 :: a10 :: a11 :: some (.sc v) :: e) RD = we (a0 :: a1 :: a2 :: a3 :: a4 :: a5 :: a6 :: a7 :: a8 :: a9 :: a10 :: a11 :: some (.sc v) :: e) fun y e1 => rd (.sc v) y fun z => RD.nx (e1.set 12 (some z)) := by simp [sAug]
@[simp ↓] theorem q_ne12 {a0 a1 a2 a3 a4 a5 a6 a7 a8 a9 a10 a11 : Option D} {rd : RD2} {wb : WE} {R : D → En → Prop} : wBinNE rd 12 wb (a0 :: a1 :: a2 :: a3 :: a4 :: a5 :: a6 :: a7 :: a8 :: a9 :: a10 :: a11 :: some d :: e) R = wb (a0 :: a1 :: a2 :: a3 :: a4 :: a5 :: a6 :: a7 :: a8 :: a9 :: a10 :: a11 :: some d :: e) fun y e2 => ∃ x, e2[12]? = some (some x) ∧ rd x y fun z => R z e2 := by simp [wBinNE]
@[simp ↓ high] theorem q_neC12 {a0 a1 a2 a3 a4 a5 a6 a7 a8 a9 a10 a11 : Option D} {rd : RD2} {R : D → En → Prop} {c : D} : wBinNE rd 12 (wC c) (a0 :: a1 :: a2 :: a3 :: a4 :: a5 :: a6 :: a7 :: a8 :: a9 :: a10 :: a11 :: some d :: e) R = rd d c fun z => R z (a0 :: a1 :: a2 :: a3 :: a4 :: a5 :: a6 :: a7 :: a8 :: a9 :: a10 :: a11 :: some d :: e) := by simp [wBinNE, wC]
@[simp ↓ high] theorem q_neV12 {a0 a1 a2 a3 a4 a5 a6 a7 a8 a9 a10 a11 : Option D} {rd : RD2} {R : D → En → Prop} {j : Nat} : wBinNE rd 12 (wVal j) (a0 :: a1 :: a2 :: a3 :: a4 :: a5 :: a6 :: a7 :: a8 :: a9 :: a10 :: a11 :: some d :: e) R = wVal j (a0 :: a1 :: a2 :: a3 :: a4 :: a5 :: a6 :: a7 :: a8 :: a9 :: a10 :: a11 :: some d :: e) fun y e2 => rd d y fun z => R z e2 := by
  apply propext; simp only [wBinNE, wVal]; constructor
  · rintro ⟨_, y, h1, h2, x, h3, h4⟩; simp at h3; subst h3; exact ⟨y, h1, h2, h4⟩
  · rintro ⟨y, h1, h2, h4⟩; exact ⟨⟨d, by simp⟩, y, h1, h2, d, by simp, h4⟩
@[simp ↓] theorem q_app12 {a0 a1 a2 a3 a4 a5 a6 a7 a8 a9 a10 a11 : Option D} {kf : Bool} {we : WE} {R : D → En → Prop} : wAppN kf 12 we (a0 :: a1 :: a2 :: a3 :: a4 :: a5 :: a6 :: a7 :: a8 :: a9 :: a10 :: a11 :: some (.obj true .lst xs) :: e) R = we (a0 :: a1 :: a2 :: a3 :: a4 :: a5 :: a6 :: a7 :: a8 :: a9 :: a10 :: a11 :: some (.obj true .lst xs) :: e) fun y e1 => ownL (e1[12]?) fun xs => xs.length < sizeLine ∧ R .non (e1.set 12 (some (.lst true (xs ++ [inK kf y])))) := by simp [wAppN, ownL]
@[simp ↓] theorem q_popN12 {a0 a1 a2 a3 a4 a5 a6 a7 a8 a9 a10 a11 : Option D} {wi : WE} {R : D → En → Prop} : wPopAtN 12 wi (a0 :: a1 :: a2 :: a3 :: a4 :: a5 :: a6 :: a7 :: a8 :: a9 :: a10 :: a11 :: some (.obj true .lst xs) :: e) R = wi (a0 :: a1 :: a2 :: a3 :: a4 :: a5 :: a6 :: a7 :: a8 :: a9 :: a10 :: a11 :: some (.obj true .lst xs) :: e) fun k e1 => asI k fun kk => ownL (e1[12]?) fun xs => -(2 ^ 63) ≤ kk ∧ kk < 2 ^ 63 ∧ ∃ j x, L2.ixN xs.length kk = some j ∧ xs[j]? = some x ∧ x.fz = true ∧ R x (e1.set 12 (some (.lst true (xs.eraseIdx j)))) := by simp [wPopAtN, ownL]
@[simp ↓] theorem q_ins12 {a0 a1 a2 a3 a4 a5 a6 a7 a8 a9 a10 a11 : Option D} {wi we : WE} {R : D → En → Prop} : wInsN 12 wi we (a0 :: a1 :: a2 :: a3 :: a4 :: a5 :: a6 :: a7 :: a8 :: a9 :: a10 :: a11 :: some (.obj true .lst xs) :: e) R = wi (a0 :: a1 :: a2 :: a3 :: a4 :: a5 :: a6 :: a7 :: a8 :: a9 :: a10 :: a11 :: some (.obj true .lst xs) :: e) fun k e1 => asI k fun kk => we e1 fun y e2 => ownL (e2[12]?) fun xs => D.fzL xs = true ∧ xs.length < sizeLine ∧ 0 ≤ kk ∧ kk < 2 ^ 63 ∧ R .non (e2.set 12 (some (.lst true (xs.take kk.toNat ++ [y.frz] ++ xs.drop kk.toNat)))) := by simp [wInsN, ownL]
@[simp ↓] theorem q_augN12 {a0 a1 a2 a3 a4 a5 a6 a7 a8 a9 a10 a11 : Option D} {rd : RD2} {wi we : WE} {RD : EN} : sAugNx rd 12 wi we (a0 :: a1 :: a2 :: a3 :: a4 :: a5 :: a6 :: a7 :: a8 :: a9 :: a10 :: a11 :: some d :: e) RD = wi (a0 :: a1 :: a2 :: a3 :: a4 :: a5 :: a6 :: a7 :: a8 :: a9 :: a10 :: a11 :: some d :: e) fun k e1 => asI k fun kk => ownL (e1[12]?) fun xs => ∃ j x, L2.ixN xs.length kk = some j ∧ xs[j]? = some x ∧ x.fz = true ∧ we e1 fun y e2 => ownL (e2[12]?) fun ys => ∃ j2, L2.ixN ys.length kk = some j2 ∧ rd x y fun z => RD.nx (e2.set 12 (some (.lst true (ys.set j2 z)))) := by simp [sAugNx]
@[simp ↓] theorem q_set12 {a0 a1 a2 a3 a4 a5 a6 a7 a8 a9 a10 a11 : Option D} {q : Option D} : List.set (a0 :: a1 :: a2 :: a3 :: a4 :: a5 :: a6 :: a7 :: a8 :: a9 :: a10 :: a11 :: o :: e) 12 q = (a0 :: a1 :: a2 :: a3 :: a4 :: a5 :: a6 :: a7 :: a8 :: a9 :: a10 :: a11 :: q :: e) := by simp
@[simp ↓] theorem q_get12 {a0 a1 a2 a3 a4 a5 a6 a7 a8 a9 a10 a11 : Option D} : ((a0 :: a1 :: a2 :: a3 :: a4 :: a5 :: a6 :: a7 :: a8 :: a9 :: a10 :: a11 :: o :: e) : En)[12]? = some o := by simp
@[simp ↓] theorem q_val13 {a0 a1 a2 a3 a4 a5 a6 a7 a8 a9 a10 a11 a12 : Option D} {R : D → En → Prop} : wVal 13 (a0 :: a1 :: a2 :: a3 :: a4 :: a5 :: a6 :: a7 :: a8 :: a9 :: a10 :: a11 :: a12 :: some d :: e) R = (d.fz = true ∧ R d (a0 :: a1 :: a2 :: a3 :: a4 :: a5 :: a6 :: a7 :: a8 :: a9 :: a10 :: a11 :: a12 :: some d :: e)) := by simp [wVal]
@[simp ↓ high] theorem q_valS13 {a0 a1 a2 a3 a4 a5 a6 a7 a8 a9 a10 a11 a12 : Option D} {R : D → En → Prop} : wVal 13 (a0 :: a1 :: a2 :: a3 :: a4 :: a5 :: a6 :: a7 :: a8 :: a9 :: a10 :: a11 :: a12 :: some (.sc v) :: e) R = R (.sc v) (a0 :: a1 :: a2 :: a3 :: a4 :: a5 :: a6 :: a7 :: a8 :: a9 :: a10 :: a11 :: a12 :: some (.sc v) :: e) := by simp [wVal]
@[simp ↓] theorem q_var13 {a0 a1 a2 a3 a4 a5 a6 a7 a8 a9 a10 a11 a12 : Option D} {R : D → En → Prop} : wVar 13 (a0 :: a1 :: a2 :: a3 :: a4 :: a5 :: a6 :: a7 :: a8 :: a9 :: a10 :: a11 :: a12 :: some d :: e) R = R d.frz (a0 :: a1 :: a2 :: a3 :: a4 :: a5 :: a6 :: a7 :: a8 :: a9 :: a10 :: a11 :: a12 :: some d.frz :: e) := by simp [wVar]
@[simp ↓ high] theorem q_varL13 {a0 a1 a2 a3 a4 a5 a6 a7 a8 a9 a10 a11 a12 : Option D} {R : D → En → Prop} {w : Bool} : wVar 13 (a0 :: a1 :: a2 :: a3 :: a4 :: a5 :: a6 :: a7 :: a8 :: a9 :: a10 :: a11 :: a12 :: some (.obj w .lst xs) :: e) R = R (.obj false .lst (D.frzL xs)) (a0 :: a1 :: a2 :: a3 :: a4 :: a5 :: a6 :: a7 :: a8 :: a9 :: a10 :: a11 :: a12 :: some (.obj false .lst (D.frzL xs)) :: e) := by simp [wVar]
@[simp ↓] theorem q_move13 {a0 a1 a2 a3 a4 a5 a6 a7 a8 a9 a10 a11 a12 : Option D} {R : D → En → Prop} : wMove 13 (a0 :: a1 :: a2 :: a3 :: a4 :: a5 :: a6 :: a7 :: a8 :: a9 :: a10 :: a11 :: a12 :: some d :: e) R = R d (a0 :: a1 :: a2 :: a3 :: a4 :: a5 :: a6 :: a7 :: a8 :: a9 :: a10 :: a11 :: a12 :: none :: e) := by simp [wMove]
@[simp ↓] theorem q_bn13 {a0 a1 a2 a3 a4 a5 a6 a7 a8 a9 a10 a11 a12 : Option D} {R : D → Prop} : bName 13 (a0 :: a1 :: a2 :: a3 :: a4 :: a5 :: a6 :: a7 :: a8 :: a9 :: a10 :: a11 :: a12 :: some d :: e) R = R d := by simp [bName]
@[simp ↓] theorem q_mn13 {a0 a1 a2 a3 a4 a5 a6 a7 a8 a9 a10 a11 a12 : Option D} {R : Nat → D → (D → D) → Prop} : mName 13 (a0 :: a1 :: a2 :: a3 :: a4 :: a5 :: a6 :: a7 :: a8 :: a9 :: a10 :: a11 :: a12 :: some d :: e) R = R 13 d id := by simp [mName]
@[simp ↓] theorem q_gn13 {a0 a1 a2 a3 a4 a5 a6 a7 a8 a9 a10 a11 a12 : Option D} {R : En → Prop} : gNm 13 d (a0 :: a1 :: a2 :: a3 :: a4 :: a5 :: a6 :: a7 :: a8 :: a9 :: a10 :: a11 :: a12 :: o :: e) R = R (a0 :: a1 :: a2 :: a3 :: a4 :: a5 :: a6 :: a7 :: a8 :: a9 :: a10 :: a11 :: a12 :: some d :: e) := by simp [gNm]
@[simp ↓] theorem q_gf13 {a0 a1 a2 a3 a4 a5 a6 a7 a8 a9 a10 a11 a12 : Option D} {R : En → Prop} : gFz 13 d (a0 :: a1 :: a2 :: a3 :: a4 :: a5 :: a6 :: a7 :: a8 :: a9 :: a10 :: a11 :: a12 :: o :: e) R = R (a0 :: a1 :: a2 :: a3 :: a4 :: a5 :: a6 :: a7 :: a8 :: a9 :: a10 :: a11 :: a12 :: some d.frz :: e) := by simp [gFz]
@[simp ↓ high] theorem q_gfS13 {a0 a1 a2 a3 a4 a5 a6 a7 a8 a9 a10 a11 a12 : Option D} {R : En → Prop} : gFz 13 (.sc v) (a0 :: a1 :: a2 :: a3 :: a4 :: a5 :: a6 :: a7 :: a8 :: a9 :: a10 :: a11 :: a12 :: o :: e) R = R (a0 :: a1 :: a2 :: a3 :: a4 :: a5 :: a6 :: a7 :: a8 :: a9 :: a10 :: a11 :: a12 :: some (.sc v) :: e) := by simp [gFz]
@[simp ↓ high] theorem q_gfT13 {a0 a1 a2 a3 a4 a5 a6 a7 a8 a9 a10 a11 a12 : Option D} {R : En → Prop} : gFz 13 (.tup xs) (a0 :: a1 :: a2 :: a3 :: a4 :: a5 :: a6 :: a7 :: a8 :: a9 :: a10 :: a11 :: a12 :: o :: e) R = R (a0 :: a1 :: a2 :: a3 :: a4 :: a5 :: a6 :: a7 :: a8 :: a9 :: a10 :: a11 :: a12 :: some (.tup (D.frzL xs)) :: e) := by simp [gFz]
@[simp ↓ high] theorem q_gfL13 {a0 a1 a2 a3 a4 a5 a6 a7 a8 a9 a10 a11 a12 : Option D} {R : En → Prop} {w : Bool} : gFz 13 (.obj w .lst xs) (a0 :: a1 :: a2 :: a3 :: a4 :: a5 :: a6 :: a7 :: a8 :: a9 :: a10 :: a11 :: a12 :: o :: e) R = R (a0 :: a1 :: a2 :: a3 :: a4 :: a5 :: a6 :: a7 :: a8 :: a9 :: a10 :: a11 :: a12 :: some (.obj false .lst (D.frzL xs)) :: e) := by simp [gFz]
@[simp ↓] theorem q_ref13 {a0 a1 a2 a3 a4 a5 a6 a7 a8 a9 a10 a11 a12 : Option D} {wc : WC} {R : List AV → En → Prop} : cRef 13 wc (a0 :: a1 :: a2 :: a3 :: a4 :: a5 :: a6 :: a7 :: a8 :: a9 :: a10 :: a11 :: a12 :: some d :: e) R = wc (a0 :: a1 :: a2 :: a3 :: a4 :: a5 :: a6 :: a7 :: a8 :: a9 :: a10 :: a11 :: a12 :: some d :: e) fun is e2 => R (.ref 13 :: is) e2 := by simp [cRef]
@[simp ↓] theorem q_aug13 {a0 a1 a2 a3 a4 a5 a6 a7 a8 a9 a10 a11 a12 : Option D} {rd : RD2} {we : WE} {RD : EN} : sAug 13 rd we (a0 :: a1 :: a2 :: a3 :: a4 :: a5 :: a6 :: a7 :: a8 :: a9 :: a10 :: a11 :: a12 :: some (.sc v) :: e) RD = we (a0 :: a1 :: a2 :: a3 :: a4 :: a5 :: a6 :: a7 :: a8 :: a9 :: a10 :: a11 :: a12 :: some (.sc v) :: e) fun y e1 => rd (.sc v) y fun z => RD.nx (e1.set 13 (some z)) := by simp [sAug]
@[simp ↓] theorem q_ne13 {a0 a1 a2 a3 a4 a5 a6 a7 a8 a9 a10 a11 a12 : Option D} {rd : RD2} {wb : WE} {R : D → En → Prop} : wBinNE rd 13 wb (a0 :: a1 :: a2 :: a3 :: a4 :: a5 :: a6 :: a7 :: a8 :: a9 :: a10 :: a11 :: a12 :: some d :: e) R = wb (a0 :: a1 :: a2 :: a3 :: a4 :: a5 :: a6 :: a7 :: a8 :: a9 :: a10 :: a11 :: a12 :: some d :: e) fun y e2 => ∃ x, e2[13]? = some (some x) ∧ rd x y fun z => R z e2 := by simp [wBinNE]
@[simp ↓ high] theorem q_neC13 {a0 a1 a2 a3 a4 a5 a6 a7 a8 a9 a10 a11 a12 : Option D} {rd : RD2} {R : D → En → Prop} {c : D} : wBinNE rd 13 (wC c) (a0 :: a1 :: a2 :: a3 :: a4 :: a5 :: a6 :: a7 :: a8 :: a9 :: a10 :: a11 :: a12 :: some d :: e) R = rd d c fun z => R z (a0 :: a1 :: a2 :: a3 :: a4 :: a5 :: a6 :: a7 :: a8 :: a9 :: a10 :: a11 :: a12 :: some d :: e) := by simp [wBinNE, wC]
@[simp ↓ high] theorem q_neV13 {a0 a1 a2 a3 a4 a5 a6 a7 a8 a9 a10 a11 a12 : Option D} {rd : RD2} {R : D → En → Prop} {j : Nat} : wBinNE rd 13 (wVal j) (a0 :: a1 :: a2 :: a3 :: a4 :: a5 :: a6 :: a7 :: a8 :: a9 :: a10 :: a11 :: a12 :: some d :: e) R = wVal j (a0 :: a1 :: a2 :: a3 :: a4 :: a5 :: a6 :: a7 :: a8 :: a9 :: a10 :: a11 :: a12 :: some d :: e) fun y e2 => rd d y fun z => R z e2 := by
  apply propext; simp only [wBinNE, wVal]; constructor
  · rintro ⟨_, y, h1, h2, x, h3, h4⟩; simp at h3; subst h3; exact ⟨y, h1, h2, h4⟩
  · rintro ⟨y, h1, h2, h4⟩; exact ⟨⟨d, by simp⟩, y, h1, h2, d, by simp, h4⟩
@[simp ↓] theorem q_app13 {a0 a1 a2 a3 a4 a5 a6 a7 a8 a9 a10 a11 a12 : Option D} {kf : Bool} {we : WE} {R : D → En → Prop} : wAppN kf 13 we (a0 :: a1 :: a2 :: a3 :: a4 :: a5 :: a6 :: a7 :: a8 :: a9 :: a10 :: a11 :: a12 :: some (.obj true .lst xs) :: e) R = we (a0 :: a1 :: a2 :: a3 :: a4 :: a5 :: a6 :: a7 :: a8 :: a9 :: a10 :: a11 :: a12 :: some (.obj true .lst xs) :: e) fun y e1 => ownL (e1[13]?) fun xs => xs.length < sizeLine ∧ R .non (e1.set 13 (some (.lst true (xs ++ [inK kf y])))) := by simp [wAppN, ownL]
@[simp ↓] theorem q_popN13 {a0 a1 a2 a3 a4 a5 a6 a7 a8 a9 a10 a11 a12 : Option D} {wi : WE} {R : D → En → Prop} : wPopAtN 13 wi (a0 :: a1 :: a2 :: a3 :: a4 :: a5 :: a6 :: a7 :: a8 :: a9 :: a10 :: a11 :: a12 :: some (.obj true .lst xs) :: e) R = wi (a0 :: a1 :: a2 :: a3 :: a4 :: a5 :: a6 :: a7 :: a8 :: a9 :: a10 :: a11 :: a12 :: some (.obj true .lst xs) :: e) fun k e1 => asI k fun kk => ownL (e1[13]?) fun xs => -(2 ^ 63) ≤ kk ∧ kk < 2 ^ 63 ∧ ∃ j x, L2.ixN xs.length kk = some j ∧ xs[j]? = some x ∧ x.fz = true ∧ R x (e1.set 13 (some (.lst true (xs.eraseIdx j)))) := by simp [wPopAtN, ownL]
@[simp ↓] theorem q_ins13 {a0 a1 a2 a3 a4 a5 a6 a7 a8 a9 a10 a11 a12 : Option D} {wi we : WE} {R : D → En → Prop} : wInsN 13 wi we (a0 :: a1 :: a2 :: a3 :: a4 :: a5 :: a6 :: a7 :: a8 :: a9 :: a10 :: a11 :: a12 :: some (.obj true .lst xs) :: e) R = wi (a0 :: a1 :: a2 :: a3 :: a4 :: a5 :: a6 :: a7 :: a8 :: a9 :: a10 :: a11 :: a12 :: some (.obj true .lst xs) :: e) fun k e1 => asI k fun kk => we e1 fun y e2 => ownL (e2[13]?) fun xs => D.fzL xs = true ∧ xs.length < sizeLine ∧ 0 ≤ kk ∧ kk < 2 ^ 63 ∧ R .non (e2.set 13 (some (.lst true (xs.take kk.toNat ++ [y.frz] ++ xs.drop kk.toNat)))) := by simp [wInsN, ownL]
@[simp ↓] theorem q_augN13 {a0 a1 a2 a3 a4 a5 a6 a7 a8 a9 a10 a11 a12 : Option D} {rd : RD2} {wi we : WE} {RD : EN} : sAugNx rd 13 wi we (a0 :: a1 :: a2 :: a3 :: a4 :: a5 :: a6 :: a7 :: a8 :: a9 :: a10 :: a11 :: a12 :: some d :: e) RD = wi (a0 :: a1 :: a2 :: a3 :: a4 :: a5 :: a6 :: a7 :: a8 :: a9 :: a10 :: a11 :: a12 :: some d :: e) fun k e1 => asI k fun kk => ownL (e1[13]?) fun xs => ∃ j x, L2.ixN xs.length kk = some j ∧ xs[j]? = some x ∧ x.fz = true ∧ we e1 fun y e2 => ownL (e2[13]?) fun ys => ∃ j2, L2.ixN ys.length kk = some j2 ∧ rd x y fun z => RD.nx (e2.set 13 (some (.lst true (ys.set j2 z)))) := by simp [sAugNx]
@[simp ↓] theorem q_set13 {a0 a1 a2 a3 a4 a5 a6 a7 a8 a9 a10 a11 a12 : Option D} {q : Option D} : List.set (a0 :: a1 :: a2 :: a3 :: a4 :: a5 :: a6 :: a7 :: a8 :: a9 :: a10 :: a11 :: a12 :: o :: e) 13 q = (a0 :: a1 :: a2 :: a3 :: a4 :: a5 :: a6 :: a7 :: a8 :: a9 :: a10 :: a11 :: a12 :: q :: e) := by simp
@[simp ↓] theorem q_get13 {a0 a1 a2 a3 a4 a5 a6 a7 a8 a9 a10 a11 a12 : Option D} : ((a0 :: a1 :: a2 :: a3 :: a4 :: a5 :: a6 :: a7 :: a8 :: a9 :: a10 :: a11 :: a12 :: o :: e) : En)[13]? = some o := by simp
@[simp ↓] theorem q_val14 {a0 a1 a2 a3 a4 a5 a6 a7 a8 a9 a10 a11 a12 a13 : Option D} {R : D → En → Prop} : wVal 14 (a0 :: a1 :: a2 :: a3 :: a4 :: a5 :: a6 :: a7 :: a8 :: a9 :: a10 :: a11 :: a12 :: a13 :: some d :: e) R = (d.fz = true ∧ R d (a0 :: a1 :: a2 :: a3 :: a4 :: a5 :: a6 :: a7 :: a8 :: a9 :: a10 :: a11 :: a12 :: a13 :: some d :: e)) := by simp [wVal]
@[simp ↓ high] theorem q_valS14 {a0 a1 a2 a3 a4 a5 a6 a7 a8 a9 a10 a11 a12 a13 : Option D} {R : D → En → Prop} : wVal 14 (a0 :: a1 :: a2 :: a3 :: a4 :: a5 :: a6 :: a7 :: a8 :: a9 :: a10 :: a11 :: a12 :: a13 :: some (.sc v) :: e) R = R (.sc v) (a0 :: a1 :: a2 :: a3 :: a4 :: a5 :: a6 :: a7 :: a8 :: a9 :: a10 :: a11 :: a12 :: a13 :: some (.sc v) :: e) := by simp [wVal]
@[simp ↓] theorem q_var14 {a0 a1 a2 a3 a4 a5 a6 a7 a8 a9 a10 a11 a12 a13 : Option D} {R : D → En → Prop} : wVar 14 (a0 :: a1 :: a2 :: a3 :: a4 :: a5 :: a6 :: a7 :: a8 :: a9 :: a10 :: a11 :: a12 :: a13 :: some d :: e) R = R d.frz (a0 :: a1 :: a2 :: a3 :: a4 :: a5 :: a6 :: a7 :: a8 :: a9 :: a10 :: a11 :: a12 :: a13 :: some d.frz :: e) := by simp [wVar]
@[simp ↓ high] theorem q_varL14 {a0 a1 a2 a3 a4 a5 a6 a7 a8 a9 a10 a11 a12 a13 : Option D} {R : D → En → Prop} {w : Bool} : wVar 14 (a0 :: a1 :: a2 :: a3 :: a4 :: a5 :: a6 :: a7 :: a8 :: a9 :: a10 :: a11 :: a12 :: a13 :: some (.obj w .lst xs) :: e) R = R (.obj false .lst (D.frzL xs)) (a0 :: a1 :: a2 :: a3 :: a4 :: a5 :: a6 :: a7 :: a8 :: a9 :: a10 :: a11 :: a12 :: a13 :: some (.obj false .lst (D.frzL xs)) :: e) := by simp [wVar]
@[simp ↓] theorem q_move14 {a0 a1 a2 a3 a4 a5 a6 a7 a8 a9 a10 a11 a12 a13 : Option D} {R : D → En → Prop} : wMove 14 (a0 :: a1 :: a2 :: a3 :: a4 :: a5 :: a6 :: a7 :: a8 :: a9 :: a10 :: a11 :: a12 :: a13 :: some d :: e) R = R d (a0 :: a1 :: a2 :: a3 :: a4 :: a5 :: a6 :: a7 :: a8 :: a9 :: a10 :: a11 :: a12 :: a13 :: none :: e) := by simp [wMove]
@[simp ↓] theorem q_bn14 {a0 a1 a2 a3 a4 a5 a6 a7 a8 a9 a10 a11 a12 a13 : Option D} {R : D → Prop} : bName 14 (a0 :: a1 :: a2 :: a3 :: a4 :: a5 :: a6 :: a7 :: a8 :: a9 :: a10 :: a11 :: a12 :: a13 :: some d :: e) R = R d := by simp [bName]
@[simp ↓] theorem q_mn14 {a0 a1 a2 a3 a4 a5 a6 a7 a8 a9 a10 a11 a12 a13 : Option D} {R : Nat → D → (D → D) → Prop} : mName 14 (a0 :: a1 :: a2 :: a3 :: a4 :: a5 :: a6 :: a7 :: a8 :: a9 :: a10 :: a11 :: a12 :: a13 :: some d :: e) R = R 14 d id := by simp [mName]
@[simp ↓] theorem q_gn14 {a0 a1 a2 a3 a4 a5 a6 a7 a8 a9 a10 a11 a12 a13 : Option D} {R : En → Prop} : gNm 14 d (a0 :: a1 :: a2 :: a3 :: a4 :: a5 :: a6 :: a7 :: a8 :: a9 :: a10 :: a11 :: a12 :: a13 :: o :: e) R = R (a0 :: a1 :: a2 :: a3 :: a4 :: a5 :: a6 :: a7 :: a8 :: a9 :: a10 :: a11 :: a12 :: a13 :: some d :: e) := by simp [gNm]
@[simp ↓] theorem q_gf14 {a0 a1 a2 a3 a4 a5 a6 a7 a8 a9 a10 a11 a12 a13 : Option D} {R : En → Prop} : gFz 14 d (a0 :: a1 :: a2 :: a3 :: a4 :: a5 :: a6 :: a7 :: a8 :: a9 :: a10 :: a11 :: a12 :: a13 :: o :: e) R = R (a0 :: a1 :: a2 :: a3 :: a4 :: a5 :: a6 :: a7 :: a8 :: a9 :: a10 :: a11 :: a12 :: a13 :: some d.frz :: e) := by simp [gFz]
@[simp ↓ high] theorem q_gfS14 {a0 a1 a2 a3 a4 a5 a6 a7 a8 a9 a10 a11 a12 a13 : Option D} {R : En → Prop} : gFz 14 (.sc v) (a0 :: a1 :: a2 :: a3 :: a4 :: a5 :: a6 :: a7 :: a8 :: a9 :: a10 :: a11 :: a12 :: a13 :: o :: e) R = R (a0 :: a1 :: a2 :: a3 :: a4 :: a5 :: a6 :: a7 :: a8 :: a9 :: a10 :: a11 :: a12 :: a13 :: some (.sc v) :: e) := by simp [gFz]
@[simp ↓ high] theorem q_gfT14 {a0 a1 a2 a3 a4 a5 a6 a7 a8 a9 a10 a11 a12 a13 : Option D} {R : En → Prop} : gFz 14 (.tup xs) (a0 :: a1 :: a2 :: a3 :: a4 :: a5 :: a6 :: a7 :: a8 :: a9 :: a10 :: a11 :: a12 :: a13 :: o :: e) R = R (a0 :: a1 :: a2 :: a3 :: a4 :: a5 :: a6 :: a7 :: a8 :: a9 :: a10 :: a11 :: a12 :: a13 :: some (.tup (D.frzL xs)) :: e) := by simp [gFz]
@[simp ↓ high] theorem q_gfL14 {a0 a1 a2 a3 a4 a5 a6 a7 a8 a9 a10 a11 a12 a13 : Option D} {R : En → Prop} {w : Bool} : gFz 14 (.obj w .lst xs) (a0 :: a1 :: a2 :: a3 :: a4 :: a5 :: a6 :: a7 :: a8 :: a9 :: a10 :: a11 :: a12 :: a13 :: o :: e) R = R (a0 :: a1 :: a2 :: a3 :: a4 :: a5 :: a6 :: a7 :: a8 :: a9 :: a10 :: a11 :: a12 :: a13 :: some (.obj false .lst (D.frzL xs)) :: e) := by simp [gFz]
@[simp ↓] theorem q_ref14 {a0 a1 a2 a3 a4 a5 a6 a7 a8 a9 a10 a11 a12 a13 : Option D} {wc : WC} {R : List AV → En → Prop} : cRef 14 wc (a0 :: a1 :: a2 :: a3 :: a4 :: a5 :: a6 :: a7 :: a8 :: a9 :: a10 :: a11 :: a12 :: a13 :: some d :: e) R = wc (a0 :: a1 :: a2 :: a3 :: a4 :: a5 :: a6 :: a7 :: a8 :: a9 :: a10 :: a11 :: a12 :: a13 :: some d :: e) fun is e2 => R (.ref 14 :: is) e2 := by simp [cRef]
@[simp ↓] theorem q_aug14 {a0 a1 a2 a3 a4 a5 a6 a7 a8 a9 a10 a11 a12 a13 : Option D} {rd : RD2} {we : WE} {RD : EN} : sAug 14 rd we (a0 :: a1 :: a2 :: a3 :: a4 :: a5 :: a6 :: a7 :: a8 :: a9 :: a10 :: a11 :: a12 :: a13 :: some (.sc v) :: e) RD = we (a0 :: a1 :: a2 :: a3 :: a4 :: a5 :: a6 :: a7 :: a8 :: a9 :: a10 :: a11 :: a12 :: a13 :: some (.sc v) :: e) fun y e1 => rd (.sc v) y fun z => RD.nx (e1.set 14 (some z)) := by simp [sAug]
@[simp ↓] theorem q_ne14 {a0 a1 a2 a3 a4 a5 a6 a7 a8 a9 a10 a11 a12 a13 : Option D} {rd : RD2} {wb : WE} {R : D → En → Prop} : wBinNE rd 14 wb (a0 :: a1 :: a2 :: a3 :: a4 :: a5 :: a6 :: a7 :: a8 :: a9 :: a10 :: a11 :: a12 :: a13 :: some d :: e) R = wb (a0 :: a1 :: a2 :: a3 :: a4 :: a5 :: a6 :: a7 :: a8 :: a9 :: a10 :: a11 :: a12 :: a13 :: some d :: e) fun y e2 => ∃ x, e2[14]? = some (some x) ∧ rd x y fun z => R z e2 := by simp [wBinNE]
@[simp ↓ high] theorem q_neC14 {a0 a1 a2 a3 a4 a5 a6 a7 a8 a9 a10 a11 a12 a13 : Option D} {rd : RD2} {R : D → En → Prop} {c : D} : wBinNE rd 14 (wC c) (a0 :: a1 :: a2 :: a3 :: a4 :: a5 :: a6 :: a7 :: a8 :: a9 :: a10 :: a11 :: a12 :: a13 :: some d :: e) R = rd d c fun z => R z (a0 :: a1 :: a2 :: a3 :: a4 :: a5 :: a6 :: a7 :: a8 :: a9 :: a10 :: a11 :: a12 :: a13 :: some d :: e) := by simp [wBinNE, wC]
@[simp ↓ high] theorem q_neV14 {a0 a1 a2 a3 a4 a5 a6 a7 a8 a9 a10 a11 a12 a13 : Option D} {rd : RD2} {R : D → En → Prop} {j : Nat} : wBinNE rd 14 (wVal j) (a0 :: a1 :: a2 :: a3 :: a4 :: a5 :: a6 :: a7 :: a8 :: a9 :: a10 :: a11 :: a12 :: a13 :: some d :: e) R = wVal j (a0 :: a1 :: a2 :: a3 :: a4 :: a5 :: a6 :: a7 :: a8 :: a9 :: a10 :: a11 :: a12 :: a13 :: some d :: e) fun y e2 => rd d y fun z => R z e2 := by
  apply propext; simp only [wBinNE, wVal]; constructor
  · rintro ⟨_, y, h1, h2, x, h3, h4⟩; simp at h3; subst h3; exact ⟨y, h1, h2, h4⟩
  · rintro ⟨y, h1, h2, h4⟩; exact ⟨⟨d, by simp⟩, y, h1, h2, d, by simp, h4⟩
@[simp ↓] theorem q_app14 {a0 a1 a2 a3 a4 a5 a6 a7 a8 a9 a10 a11 a12 a13 : Option D} {kf : Bool} {we : WE} {R : D → En → Prop} : wAppN kf 14 we (a0 :: a1 :: a2 :: a3 :: a4 :: a5 :: a6 :: a7 :: a8 :: a9 :: a10 :: a11 :: a12 :: a13 :: some (.obj true .lst xs) :: e) R = we (a0 :: a1 :: a2 :: a3 :: a4 :: a5 :: a6 :: a7 :: a8 :: a9 :: a10 :: a11 :: a12 :: a13 :: some (.obj true .lst xs) :: e) fun y e1 => ownL (e1[14]?) fun xs => xs.length < sizeLine ∧ R .non (e1.set 14 (some (.lst true (xs ++ [inK kf y])))) := by simp [wAppN, ownL]
@[simp ↓] theorem q_popN14 {a0 a1 a2 a3 a4 a5 a6 a7 a8 a9 a10 a11 a12 a13 : Option D} {wi : WE} {R : D → En → Prop} : wPopAtN 14 wi (a0 :: a1 :: a2 :: a3 :: a4 :: a5 :: a6 :: a7 :: a8 :: a9 :: a10 :: a11 :: a12 :: a13 :: some (.obj true .lst xs) :: e) R = wi (a0 :: a1 :: a2 :: a3 :: a4 :: a5 :: a6 :: a7 :: a8 :: a9 :: a10 :: a11 :: a12 :: a13 :: some (.obj true .lst xs) :: e) fun k e1 => asI k fun kk => ownL (e1[14]?) fun xs => -(2 ^ 63) ≤ kk ∧ kk < 2 ^ 63 ∧ ∃ j x, L2.ixN xs.length kk = some j ∧ xs[j]? = some x ∧ x.fz = true ∧ R x (e1.set 14 (some (.lst true (xs.eraseIdx j)))) := by simp [wPopAtN, ownL]
@[simp ↓] theorem q_ins14 {a0 a1 a2 a3 a4 a5 a6 a7 a8 a9 a10 a11 a12 a13 : Option D} {wi we : WE} {R : D → En → Prop} : wInsN 14 wi we (a0 :: a1 :: a2 :: a3 :: a4 :: a5 :: a6 :: a7 :: a8 :: a9 :: a10 :: a11 :: a12 :: a13 :: some (.obj true .lst xs) :: e) R = wi (a0 :: a1 :: a2 :: a3 :: a4 :: a5 :: a6 :: a7 :: a8 :: a9 :: a10 :: a11 :: a12 :: a13 :: some (.obj true .lst xs) :: e) fun k e1 => asI k fun kk => we e1 fun y e2 => ownL (e2[14]?) fun xs => D.fzL xs = true ∧ xs.length < sizeLine ∧ 0 ≤ kk ∧ kk < 2 ^ 63 ∧ R .non (e2.set 14 (some (.lst true (xs.take kk.toNat ++ [y.frz] ++ xs.drop kk.toNat)))) := by simp [wInsN, ownL]
@[simp ↓] theorem q_augN14 {a0 a1 a2 a3 a4 a5 a6 a7 a8 a9 a10 a11 a12 a13 : Option D} {rd : RD2} {wi we : WE} {RD : EN} : sAugNx rd 14 wi we (a0 :: a1 :: a2 :: a3 :: a4 :: a5 :: a6 :: a7 :: a8 :: a9 :: a10 :: a11 :: a12 :: a13 :: some d :: e) RD = wi (a0 :: a1 :: a2 :: a3 :: a4 :: a5 :: a6 :: a7 :: a8 :: a9 :: a10 :: a11 :: a12 :: a13 :: some d :: e) fun k e1 => asI k fun kk => ownL (e1[14]?) fun xs => ∃ j x, L2.ixN xs.length kk = some j ∧ xs[j]? = some x ∧ x.fz = true ∧ we e1 fun y e2 => ownL (e2[14]?) fun ys => ∃ j2, L2.ixN ys.length kk = some j2 ∧ rd x y fun z => RD.nx (e2.set 14 (some (.lst true (ys.set j2 z)))) := by simp [sAugNx]
@[simp ↓] theorem q_set14 {a0 a1 a2 a3 a4 a5 a6 a7 a8 a9 a10 a11 a12 a13 : Option D} {q : Option D} : List.set (a0 :: a1 :: a2 :: a3 :: a4 :: a5 :: a6 :: a7 :: a8 :: a9 :: a10 :: a11 :: a12 :: a13 :: o :: e) 14 q = (a0 :: a1 :: a2 :: a3 :: a4 :: a5 :: a6 :: a7 :: a8 :: a9 :: a10 :: a11 :: a12 :: a13 :: q :: e) := by simp
@[simp ↓] theorem q_get14 {a0 a1 a2 a3 a4 a5 a6 a7 a8 a9 a10 a11 a12 a13 : Option D} : ((a0 :: a1 :: a2 :: a3 :: a4 :: a5 :: a6 :: a7 :: a8 :: a9 :: a10 :: a11 :: a12 :: a13 :: o :: e) : En)[14]? = some o := by simp
@[simp ↓] theorem q_val15 {a0 a1 a2 a3 a4 a5 a6 a7 a8 a9 a10 a11 a12 a13 a14 : Option D} {R : D → En → Prop} : wVal 15 (a0 :: a1 :: a2 :: a3 :: a4 :: a5 :: a6 :: a7 :: a8 :: a9 :: a10 :: a11 :: a12 :: a13 :: a14 :: some d :: e) R = (d.fz = true ∧ R d (a0 :: a1 :: a2 :: a3 :: a4 :: a5 :: a6 :: a7 :: a8 :: a9 :: a10 :: a11 :: a12 :: a13 :: a14 :: some d :: e)) := by simp [wVal]
@[simp ↓ high] theorem q_valS15 {a0 a1 a2 a3 a4 a5 a6 a7 a8 a9 a10 a11 a12 a13 a14 : Option D} {R : D → En → Prop} : wVal 15 (a0 :: a1 :: a2 :: a3 :: a4 :: a5 :: a6 :: a7 :: a8 :: a9 :: a10 :: a11 :: a12 :: a13 :: a14 :: some (.sc v) :: e) R = R (.sc v) (a0 :: a1 :: a2 :: a3 :: a4 :: a5 :: a6 :: a7 :: a8 :: a9 :: a10 :: a11 :: a12 :: a13 :: a14 :: some (.sc v) :: e) := by simp [wVal]
@[simp ↓] theorem q_var15 {a0 a1 a2 a3 a4 a5 a6 a7 a8 a9 a10 a11 a12 a13 a14 : Option D} {R : D → En → Prop} : wVar 15 (a0 :: a1 :: a2 :: a3 :: a4 :: a5 :: a6 :: a7 :: a8 :: a9 :: a10 :: a11 :: a12 :: a13 :: a14 :: some d :: e) R = R d.frz (a0 :: a1 :: a2 :: a3 :: a4 :: a5 :: a6 :: a7 :: a8 :: a9 :: a10 :: a11 :: a12 :: a13 :: a14 :: some d.frz :: e) := by simp [wVar]
@[simp ↓ high] theorem q_varL15 {a0 a1 a2 a3 a4 a5 a6 a7 a8 a9 a10 a11 a12 a13 a14 : Option D} {R : D → En → Prop} {w : Bool} : wVar 15 (a0 :: a1 :: a2 :: a3 :: a4 :: a5 :: a6 :: a7 :: a8 :: a9 :: a10 :: a11 :: a12 :: a13 :: a14 :: some (.obj w .lst xs) :: e) R = R (.obj false .lst (D.frzL xs)) (a0 :: a1 :: a2 :: a3 :: a4 :: a5 :: a6 :: a7 :: a8 :: a9 :: a10 :: a11 :: a12 :: a13 :: a14 :: some (.obj false .lst (D.frzL xs)) :: e) := by simp [wVar]
@[simp ↓] theorem q_move15 {a0 a1 a2 a3 a4 a5 a6 a7 a8 a9 a10 a11 a12 a13 a14 : Option D} {R : D → En → Prop} : wMove 15 (a0 :: a1 :: a2 :: a3 :: a4 :: a5 :: a6 :: a7 :: a8 :: a9 :: a10 :: a11 :: a12 :: a13 :: a14 :: some d :: e) R = R d (a0 :: a1 :: a2 :: a3 :: a4 :: a5 :: a6 :: a7 :: a8 :: a9 :: a10 :: a11 :: a12 :: a13 :: a14 :: none :: e) := by simp [wMove]
@[simp ↓] theorem q_bn15 {a0 a1 a2 a3 a4 a5 a6 a7 a8 a9 a10 a11 a12 a13 a14 : Option D} {R : D → Prop} : bName 15 (a0 :: a1 :: a2 :: a3 :: a4 :: a5 :: a6 :: a7 :: a8 :: a9 :: a10 :: a11 :: a12 :: a13 :: a14 :: some d :: e) R = R d := by simp [bName]
@[simp ↓] theorem q_mn15 {a0 a1 a2 a3 a4 a5 a6 a7 a8 a9 a10 a11 a12 a13 a14 : Option D} {R : Nat → D → (D → D) → Prop} : mName 15 (a0 :: a1 :: a2 :: a3 :: a4 :: a5 :: a6 :: a7 :: a8 :: a9 :: a10 :: a11 :: a12 :: a13 :: a14 :: some d :: e) R = R 15 d id := by simp [mName]
@[simp ↓] theorem q_gn15 {a0 a1 a2 a3 a4 a5 a6 a7 a8 a9 a10 a11 a12 a13 a14 : Option D} {R : En → Prop} : gNm 15 d (a0 :: a1 :: a2 :: a3 :: a4 :: a5 :: a6 :: a7 :: a8 :: a9 :: a10 :: a11 :: a12 :: a13 :: a14 :: o :: e) R = R (a0 :: a1 :: a2 :: a3 :: a4 :: a5 :: a6 :: a7 :: a8 :: a9 :: a10 :: a11 :: a12 :: a13 :: a14 :: some d :: e) := by simp [gNm]
@[simp ↓] theorem q_gf15 {a0 a1 a2 a3 a4 a5 a6 a7 a8 a9 a10 a11 a12 a13 a14 : Option D} {R : En → Prop} : gFz 15 d (a0 :: a1 :: a2 :: a3 :: a4 :: a5 :: a6 :: a7 :: a8 :: a9 :: a10 :: a11 :: a12 :: a13 :: a14 :: o :: e) R = R (a0 :: a1 :: a2 :: a3 :: a4 :: a5 :: a6 :: a7 :: a8 :: a9 :: a10 :: a11 :: a12 :: a13 :: a14 :: some d.frz :: e) := by simp [gFz]
@[simp ↓ high] theorem q_gfS15 {a0 a1 a2 a3 a4 a5 a6 a7 a8 a9 a10 a11 a12 a13 a14 : Option D} {R : En → Prop} : gFz 15 (.sc v) (a0 :: a1 :: a2 :: a3 :: a4 :: a5 :: a6 :: a7 :: a8 :: a9 :: a10 :: a11 :: a12 :: a13 :: a14 :: o :: e) R = R (a0 :: a1 :: a2 :: a3 :: a4 :: a5 :: a6 :: a7 :: a8 :: a9 :: a10 :: a11 :: a12 :: a13 :: a14 :: some (.sc v) :: e) := by simp [gFz]
@[simp ↓ high] theorem q_gfT15 {a0 a1 a2 a3 a4 a5 a6 a7 a8 a9 a10 a11 a12 a13 a14 : Option D} {R : En → Prop} : gFz 15 (.tup xs) (a0 :: a1 :: a2 :: a3 :: a4 :: a5 :: a6 :: a7 :: a8 :: a9 :: a10 :: a11 :: a12 :: a13 :: a14 :: o :: e) R = R (a0 :: a1 :: a2 :: a3 :: a4 :: a5 :: a6 :: a7 :: a8 :: a9 :: a10 :: a11 :: a12 :: a13 :: a14 :: some (.tup (D.frzL xs)) :: e) := by simp [gFz]
@[simp ↓ high] theorem q_gfL15 {a0 a1 a2 a3 a4 a5 a6 a7 a8 a9 a10 a11 a12 a13 a14 : Option D} {R : En → Prop} {w : Bool} : gFz 15 (.obj w .lst xs) (a0 :: a1 :: a2 :: a3 :: a4 :: a5 :: a6 :: a7 :: a8 :: a9 :: a10 :: a11 :: a12 :: a13 :: a14 :: o :: e) R = R (a0 :: a1 :: a2 :: a3 :: a4 :: a5 :: a6 :: a7 :: a8 :: a9 :: a10 :: a11 :: a12 :: a13 :: a14 :: some (.obj false .lst (D.frzL xs)) :: e) := by simp [gFz]
@[simp ↓] theorem q_ref15 {a0 a1 a2 a3 a4 a5 a6 a7 a8 a9 a10 a11 a12 a13 a14 : Option D} {wc : WC} {R : List AV → En → Prop} : cRef 15 wc (a0 :: a1 :: a2 :: a3 :: a4 :: a5 :: a6 :: a7 :: a8 :: a9 :: a10 :: a11 :: a12 :: a13 :: a14 :: some d :: e) R = wc (a0 :: a1 :: a2 :: a3 :: a4 :: a5 :: a6 :: a7 :: a8 :: a9 :: a10 :: a11 :: a12 :: a13 :: a14 :: some d :: e) fun is e2 => R (.ref 15 :: is) e2 := by simp [cRef]
@[simp ↓] theorem q_aug15 {a0 a1 a2 a3 a4 a5 a6 a7 a8 a9 a10 a11 a12 a13 a14 : Option D} {rd : RD2} {we : WE} {RD : EN} : sAug 15 rd we (a0 :: a1 :: a2 :: a3 :: a4 :: a5 :: a6 :: a7 :: a8 :: a9 :: a10 :: a11 :: a12 :: a13 :: a14 :: some (.sc v) :: e) RD = we (a0 :: a1 :: a2 :: a3 :: a4 :: a5 :: a6 :: a7 :: a8 :: a9 :: a10 :: a11 :: a12 :: a13 :: a14 :: some (.sc v) :: e) fun y e1 => rd (.sc v) y fun z => RD.nx (e1.set 15 (some z)) := by simp [sAug]
@[simp ↓] theorem q_ne15 {a0 a1 a2 a3 a4 a5 a6 a7 a8 a9 a10 a11 a12 a13 a14 : Option D} {rd : RD2} {wb : WE} {R : D → En → Prop} : wBinNE rd 15 wb (a0 :: a1 :: a2 :: a3 :: a4 :: a5 :: a6 :: a7 :: a8 :: a9 :: a10 :: a11 :: a12 :: a13 :: a14 :: some d :: e) R = wb (a0 :: a1 :: a2 :: a3 :: a4 :: a5 :: a6 :: a7 :: a8 :: a9 :: a10 :: a11 :: a12 :: a13 :: a14 :: some d :: e) fun y e2 => ∃ x, e2[15]? = some (some x) ∧ rd x y fun z => R z e2 := by simp [wBinNE]
@[simp ↓ high] theorem q_neC15 {a0 a1 a2 a3 a4 a5 a6 a7 a8 a9 a10 a11 a12 a13 a14 : Option D} {rd : RD2} {R : D → En → Prop} {c : D} : wBinNE rd 15 (wC c) (a0 :: a1 :: a2 :: a3 :: a4 :: a5 :: a6 :: a7 :: a8 :: a9 :: a10 :: a11 :: a12 :: a13 :: a14 :: some d :: e) R = rd d c fun z => R z (a0 :: a1 :: a2 :: a3 :: a4 :: a5 :: a6 :: a7 :: a8 :: a9 :: a10 :: a11 :: a12 :: a13 :: a14 :: some d :: e) := by simp [wBinNE, wC]
@[simp ↓ high] theorem q_neV15 {a0 a1 a2 a3 a4 a5 a6 a7 a8 a9 a10 a11 a12 a13 a14 : Option D} {rd : RD2} {R : D → En → Prop} {j : Nat} : wBinNE rd 15 (wVal j) (a0 :: a1 :: a2 :: a3 :: a4 :: a5 :: a6 :: a7 :: a8 :: a9 :: a10 :: a11 :: a12 :: a13 :: a14 :: some d :: e) R = wVal j (a0 :: a1 :: a2 :: a3 :: a4 :: a5 :: a6 :: a7 :: a8 :: a9 :: a10 :: a11 :: a12 :: a13 :: a14 :: some d :: e) fun y e2 => rd d y fun z => R z e2 := by
  apply propext; simp only [wBinNE, wVal]; constructor
  · rintro ⟨_, y, h1, h2, x, h3, h4⟩; simp at h3; subst h3; exact ⟨y, h1, h2, h4⟩
  · rintro ⟨y, h1, h2, h4⟩; exact ⟨⟨d, by simp⟩, y, h1, h2, d, by simp, h4⟩
@[simp ↓] theorem q_app15 {a0 a1 a2 a3 a4 a5 a6 a7 a8 a9 a10 a11 a12 a13 a14 : Option D} {kf : Bool} {we : WE} {R : D → En → Prop} : wAppN kf 15 we (a0 :: a1 :: a2 :: a3 :: a4 :: a5 :: a6 :: a7 :: a8 :: a9 :: a10 :: a11 :: a12 :: a13 :: a14 :: some (.obj true .lst xs) :: e) R = we (a0 :: a1 :: a2 :: a3 :: a4 :: a5 :: a6 :: a7 :: a8 :: a9 :: a10 :: a11 :: a12 :: a13 :: a14 :: some (.obj true .lst xs) :: e) fun y e1 => ownL (e1[15]?) fun xs => xs.length < sizeLine ∧ R .non (e1.set 15 (some (.lst true (xs ++ [inK kf y])))) := by simp [wAppN, ownL]
@[simp ↓] theorem q_popN15 {a0 a1 a2 a3 a4 a5 a6 a7 a8 a9 a10 a11 a12 a13 a14 : Option D} {wi : WE} {R : D → En → Prop} : wPopAtN 15 wi (a0 :: a1 :: a2 :: a3 :: a4 :: a5 :: a6 :: a7 :: a8 :: a9 :: a10 :: a11 :: a12 :: a13 :: a14 :: some (.obj true .lst xs) :: e) R = wi (a0 :: a1 :: a2 :: a3 :: a4 :: a5 :: a6 :: a7 :: a8 :: a9 :: a10 :: a11 :: a12 :: a13 :: a14 :: some (.obj true .lst xs) :: e) fun k e1 => asI k fun kk => ownL (e1[15]?) fun xs => -(2 ^ 63) ≤ kk ∧ kk < 2 ^ 63 ∧ ∃ j x, L2.ixN xs.length kk = some j ∧ xs[j]? = some x ∧ x.fz = true ∧ R x (e1.set 15 (some (.lst true (xs.eraseIdx j)))) := by simp [wPopAtN, ownL]
@[simp ↓] theorem q_ins15 {a0 a1 a2 a3 a4 a5 a6 a7 a8 a9 a10 a11 a12 a13 a14 : Option D} {wi we : WE} {R : D → En → Prop} : wInsN 15 wi we (a0 :: a1 :: a2 :: a3 :: a4 :: a5 :: a6 :: a7 :: a8 :: a9 :: a10 :: a11 :: a12 :: a13 :: a14 :: some (.obj true .lst xs) :: e) R = wi (a0 :: a1 :: a2 :: a3 :: a4 :: a5 :: a6 :: a7 :: a8 :: a9 :: a10 :: a11 :: a12 :: a13 :: a14 :: some (.obj true .lst xs) :: e) fun k e1 => asI k fun kk => we e1 fun y e2 => ownL (e2[15]?) fun xs => D.fzL xs = true ∧ xs.length < sizeLine ∧ 0 ≤ kk ∧ kk < 2 ^ 63 ∧ R .non (e2.set 15 (some (.lst true (xs.take kk.toNat ++ [y.frz] ++ xs.drop kk.toNat)))) := by simp [wInsN, ownL]
@[simp ↓] theorem q_augN15 {a0 a1 a2 a3 a4 a5 a6 a7 a8 a9 a10 a11 a12 a13 a14 : Option D} {rd : RD2} {wi we : WE} {RD : EN} : sAugNx rd 15 wi we (a0 :: a1 :: a2 :: a3 :: a4 :: a5 :: a6 :: a7 :: a8 :: a9 :: a10 :: a11 :: a12 :: a13 :: a14 :: some d :: e) RD = wi (a0 :: a1 :: a2 :: a3 :: a4 :: a5 :: a6 :: a7 :: a8 :: a9 :: a10 :: a11 :: a12 :: a13 :: a14 :: some d :: e) fun k e1 => asI k fun kk => ownL (e1[15]?) fun xs => ∃ j x, L2.ixN xs.length kk = some j ∧ xs[j]? = some x ∧ x.fz = true ∧ we e1 fun y e2 => ownL (e2[15]?) fun ys => ∃ j2, L2.ixN ys.length kk = some j2 ∧ rd x y fun z => RD.nx (e2.set 15 (some (.lst true (ys.set j2 z)))) := by simp [sAugNx]
@[simp ↓] theorem q_set15 {a0 a1 a2 a3 a4 a5 a6 a7 a8 a9 a10 a11 a12 a13 a14 : Option D} {q : Option D} : List.set (a0 :: a1 :: a2 :: a3 :: a4 :: a5 :: a6 :: a7 :: a8 :: a9 :: a10 :: a11 :: a12 :: a13 :: a14 :: o :: e) 15 q = (a0 :: a1 :: a2 :: a3 :: a4 :: a5 :: a6 :: a7 :: a8 :: a9 :: a10 :: a11 :: a12 :: a13 :: a14 :: q :: e) := by simp
@[simp ↓] theorem q_get15 {a0 a1 a2 a3 a4 a5 a6 a7 a8 a9 a10 a11 a12 a13 a14 : Option D} : ((a0 :: a1 :: a2 :: a3 :: a4 :: a5 :: a6 :: a7 :: a8 :: a9 :: a10 :: a11 :: a12 :: a13 :: a14 :: o :: e) : En)[15]? = some o := by simp
@[simp ↓] theorem q_val16 {a0 a1 a2 a3 a4 a5 a6 a7 a8 a9 a10 a11 a12 a13 a14 a15 : Option D} {R : D → En → Prop} : wVal 16 (a0 :: a1 :: a2 :: a3 :: a4 :: a5 :: a6 :: a7 :: a8 :: a9 :: a10 :: a11 :: a12 :: a13 :: a14 :: a15 :: some d :: e) R = (d.fz = true ∧ R d (a0 :: a1 :: a2 :: a3 :: a4 :: a5 :: a6 :: a7 :: a8 :: a9 :: a10 :: a11 :: a12 :: a13 :: a14 :: a15 :: some d :: e)) := by simp [wVal]
@[simp ↓ high] theorem q_valS16 {a0 a1 a2 a3 a4 a5 a6 a7 a8 a9 a10 a11 a12 a13 a14 a15 : Option D} {R : D → En → Prop} : wVal 16 (a0 :: a1 :: a2 :: a3 :: a4 :: a5 :: a6 :: a7 :: a8 :: a9 :: a10 :: a11 :: a12 :: a13 :: a14 :: a15 :: some (.sc v) :: e) R = R (.sc v) (a0 :: a1 :: a2 :: a3 :: a4 :: a5 :: a6 :: a7 :: a8 :: a9 :: a10 :: a11 :: a12 :: a13 :: a14 :: a15 :: some (.sc v) :: e) := by simp [wVal]
@[simp ↓] theorem q_var16 {a0 a1 a2 a3 a4 a5 a6 a7 a8 a9 a10 a11 a12 a13 a14 a15 : Option D} {R : D → En → Prop} : wVar 16 (a0 :: a1 :: a2 :: a3 :: a4 :: a5 :: a6 :: a7 :: a8 :: a9 :: a10 :: a11 :: a12 :: a13 :: a14 :: a15 :: some d :: e) R = R d.frz (a0 :: a1 :: a2 :: a3 :: a4 :: a5 :: a6 :: a7 :: a8 :: a9 :: a10 :: a11 :: a12 :: a13 :: a14 :: a15 :: some d.frz :: e) := by simp [wVar]
@[simp ↓ high] theorem q_varL16 {a0 a1 a2 a3 a4 a5 a6 a7 a8 a9 a10 a11 a12 a13 a14 a15 : Option D} {R : D → En → Prop} {w : Bool} : wVar 16 (a0 :: a1 :: a2 :: a3 :: a4 :: a5 :: a6 :: a7 :: a8 :: a9 :: a10 :: a11 :: a12 :: a13 :: a14 :: a15 :: some (.obj w .lst xs) :: e) R = R (.obj false .lst (D.frzL xs)) (a0 :: a1 :: a2 :: a3 :: a4 :: a5 :: a6 :: a7 :: a8 :: a9 :: a10 :: a11 :: a12 :: a13 :: a14 :: a15 :: some (.obj false .lst (D.frzL xs)) :: e) := by simp [wVar]
@[simp ↓] theorem q_move16 {a0 a1 a2 a3 a4 a5 a6 a7 a8 a9 a10 a11 a12 a13 a14 a15 : Option D} {R : D → En → Prop} : wMove 16 (a0 :: a1 :: a2 :: a3 :: a4 :: a5 :: a6 :: a7 :: a8 :: a9 :: a10 :: a11 :: a12 :: a13 :: a14 :: a15 :: some d :: e) R = R d (a0 :: a1 :: a2 :: a3 :: a4 :: a5 :: a6 :: a7 :: a8 :: a9 :: a10 :: a11 :: a12 :: a13 :: a14 :: a15 :: none :: e) := by simp [wMove]
@[simp ↓] theorem q_bn16 {a0 a1 a2 a3 a4 a5 a6 a7 a8 a9 a10 a11 a12 a13 a14 a15 : Option D} {R : D → Prop} : bName 16 (a0 :: a1 :: a2 :: a3 :: a4 :: a5 :: a6 :: a7 :: a8 :: a9 :: a10 :: a11 :: a12 :: a13 :: a14 :: a15 :: some d :: e) R = R d := by simp [bName]
@[simp ↓] theorem q_mn16 {a0 a1 a2 a3 a4 a5 a6 a7 a8 a9 a10 a11 a12 a13 a14 a15 : Option D} {R : Nat → D → (D → D) → Prop} : mName 16 (a0 :: a1 :: a2 :: a3 :: a4 :: a5 :: a6 :: a7 :: a8 :: a9 :: a10 :: a11 :: a12 :: a13 :: a14 :: a15 :: some d :: e) R = R 16 d id := by simp [mName]
@[simp ↓] theorem q_gn16 {a0 a1 a2 a3 a4 a5 a6 a7 a8 a9 a10 a11 a12 a13 a14 a15 : Option D} {R : En → Prop} : gNm 16 d (a0 :: a1 :: a2 :: a3 :: a4 :: a5 :: a6 :: a7 :: a8 :: a9 :: a10 :: a11 :: a12 :: a13 :: a14 :: a15 :: o :: e) R = R (a0 :: a1 :: a2 :: a3 :: a4 :: a5 :: a6 :: a7 :: a8 :: a9 :: a10 :: a11 :: a12 :: a13 :: a14 :: a15 :: some d :: e) := by simp [gNm]
@[simp ↓] theorem q_gf16 {a0 a1 a2 a3 a4 a5 a6 a7 a8 a9 a10 a11 a12 a13 a14 a15 : Option D} {R : En → Prop} : gFz 16 d (a0 :: a1 :: a2 :: a3 :: a4 :: a5 :: a6 :: a7 :: a8 :: a9 :: a10 :: a11 :: a12 :: a13 :: a14 :: a15 :: o :: e) R = R (a0 :: a1 :: a2 :: a3 :: a4 :: a5 :: a6 :: a7 :: a8 :: a9 :: a10 :: a11 :: a12 :: a13 :: a14 :: a15 :: some d.frz :: e) := by simp [gFz]
@[simp ↓ high] theorem q_gfS16 {a0 a1 a2 a3 a4 a5 a6 a7 a8 a9 a10 a11 a12 a13 a14 a15 : Option D} {R : En → Prop} : gFz 16 (.sc v) (a0 :: a1 :: a2 :: a3 :: a4 :: a5 :: a6 :: a7 :: a8 :: a9 :: a10 :: a11 :: a12 :: a13 :: a14 :: a15 :: o :: e) R = R (a0 :: a1 :: a2 :: a3 :: a4 :: a5 :: a6 :: a7 :: a8 :: a9 :: a10 :: a11 :: a12 :: a13 :: a14 :: a15 :: some (.sc v) :: e) := by simp [gFz]
@[simp ↓ high] theorem q_gfT16 {a0 a1 a2 a3 a4 a5 a6 a7 a8 a9 a10 a11 a12 a13 a14 a15 : Option D} {R : En → Prop} : gFz 16 (.tup xs) (a0 :: a1 :: a2 :: a3 :: a4 :: a5 :: a6 :: a7 :: a8 :: a9 :: a10 :: a11 :: a12 :: a13 :: a14 :: a15 :: o :: e) R = R (a0 :: a1 :: a2 :: a3 :: a4 :: a5 :: a6 :: a7 :: a8 :: a9 :: a10 :: a11 :: a12 :: a13 :: a14 :: a15 :: some (.tup (D.frzL xs)) :: e) := by simp [gFz]
@[simp ↓ high] theorem q_gfL16 {a0 a1 a2 a3 a4 a5 a6 a7 a8 a9 a10 a11 a12 a13 a14 a15 : Option D} {R : En → Prop} {w : Bool} : gFz 16 (.obj w .lst xs) (a0 :: a1 :: a2 :: a3 :: a4 :: a5 :: a6 :: a7 :: a8 :: a9 :: a10 :: a11 :: a12 :: a13 :: a14 :: a15 :: o :: e) R = R (a0 :: a1 :: a2 :: a3 :: a4 :: a5 :: a6 :: a7 :: a8 :: a9 :: a10 :: a11 :: a12 :: a13 :: a14 :: a15 :: some (.obj false .lst (D.frzL xs)) :: e) := by simp [gFz]
@[simp ↓] theorem q_ref16 {a0 a1 a2 a3 a4 a5 a6 a7 a8 a9 a10 a11 a12 a13 a14 a15 : Option D} {wc : WC} {R : List AV → En → Prop} : cRef 16 wc (a0 :: a1 :: a2 :: a3 :: a4 :: a5 :: a6 :: a7 :: a8 :: a9 :: a10 :: a11 :: a12 :: a13 :: a14 :: a15 :: some d :: e) R = wc (a0 :: a1 :: a2 :: a3 :: a4 :: a5 :: a6 :: a7 :: a8 :: a9 :: a10 :: a11 :: a12 :: a13 :: a14 :: a15 :: some d :: e) fun is e2 => R (.ref 16 :: is) e2 := by simp [cRef]
@[simp ↓] theorem q_aug16 {a0 a1 a2 a3 a4 a5 a6 a7 a8 a9 a10 a11 a12 a13 a14 a15 : Option D} {rd : RD2} {we : WE} {RD : EN} : sAug 16 rd we (a0 :: a1 :: a2 :: a3 :: a4 :: a5 :: a6 :: a7 :: a8 :: a9 :: a10 :: a11 :: a12 :: a13 :: a14 :: a15 :: some (.sc v) :: e) RD = we (a0 :: a1 :: a2 :: a3 :: a4 :: a5 :: a6 :: a7 :: a8 :: a9 :: a10 :: a11 :: a12 :: a13 :: a14 :: a15 :: some (.sc v) :: e) fun y e1 => rd (.sc v) y fun z => RD.nx (e1.set 16 (some z)) := by simp [sAug]
@[simp ↓] theorem q_ne16 {a0 a1 a2 a3 a4 a5 a6 a7 a8 a9 a10 a11 a12 a13 a14 a15 : Option D} {rd : RD2} {wb : WE} {R : D → En → Prop} : wBinNE rd 16 wb (a0 :: a1 :: a2 :: a3 :: a4 :: a5 :: a6 :: a7 :: a8 :: a9 :: a10 :: a11 :: a12 :: a13 :: a14 :: a15 :: some d :: e) R = wb (a0 :: a1 :: a2 :: a3 :: a4 :: a5 :: a6 :: a7 :: a8 :: a9 :: a10 :: a11 :: a12 :: a13 :: a14 :: a15 :: some d :: e) fun y e2 => ∃ x, e2[16]? = some (some x) ∧ rd x y fun z => R z e2 := by simp [wBinNE]
@[simp ↓ high] theorem q_neC16 {a0 a1 a2 a3 a4 a5 a6 a7 a8 a9 a10 a11 a12 a13 a14 a15 : Option D} {rd : RD2} {R : D → En → Prop} {c : D} : wBinNE rd 16 (wC c) (a0 :: a1 :: a2 :: a3 :: a4 :: a5 :: a6 :: a7 :: a8 :: a9 :: a10 :: a11 :: a12 :: a13 :: a14 :: a15 :: some d :: e) R = rd d c fun z => R z (a0 :: a1 :: a2 :: a3 :: a4 :: a5 :: a6 :: a7 :: a8 :: a9 :: a10 :: a11 :: a12 :: a13 :: a14 :: a15 :: some d :: e) := by simp [wBinNE, wC]
@[simp ↓ high] theorem q_neV16 {a0 a1 a2 a3 a4 a5 a6 a7 a8 a9 a10 a11 a12 a13 a14 a15 : Option D} {rd : RD2} {R : D → En → Prop} {j : Nat} : wBinNE rd 16 (wVal j) (a0 :: a1 :: a2 :: a3 :: a4 :: a5 :: a6 :: a7 :: a8 :: a9 :: a10 :: a11 :: a12 :: a13 :: a14 :: a15 :: some d :: e) R = wVal j (a0 :: a1 :: a2 :: a3 :: a4 :: a5 :: a6 :: a7 :: a8 :: a9 :: a10 :: a11 :: a12 :: a13 :: a14 :: a15 :: some d :: e) fun y e2 => rd d y fun z => R z e2 := by
  apply propext; simp only [wBinNE, wVal]; constructor
  · rintro ⟨_, y, h1, h2, x, h3, h4⟩; simp at h3; subst h3; exact ⟨y, h1, h2, h4⟩
  · rintro ⟨y, h1, h2, h4⟩; exact ⟨⟨d, by simp⟩, y, h1, h2, d, by simp, h4⟩
@[simp ↓] theorem q_app16 {a0 a1 a2 a3 a4 a5 a6 a7 a8 a9 a10 a11 a12 a13 a14 a15 : Option D} {kf : Bool} {we : WE} {R : D → En → Prop} : wAppN kf 16 we (a0 :: a1 :: a2 :: a3 :: a4 :: a5 :: a6 :: a7 :: a8 :: a9 :: a10 :: a11 :: a12 :: a13 :: a14 :: a15 :: some (.obj true .lst xs) :: e) R = we (a0 :: a1 :: a2 :: a3 :: a4 :: a5 :: a6 :: a7 :: a8 :: a9 :: a10 :: a11 :: a12 :: a13 :: a14 :: a15 :: some (.obj true .lst xs) :: e) fun y e1 => ownL (e1[16]?) fun xs => xs.length < sizeLine ∧ R .non (e1.set 16 (some (.lst true (xs ++ [inK kf y])))) := by simp [wAppN, ownL]
@[simp ↓] theorem q_popN16 {a0 a1 a2 a3 a4 a5 a6 a7 a8 a9 a10 a11 a12 a13 a14 a15 : Option D} {wi : WE} {R : D → En → Prop} : wPopAtN 16 wi (a0 :: a1 :: a2 :: a3 :: a4 :: a5 :: a6 :: a7 :: a8 :: a9 :: a10 :: a11 :: a12 :: a13 :: a14 :: a15 :: some (.obj true .lst xs) :: e) R = wi (a0 :: a1 :: a2 :: a3 :: a4 :: a5 :: a6 :: a7 :: a8 :: a9 :: a10 :: a11 :: a12 :: a13 :: a14 :: a15 :: some (.obj true .lst xs) :: e) fun k e1 => asI k fun kk => ownL (e1[16]?) fun xs => -(2 ^ 63) ≤ kk ∧ kk < 2 ^ 63 ∧ ∃ j x, L2.ixN xs.length kk = some j ∧ xs[j]? = some x ∧ x.fz = true ∧ R x (e1.set 16 (some (.lst true (xs.eraseIdx j)))) := by simp [wPopAtN, ownL]
@[simp ↓] theorem q_ins16 {a0 a1 a2 a3 a4 a5 a6 a7 a8 a9 a10 a11 a12 a13 a14 a15 : Option D} {wi we : WE} {R : D → En → Prop} : wInsN 16 wi we (a0 :: a1 :: a2 :: a3 :: a4 :: a5 :: a6 :: a7 :: a8 :: a9 :: a10 :: a11 :: a12 :: a13 :: a14 :: a15 :: some (.obj true .lst xs) :: e) R = wi (a0 :: a1 :: a2 :: a3 :: a4 :: a5 :: a6 :: a7 :: a8 :: a9 :: a10 :: a11 :: a12 :: a13 :: a14 :: a15 :: some (.obj true .lst xs) :: e) fun k e1 => asI k fun kk => we e1 fun y e2 => ownL (e2[16]?) fun xs => D.fzL xs = true ∧ xs.length < sizeLine ∧ 0 ≤ kk ∧ kk < 2 ^ 63 ∧ R .non (e2.set 16 (some (.lst true (xs.take kk.toNat ++ [y.frz] ++ xs.drop kk.toNat)))) := by simp [wInsN, ownL]
@[simp ↓] theorem q_augN16 {a0 a1 a2 a3 a4 a5 a6 a7 a8 a9 a10 a11 a12 a13 a14 a15 : Option D} {rd : RD2} {wi we : WE} {RD : EN} : sAugNx rd 16 wi we (a0 :: a1 :: a2 :: a3 :: a4 :: a5 :: a6 :: a7 :: a8 :: a9 :: a10 :: a11 :: a12 :: a13 :: a14 :: a15 :: some d :: e) RD = wi (a0 :: a1 :: a2 :: a3 :: a4 :: a5 :: a6 :: a7 :: a8 :: a9 :: a10 :: a11 :: a12 :: a13 :: a14 :: a15 :: some d :: e) fun k e1 => asI k fun kk => ownL (e1[16]?) fun xs => ∃ j x, L2.ixN xs.length kk = some j ∧ xs[j]? = some x ∧ x.fz = true ∧ we e1 fun y e2 => ownL (e2[16]?) fun ys => ∃ j2, L2.ixN ys.length kk = some j2 ∧ rd x y fun z => RD.nx (e2.set 16 (some (.lst true (ys.set j2 z)))) := by simp [sAugNx]
@[simp ↓] theorem q_set16 {a0 a1 a2 a3 a4 a5 a6 a7 a8 a9 a10 a11 a12 a13 a14 a15 : Option D} {q : Option D} : List.set (a0 :: a1 :: a2 :: a3 :: a4 :: a5 :: a6 :: a7 :: a8 :: a9 :: a10 :: a11 :: a12 :: a13 :: a14 :: a15 :: o :: e) 16 q = (a0 :: a1 :: a2 :: a3 :: a4 :: a5 :: a6 :: a7 :: a8 :: a9 :: a10 :: a11 :: a12 :: a13 :: a14 :: a15 :: q :: e) := by simp
@[simp ↓] theorem q_get16 {a0 a1 a2 a3 a4 a5 a6 a7 a8 a9 a10 a11 a12 a13 a14 a15 : Option D} : ((a0 :: a1 :: a2 :: a3 :: a4 :: a5 :: a6 :: a7 :: a8 :: a9 :: a10 :: a11 :: a12 :: a13 :: a14 :: a15 :: o :: e) : En)[16]? = some o := by simp
@[simp ↓] theorem q_val17 {a0 a1 a2 a3 a4 a5 a6 a7 a8 a9 a10 a11 a12 a13 a14 a15 a16 : Option D} {R : D → En → Prop} : wVal 17 (a0 :: a1 :: a2 :: a3 :: a4 :: a5 :: a6 :: a7 :: a8 :: a9 :: a10 :: a11 :: a12 :: a13 :: a14 :: a15 :: a16 :: some d :: e) R = (d.fz = true ∧ R d (a0 :: a1 :: a2 :: a3 :: a4 :: a5 :: a6 :: a7 :: a8 :: a9 :: a10 :: a11 :: a12 :: a13 :: a14 :: a15 :: a16 :: some d :: e)) := by simp [wVal]
@[simp ↓ high] theorem q_valS17 {a0 a1 a2 a3 a4 a5 a6 a7 a8 a9 a10 a11 a12 a13 a14 a15 a16 : Option D} {R : D → En → Prop} : wVal 17 (a0 :: a1 :: a2 :: a3 :: a4 :: a5 :: a6 :: a7 :: a8 :: a9 :: a10 :: a11 :: a12 :: a13 :: a14 :: a15 :: a16 :: some (.sc v) :: e) R = R (.sc v) (a0 :: a1 :: a2 :: a3 :: a4 :: a5 :: a6 :: a7 :: a8 :: a9 :: a10 :: a11 :: a12 :: a13 :: a14 :: a15 :: a16 :: some (.sc v) :: e) := by simp [wVal]
@[simp ↓] theorem q_var17 {a0 a1 a2 a3 a4 a5 a6 a7 a8 a9 a10 a11 a12 a13 a14 a15 a16 : Option D} {R : D → En → Prop} : wVar 17 (a0 :: a1 :: a2 :: a3 :: a4 :: a5 :: a6 :: a7 :: a8 :: a9 :: a10 :: a11 :: a12 :: a13 :: a14 :: a15 :: a16 :: some d :: e) R = R d.frz (a0 :: a1 :: a2 :: a3 :: a4 :: a5 :: a6 :: a7 :: a8 :: a9 :: a10 :: a11 :: a12 :: a13 :: a14 :: a15 :: a16 :: some d.frz :: e) := by simp [wVar]
@[simp ↓ high] theorem q_varL17 {a0 a1 a2 a3 a4 a5 a6 a7 a8 a9 a10 a11 a12 a13 a14 a15 a16 : Option D} {R : D → En → Prop} {w : Bool} : wVar 17 (a0 :: a1 :: a2 :: a3 :: a4 :: a5 :: a6 :: a7 :: a8 :: a9 :: a10 :: a11 :: a12 :: a13 :: a14 :: a15 :: a16 :: some (.obj w .lst xs) :: e) R = R (.obj false .lst (D.frzL xs)) (a0 :: a1 :: a2 :: a3 :: a4 :: a5 :: a6 :: a7 :: a8 :: a9 :: a10 :: a11 :: a12 :: a13 :: a14 :: a15 :: a16 :: some (.obj false .lst (D.frzL xs)) :: e) := by simp [wVar]
@[simp ↓] theorem q_move17 {a0 a1 a2 a3 a4 a5 a6 a7 a8 a9 a10 a11 a12 a13 a14 a15 a16 : Option D} {R : D → En → Prop} : wMove 17 (a0 :: a1 :: a2 :: a3 :: a4 :: a5 :: a6 :: a7 :: a8 :: a9 :: a10 :: a11 :: a12 :: a13 :: a14 :: a15 :: a16 :: some d :: e) R = R d (a0 :: a1 :: a2 :: a3 :: a4 :: a5 :: a6 :: a7 :: a8 :: a9 :: a10 :: a11 :: a12 :: a13 :: a14 :: a15 :: a16 :: none :: e) := by simp [wMove]
@[simp ↓] theorem q_bn17 {a0 a1 a2 a3 a4 a5 a6 a7 a8 a9 a10 a11 a12 a13 a14 a15 a16 : Option D} {R : D → Prop} : bName 17 (a0 :: a1 :: a2 :: a3 :: a4 :: a5 :: a6 :: a7 :: a8 :: a9 :: a10 :: a11 :: a12 :: a13 :: a14 :: a15 :: a16 :: some d :: e) R = R d := by simp [bName]
@[simp ↓] theorem q_mn17 {a0 a1 a2 a3 a4 a5 a6 a7 a8 a9 a10 a11 a12 a13 a14 a15 a16 : Option D} {R : Nat → D → (D → D) → Prop} : mName 17 (a0 :: a1 :: a2 :: a3 :: a4 :: a5 :: a6 :: a7 :: a8 :: a9 :: a10 :: a11 :: a12 :: a13 :: a14 :: a15 :: a16 :: some d :: e) R = R 17 d id := by simp [mName]
@[simp ↓] theorem q_gn17 {a0 a1 a2 a3 a4 a5 a6 a7 a8 a9 a10 a11 a12 a13 a14 a15 a16 : Option D} {R : En → Prop} : gNm 17 d (a0 :: a1 :: a2 :: a3 :: a4 :: a5 :: a6 :: a7 :: a8 :: a9 :: a10 :: a11 :: a12 :: a13 :: a14 :: a15 :: a16 :: o :: e) R = R (a0 :: a1 :: a2 :: a3 :: a4 :: a5 :: a6 :: a7 :: a8 :: a9 :: a10 :: a11 :: a12 :: a13 :: a14 :: a15 :: a16 :: some d :: e) := by simp [gNm]
@[simp ↓] theorem q_gf17 {a0 a1 a2 a3 a4 a5 a6 a7 a8 a9 a10 a11 a12 a13 a14 a15 a16 : Option D} {R : En → Prop} : gFz 17 d (a0 :: a1 :: a2 :: a3 :: a4 :: a5 :: a6 :: a7 :: a8 :: a9 :: a10 :: a11 :: a12 :: a13 :: a14 :: a15 :: a16 :: o :: e) R = R (a0 :: a1 :: a2 :: a3 :: a4 :: a5 :: a6 :: a7 :: a8 :: a9 :: a10 :: a11 :: a12 :: a13 :: a14 :: a15 :: a16 :: some d.frz :: e) := by simp [gFz]
@[simp ↓ high] theorem q_gfS17 {a0 a1 a2 a3 a4 a5 a6 a7 a8 a9 a10 a11 a12 a13 a14 a15 a16 : Option D} {R : En → Prop} : gFz 17 (.sc v) (a0 :: a1 :: a2 :: a3 :: a4 :: a5 :: a6 :: a7 :: a8 :: a9 :: a10 :: a11 :: a12 :: a13 :: a14 :: a15 :: a16 :: o :: e) R = R (a0 :: a1 :: a2 :: a3 :: a4 :: a5 :: a6 :: a7 :: a8 :: a9 :: a10 :: a11 :: a12 :: a13 :: a14 :: a15 :: a16 :: some (.sc v) :: e) := by simp [gFz]
@[simp ↓ high] theorem q_gfT17 {a0 a1 a2 a3 a4 a5 a6 a7 a8 a9 a10 a11 a12 a13 a14 a15 a16 : Option D} {R : En → Prop} : gFz 17 (.tup xs) (a0 :: a1 :: a2 :: a3 :: a4 :: a5 :: a6 :: a7 :: a8 :: a9 :: a10 :: a11 :: a12 :: a13 :: a14 :: a15 :: a16 :: o :: e) R = R (a0 :: a1 :: a2 :: a3 :: a4 :: a5 :: a6 :: a7 :: a8 :: a9 :: a10 :: a11 :: a12 :: a13 :: a14 :: a15 :: a16 :: some (.tup (D.frzL xs)) :: e) := by simp [gFz]
@[simp ↓ high] theorem q_gfL17 {a0 a1 a2 a3 a4 a5 a6 a7 a8 a9 a10 a11 a12 a13 a14 a15 a16 : Option D} {R : En → Prop} {w : Bool} : gFz 17 (.obj w .lst xs) (a0 :: a1 :: a2 :: a3 :: a4 :: a5 :: a6 :: a7 :: a8 :: a9 :: a10 :: a11 :: a12 :: a13 :: a14 :: a15 :: a16 :: o :: e) R = R (a0 :: a1 :: a2 :: a3 :: a4 :: a5 :: a6 :: a7 :: a8 :: a9 :: a10 :: a11 :: a12 :: a13 :: a14 :: a15 :: a16 :: some (.obj false .lst (D.frzL xs)) :: e) := by simp [gFz]
@[simp ↓] theorem q_ref17 {a0 a1 a2 a3 a4 a5 a6 a7 a8 a9 a10 a11 a12 a13 a14 a15 a16 : Option D} {wc : WC} {R : List AV → En → Prop} : cRef 17 wc (a0 :: a1 :: a2 :: a3 :: a4 :: a5 :: a6 :: a7 :: a8 :: a9 :: a10 :: a11 :: a12 :: a13 :: a14 :: a15 :: a16 :: some d :: e) R = wc (a0 :: a1 :: a2 :: a3 :: a4 :: a5 :: a6 :: a7 :: a8 :: a9 :: a10 :: a11 :: a12 :: a13 :: a14 :: a15 :: a16 :: some d :: e) fun is e2 => R (.ref 17 :: is) e2 := by simp [cRef]
@[simp ↓] theorem q_aug17 {a0 a1 a2 a3 a4 a5 a6 a7 a8 a9 a10 a11 a12 a13 a14 a15 a16 : Option D} {rd : RD2} {we : WE} {RD : EN} : sAug 17 rd we (a0 :: a1 :: a2 :: a3 :: a4 :: a5 :: a6 :: a7 :: a8 :: a9 :: a10 :: a11 :: a12 :: a13 :: a14 :: a15 :: a16 :: some (.sc v) :: e) RD = we (a0 :: a1 :: a2 :: a3 :: a4 :: a5 :: a6 :: a7 :: a8 :: a9 :: a10 :: a11 :: a12 :: a13 :: a14 :: a15 :: a16 :: some (.sc v) :: e) fun y e1 => rd (.sc v) y fun z => RD.nx (e1.set 17 (some z)) := by simp [sAug]
@[simp ↓] theorem q_ne17 {a0 a1 a2 a3 a4 a5 a6 a7 a8 a9 a10 a11 a12 a13 a14 a15 a16 : Option D} {rd : RD2} {wb : WE} {R : D → En → Prop} : wBinNE rd 17 wb (a0 :: a1 :: a2 :: a3 :: a4 :: a5 :: a6 :: a7 :: a8 :: a9 :: a10 :: a11 :: a12 :: a13 :: a14 :: a15 :: a16 :: some d :: e) R = wb (a0 :: a1 :: a2 :: a3 :: a4 :: a5 :: a6 :: a7 :: a8 :: a9 :: a10 :: a11 :: a12 :: a13 :: a14 :: a15 :: a16 :: some d :: e) fun y e2 => ∃ x, e2[17]? = some (some x) ∧ rd x y fun z => R z e2 := by simp [wBinNE]
@[simp ↓ high] theorem q_neC17 {a0 a1 a2 a3 a4 a5 a6 a7 a8 a9 a10 a11 a12 a13 a14 a15 a16 : Option D} {rd : RD2} {R : D → En → Prop} {c : D} : wBinNE rd 17 (wC c) (a0 :: a1 :: a2 :: a3 :: a4 :: a5 :: a6 :: a7 :: a8 :: a9 :: a10 :: a11 :: a12 :: a13 :: a14 :: a15 :: a16 :: some d :: e) R = rd d c fun z => R z (a0 :: a1 :: a2 :: a3 :: a4 :: a5 :: a6 :: a7 :: a8 :: a9 :: a10 :: a11 :: a12 :: a13 :: a14 :: a15 :: a16 :: some d :: e) := by simp [wBinNE, wC]
@[simp ↓ high] theorem q_neV17 {a0 a1 a2 a3 a4 a5 a6 a7 a8 a9 a10 a11 a12 a13 a14 a15 a16 : Option D} {rd : RD2} {R : D → En → Prop} {j : Nat} : wBinNE rd 17 (wVal j) (a0 :: a1 :: a2 :: a3 :: a4 :: a5 :: a6 :: a7 :: a8 :: a9 :: a10 :: a11 :: a12 :: a13 :: a14 :: a15 :: a16 :: some d :: e) R = wVal j (a0 :: a1 :: a2 :: a3 :: a4 :: a5 :: a6 :: a7 :: a8 :: a9 :: a10 :: a11 :: a12 :: a13 :: a14 :: a15 :: a16 :: some d :: e) fun y e2 => rd d y fun z => R z e2 := by
  apply propext; simp only [wBinNE, wVal]; constructor
  · rintro ⟨_, y, h1, h2, x, h3, h4⟩; simp at h3; subst h3; exact ⟨y, h1, h2, h4⟩
  · rintro ⟨y, h1, h2, h4⟩; exact ⟨⟨d, by simp⟩, y, h1, h2, d, by simp, h4⟩
@[simp ↓] theorem q_app17 {a0 a1 a2 a3 a4 a5 a6 a7 a8 a9 a10 a11 a12 a13 a14 a15 a16 : Option D} {kf : Bool} {we : WE} {R : D → En → Prop} : wAppN kf 17 we (a0 :: a1 :: a2 :: a3 :: a4 :: a5 :: a6 :: a7 :: a8 :: a9 :: a10 :: a11 :: a12 :: a13 :: a14 :: a15 :: a16 :: some (.obj true .lst xs) :: e) R = we (a0 :: a1 :: a2 :: a3 :: a4 :: a5 :: a6 :: a7 :: a8 :: a9 :: a10 :: a11 :: a12 :: a13 :: a14 :: a15 :: a16 :: some (.obj true .lst xs) :: e) fun y e1 => ownL (e1[17]?) fun xs => xs.length < sizeLine ∧ R .non (e1.set 17 (some (.lst true (xs ++ [inK kf y])))) := by simp [wAppN, ownL]
@[simp ↓] theorem q_popN17 {a0 a1 a2 a3 a4 a5 a6 a7 a8 a9 a10 a11 a12 a13 a14 a15 a16 : Option D} {wi : WE} {R : D → En → Prop} : wPopAtN 17 wi (a0 :: a1 :: a2 :: a3 :: a4 :: a5 :: a6 :: a7 :: a8 :: a9 :: a10 :: a11 :: a12 :: a13 :: a14 :: a15 :: a16 :: some (.obj true .lst xs) :: e) R = wi (a0 :: a1 :: a2 :: a3 :: a4 :: a5 :: a6 :: a7 :: a8 :: a9 :: a10 :: a11 :: a12 :: a13 :: a14 :: a15 :: a16 :: some (.obj true .lst xs) :: e) fun k e1 => asI k fun kk => ownL (e1[17]?) fun xs => -(2 ^ 63) ≤ kk ∧ kk < 2 ^ 63 ∧ ∃ j x, L2.ixN xs.length kk = some j ∧ xs[j]? = some x ∧ x.fz = true ∧ R x (e1.set 17 (some (.lst true (xs.eraseIdx j)))) := by simp [wPopAtN, ownL]
@[simp ↓] theorem q_ins17 {a0 a1 a2 a3 a4 a5 a6 a7 a8 a9 a10 a11 a12 a13 a14 a15 a16 : Option D} {wi we : WE} {R : D → En → Prop} : wInsN 17 wi we (a0 :: a1 :: a2 :: a3 :: a4 :: a5 :: a6 :: a7 :: a8 :: a9 :: a10 :: a11 :: a12 :: a13 :: a14 :: a15 :: a16 :: some (.obj true .lst xs) :: e) R = wi (a0 :: a1 :: a2 :: a3 :: a4 :: a5 :: a6 :: a7 :: a8 :: a9 :: a10 :: a11 :: a12 :: a13 :: a14 :: a15 :: a16 :: some (.obj true .lst xs) :: e) fun k e1 => asI k fun kk => we e1 fun y e2 => ownL (e2[17]?) fun xs => D.fzL xs = true ∧ xs.length < sizeLine ∧ 0 ≤ kk ∧ kk < 2 ^ 63 ∧ R .non (e2.set 17 (some (.lst true (xs.take kk.toNat ++ [y.frz] ++ xs.drop kk.toNat)))) := by simp [wInsN, ownL]
@[simp ↓] theorem q_augN17 {a0 a1 a2 a3 a4 a5 a6 a7 a8 a9 a10 a11 a12 a13 a14 a15 a16 : Option D} {rd : RD2} {wi we : WE} {RD : EN} : sAugNx rd 17 wi we (a0 :: a1 :: a2 :: a3 :: a4 :: a5 :: a6 :: a7 :: a8 :: a9 :: a10 :: a11 :: a12 :: a13 :: a14 :: a15 :: a16 :: some d :: e) RD = wi (a0 :: a1 :: a2 :: a3 :: a4 :: a5 :: a6 :: a7 :: a8 :: a9 :: a10 :: a11 :: a12 :: a13 :: a14 :: a15 :: a16 :: some d :: e) fun k e1 => asI k fun kk => ownL (e1[17]?) fun xs => ∃ j x, L2.ixN xs.length kk = some j ∧ xs[j]? = some x ∧ x.fz = true ∧ we e1 fun y e2 => ownL (e2[17]?) fun ys => ∃ j2, L2.ixN ys.length kk = some j2 ∧ rd x y fun z => RD.nx (e2.set 17 (some (.lst true (ys.set j2 z)))) := by simp [sAugNx]
@[simp ↓] theorem q_set17 {a0 a1 a2 a3 a4 a5 a6 a7 a8 a9 a10 a11 a12 a13 a14 a15 a16 : Option D} {q : Option D} : List.set (a0 :: a1 :: a2 :: a3 :: a4 :: a5 :: a6 :: a7 :: a8 :: a9 :: a10 :: a11 :: a12 :: a13 :: a14 :: a15 :: a16 :: o :: e) 17 q = (a0 :: a1 :: a2 :: a3 :: a4 :: a5 :: a6 :: a7 :: a8 :: a9 :: a10 :: a11 :: a12 :: a13 :: a14 :: a15 :: a16 :: q :: e) := by simp
@[simp ↓] theorem q_get17 {a0 a1 a2 a3 a4 a5 a6 a7 a8 a9 a10 a11 a12 a13 a14 a15 a16 : Option D} : ((a0 :: a1 :: a2 :: a3 :: a4 :: a5 :: a6 :: a7 :: a8 :: a9 :: a10 :: a11 :: a12 :: a13 :: a14 :: a15 :: a16 :: o :: e) : En)[17]? = some o := by simp
@[simp ↓] theorem q_val18 {a0 a1 a2 a3 a4 a5 a6 a7 a8 a9 a10 a11 a12 a13 a14 a15 a16 a17 : Option D} {R : D → En → Prop} : wVal 18 (a0 :: a1 :: a2 :: a3 :: a4 :: a5 :: a6 :: a7 :: a8 :: a9 :: a10 :: a11 :: a12 :: a13 :: a14 :: a15 :: a16 :: a17 :: some d :: e) R = (d.fz = true ∧ R d (a0 :: a1 :: a2 :: a3 :: a4 :: a5 :: a6 :: a7 :: a8 :: a9 :: a10 :: a11 :: a12 :: a13 :: a14 :: a15 :: a16 :: a17 :: some d :: e)) := by simp [wVal]
@[simp ↓ high] theorem q_valS18 {a0 a1 a2 a3 a4 a5 a6 a7 a8 a9 a10 a11 a12 a13 a14 a15 a16 a17 : Option D} {R : D → En → Prop} : wVal 18 (a0 :: a1 :: a2 :: a3 :: a4 :: a5 :: a6 :: a7 :: a8 :: a9 :: a10 :: a11 :: a12 :: a13 :: a14 :: a15 :: a16 :: a17 :: some (.sc v) :: e) R = R (.sc v) (a0 :: a1 :: a2 :: a3 :: a4 :: a5 :: a6 :: a7 :: a8 :: a9 :: a10 :: a11 :: a12 :: a13 :: a14 :: a15 :: a16 :: a17 :: some (.sc v) :: e) := by simp [wVal]
@[simp ↓] theorem q_var18 {a0 a1 a2 a3 a4 a5 a6 a7 a8 a9 a10 a11 a12 a13 a14 a15 a16 a17 : Option D} {R : D → En → Prop} : wVar 18 (a0 :: a1 :: a2 :: a3 :: a4 :: a5 :: a6 :: a7 :: a8 :: a9 :: a10 :: a11 :: a12 :: a13 :: a14 :: a15 :: a16 :: a17 :: some d :: e) R = R d.frz (a0 :: a1 :: a2 :: a3 :: a4 :: a5 :: a6 :: a7 :: a8 :: a9 :: a10 :: a11 :: a12 :: a13 :: a14 :: a15 :: a16 :: a17 :: some d.frz :: e) := by simp [wVar]
@[simp ↓ high] theorem q_varL18 {a0 a1 a2 a3 a4 a5 a6 a7 a8 a9 a10 a11 a12 a13 a14 a15 a16 a17 : Option D} {R : D → En → Prop} {w : Bool} : wVar 18 (a0 :: a1 :: a2 :: a3 :: a4 :: a5 :: a6 :: a7 :: a8 :: a9 :: a10 :: a11 :: a12 :: a13 :: a14 :: a15 :: a16 :: a17 :: some (.obj w .lst xs) :: e) R = R (.obj false .lst (D.frzL xs)) (a0 :: a1 :: a2 :: a3 :: a4 :: a5 :: a6 :: a7 :: a8 :: a9 :: a10 :: a11 :: a12 :: a13 :: a14 :: a15 :: a16 :: a17 :: some (.obj false .lst (D.frzL xs)) :: e) := by simp [wVar]
@[simp ↓] theorem q_move18 {a0 a1 a2 a3 a4 a5 a6 a7 a8 a9 a10 a11 a12 a13 a14 a15 a16 a17 : Option D} {R : D → En → Prop} : wMove 18 (a0 :: a1 :: a2 :: a3 :: a4 :: a5 :: a6 :: a7 :: a8 :: a9 :: a10 :: a11 :: a12 :: a13 :: a14 :: a15 :: a16 :: a17 :: some d :: e) R = R d (a0 :: a1 :: a2 :: a3 :: a4 :: a5 :: a6 :: a7 :: a8 :: a9 :: a10 :: a11 :: a12 :: a13 :: a14 :: a15 :: a16 :: a17 :: none :: e) := by simp [wMove]
@[simp ↓] theorem q_bn18 {a0 a1 a2 a3 a4 a5 a6 a7 a8 a9 a10 a11 a12 a13 a14 a15 a16 a17 : Option D} {R : D → Prop} : bName 18 (a0 :: a1 :: a2 :: a3 :: a4 :: a5 :: a6 :: a7 :: a8 :: a9 :: a10 :: a11 :: a12 :: a13 :: a14 :: a15 :: a16 :: a17 :: some d :: e) R = R d := by simp [bName]
@[simp ↓] theorem q_mn18 {a0 a1 a2 a3 a4 a5 a6 a7 a8 a9 a10 a11 a12 a13 a14 a15 a16 a17 : Option D} {R : Nat → D → (D → D) → Prop} : mName 18 (a0 :: a1 :: a2 :: a3 :: a4 :: a5 :: a6 :: a7 :: a8 :: a9 :: a10 :: a11 :: a12 :: a13 :: a14 :: a15 :: a16 :: a17 :: some d :: e) R = R 18 d id := by simp [mName]
@[simp ↓] theorem q_gn18 {a0 a1 a2 a3 a4 a5 a6 a7 a8 a9 a10 a11 a12 a13 a14 a15 a16 a17 : Option D} {R : En → Prop} : gNm 18 d (a0 :: a1 :: a2 :: a3 :: a4 :: a5 :: a6 :: a7 :: a8 :: a9 :: a10 :: a11 :: a12 :: a13 :: a14 :: a15 :: a16 :: a17 :: o :: e) R = R (a0 :: a1 :: a2 :: a3 :: a4 :: a5 :: a6 :: a7 :: a8 :: a9 :: a10 :: a11 :: a12 :: a13 :: a14 :: a15 :: a16 :: a17 :: some d :: e) := by simp [gNm]
@[simp ↓] theorem q_gf18 {a0 a1 a2 a3 a4 a5 a6 a7 a8 a9 a10 a11 a12 a13 a14 a15 a16 a17 : Option D} {R : En → Prop} : gFz 18 d (a0 :: a1 :: a2 :: a3 :: a4 :: a5 :: a6 :: a7 :: a8 :: a9 :: a10 :: a11 :: a12 :: a13 :: a14 :: a15 :: a16 :: a17 :: o :: e) R = R (a0 :: a1 :: a2 :: a3 :: a4 :: a5 :: a6 :: a7 :: a8 :: a9 :: a10 :: a11 :: a12 :: a13 :: a14 :: a15 :: a16 :: a17 :: some d.frz :: e) := by simp [gFz]
@[simp ↓ high] theorem q_gfS18 {a0 a1 a2 a3 a4 a5 a6 a7 a8 a9 a10 a11 a12 a13 a14 a15 a16 a17 : Option D} {R : En → Prop} : gFz 18 (.sc v) (a0 :: a1 :: a2 :: a3 :: a4 :: a5 :: a6 :: a7 :: a8 :: a9 :: a10 :: a11 :: a12 :: a13 :: a14 :: a15 :: a16 :: a17 :: o :: e) R = R (a0 :: a1 :: a2 :: a3 :: a4 :: a5 :: a6 :: a7 :: a8 :: a9 :: a10 :: a11 :: a12 :: a13 :: a14 :: a15 :: a16 :: a17 :: some (.sc v) :: e) := by simp [gFz]
@[simp ↓ high] theorem q_gfT18 {a0 a1 a2 a3 a4 a5 a6 a7 a8 a9 a10 a11 a12 a13 a14 a15 a16 a17 : Option D} {R : En → Prop} : gFz 18 (.tup xs) (a0 :: a1 :: a2 :: a3 :: a4 :: a5 :: a6 :: a7 :: a8 :: a9 :: a10 :: a11 :: a12 :: a13 :: a14 :: a15 :: a16 :: a17 :: o :: e) R = R (a0 :: a1 :: a2 :: a3 :: a4 :: a5 :: a6 :: a7 :: a8 :: a9 :: a10 :: a11 :: a12 :: a13 :: a14 :: a15 :: a16 :: a17 :: some (.tup (D.frzL xs)) :: e) := by simp [gFz]
@[simp ↓ high] theorem q_gfL18 {a0 a1 a2 a3 a4 a5 a6 a7 a8 a9 a10 a11 a12 a13 a14 a15 a16 a17 : Option D} {R : En → Prop} {w : Bool} : gFz 18 (.obj w .lst xs) (a0 :: a1 :: a2 :: a3 :: a4 :: a5 :: a6 :: a7 :: a8 :: a9 :: a10 :: a11 :: a12 :: a13 :: a14 :: a15 :: a16 :: a17 :: o :: e) R = R (a0 :: a1 :: a2 :: a3 :: a4 :: a5 :: a6 :: a7 :: a8 :: a9 :: a10 :: a11 :: a12 :: a13 :: a14 :: a15 :: a16 :: a17 :: some (.obj false .lst (D.frzL xs)) :: e) := by simp [gFz]
@[simp ↓] theorem q_ref18 {a0 a1 a2 a3 a4 a5 a6 a7 a8 a9 a10 a11 a12 a13 a14 a15 a16 a17 : Option D} {wc : WC} {R : List AV → En → Prop} : cRef 18 wc (a0 :: a1 :: a2 :: a3 :: a4 :: a5 :: a6 :: a7 :: a8 :: a9 :: a10 :: a11 :: a12 :: a13 :: a14 :: a15 :: a16 :: a17 :: some d :: e) R = wc (a0 :: a1 :: a2 :: a3 :: a4 :: a5 :: a6 :: a7 :: a8 :: a9 :: a10 :: a11 :: a12 :: a13 :: a14 :: a15 :: a16 :: a17 :: some d :: e) fun is e2 => R (.ref 18 :: is) e2 := by simp [cRef]
@[simp ↓] theorem q_aug18 {a0 a1 a2 a3 a4 a5 a6 a7 a8 a9 a10 a11 a12 a13 a14 a15 a16 a17 : Option D} {rd : RD2} {we : WE} {RD : EN} : sAug 18 rd we (a0 :: a1 :: a2 :: a3 :: a4 :: a5 :: a6 :: a7 :: a8 :: a9 :: a10 :: a11 :: a12 :: a13 :: a14 :: a15 :: a16 :: a17 :: some (.sc v) :: e) RD = we (a0 :: a1 :: a2 :: a3 :: a4 :: a5 :: a6 :: a7 :: a8 :: a9 :: a10 :: a11 :: a12 :: a13 :: a14 :: a15 :: a16 :: a17 :: some (.sc v) :: e) fun y e1 => rd (.sc v) y fun z => RD.nx (e1.set 18 (some z)) := by simp [sAug]
@[simp ↓] theorem q_ne18 {a0 a1 a2 a3 a4 a5 a6 a7 a8 a9 a10 a11 a12 a13 a14 a15 a16 a17 : Option D} {rd : RD2} {wb : WE} {R : D → En → Prop} : wBinNE rd 18 wb (a0 :: a1 :: a2 :: a3 :: a4 :: a5 :: a6 :: a7 :: a8 :: a9 :: a10 :: a11 :: a12 :: a13 :: a14 :: a15 :: a16 :: a17 :: some d :: e) R = wb (a0 :: a1 :: a2 :: a3 :: a4 :: a5 :: a6 :: a7 :: a8 :: a9 :: a10 :: a11 :: a12 :: a13 :: a14 :: a15 :: a16 :: a17 :: some d :: e) fun y e2 => ∃ x, e2[18]? = some (some x) ∧ rd x y fun z => R z e2 := by simp [wBinNE]
@[simp ↓ high] theorem q_neC18 {a0 a1 a2 a3 a4 a5 a6 a7 a8 a9 a10 a11 a12 a13 a14 a15 a16 a17 : Option D} {rd : RD2} {R : D → En → Prop} {c : D} : wBinNE rd 18 (wC c) (a0 :: a1 :: a2 :: a3 :: a4 :: a5 :: a6 :: a7 :: a8 :: a9 :: a10 :: a11 :: a12 :: a13 :: a14 :: a15 :: a16 :: a17 :: some d :: e) R = rd d c fun z => R z (a0 :: a1 :: a2 :: a3 :: a4 :: a5 :: a6 :: a7 :: a8 :: a9 :: a10 :: a11 :: a12 :: a13 :: a14 :: a15 :: a16 :: a17 :: some d :: e) := by simp [wBinNE, wC]
@[simp ↓ high] theorem q_neV18 {a0 a1 a2 a3 a4 a5 a6 a7 a8 a9 a10 a11 a12 a13 a14 a15 a16 a17 : Option D} {rd : RD2} {R : D → En → Prop} {j : Nat} : wBinNE rd 18 (wVal j) (a0 :: a1 :: a2 :: a3 :: a4 :: a5 :: a6 :: a7 :: a8 :: a9 :: a10 :: a11 :: a12 :: a13 :: a14 :: a15 :: a16 :: a17 :: some d :: e) R = wVal j (a0 :: a1 :: a2 :: a3 :: a4 :: a5 :: a6 :: a7 :: a8 :: a9 :: a10 :: a11 :: a12 :: a13 :: a14 :: a15 :: a16 :: a17 :: some d :: e) fun y e2 => rd d y fun z => R z e2 := by
  apply propext; simp only [wBinNE, wVal]; constructor
  · rintro ⟨_, y, h1, h2, x, h3, h4⟩; simp at h3; subst h3; exact ⟨y, h1, h2, h4⟩
  · rintro ⟨y, h1, h2, h4⟩; exact ⟨⟨d, by simp⟩, y, h1, h2, d, by simp, h4⟩
@[simp ↓] theorem q_app18 {a0 a1 a2 a3 a4 a5 a6 a7 a8 a9 a10 a11 a12 a13 a14 a15 a16 a17 : Option D} {kf : Bool} {we : WE} {R : D → En → Prop} : wAppN kf 18 we (a0 :: a1 :: a2 :: a3 :: a4 :: a5 :: a6 :: a7 :: a8 :: a9 :: a10 :: a11 :: a12 :: a13 :: a14 :: a15 :: a16 :: a17 :: some (.obj true .lst xs) :: e) R = we (a0 :: a1 :: a2 :: a3 :: a4 :: a5 :: a6 :: a7 :: a8 :: a9 :: a10 :: a11 :: a12 :: a13 :: a14 :: a15 :: a16 :: a17 :: some (.obj true .lst xs) :: e) fun y e1 => ownL (e1[18]?) fun xs => xs.length < sizeLine ∧ R .non (e1.set 18 (some (.lst true (xs ++ [inK kf y])))) := by simp [wAppN, ownL]
@[simp ↓] theorem q_popN18 {a0 a1 a2 a3 a4 a5 a6 a7 a8 a9 a10 a11 a12 a13 a14 a15 a16 a17 : Option D} {wi : WE} {R : D → En → Prop} : wPopAtN 18 wi (a0 :: a1 :: a2 :: a3 :: a4 :: a5 :: a6 :: a7 :: a8 :: a9 :: a10 :: a11 :: a12 :: a13 :: a14 :: a15 :: a16 :: a17 :: some (.obj true .lst xs) :: e) R = wi (a0 :: a1 :: a2 :: a3 :: a4 :: a5 :: a6 :: a7 :: a8 :: a9 :: a10 :: a11 :: a12 :: a13 :: a14 :: a15 :: a16 :: a17 :: some (.obj true .lst xs) :: e) fun k e1 => asI k fun kk => ownL (e1[18]?) fun xs => -(2 ^ 63) ≤ kk ∧ kk < 2 ^ 63 ∧ ∃ j x, L2.ixN xs.length kk = some j ∧ xs[j]? = some x ∧ x.fz = true ∧ R x (e1.set 18 (some (.lst true (xs.eraseIdx j)))) := by simp [wPopAtN, ownL]
@[simp ↓] theorem q_ins18 {a0 a1 a2 a3 a4 a5 a6 a7 a8 a9 a10 a11 a12 a13 a14 a15 a16 a17 : Option D} {wi we : WE} {R : D → En → Prop} : wInsN 18 wi we (a0 :: a1 :: a2 :: a3 :: a4 :: a5 :: a6 :: a7 :: a8 :: a9 :: a10 :: a11 :: a12 :: a13 :: a14 :: a15 :: a16 :: a17 :: some (.obj true .lst xs) :: e) R = wi (a0 :: a1 :: a2 :: a3 :: a4 :: a5 :: a6 :: a7 :: a8 :: a9 :: a10 :: a11 :: a12 :: a13 :: a14 :: a15 :: a16 :: a17 :: some (.obj true .lst xs) :: e) fun k e1 => asI k fun kk => we e1 fun y e2 => ownL (e2[18]?) fun xs => D.fzL xs = true ∧ xs.length < sizeLine ∧ 0 ≤ kk ∧ kk < 2 ^ 63 ∧ R .non (e2.set 18 (some (.lst true (xs.take kk.toNat ++ [y.frz] ++ xs.drop kk.toNat)))) := by simp [wInsN, ownL]
@[simp ↓] theorem q_augN18 {a0 a1 a2 a3 a4 a5 a6 a7 a8 a9 a10 a11 a12 a13 a14 a15 a16 a17 : Option D} {rd : RD2} {wi we : WE} {RD : EN} : sAugNx rd 18 wi we (a0 :: a1 :: a2 :: a3 :: a4 :: a5 :: a6 :: a7 :: a8 :: a9 :: a10 :: a11 :: a12 :: a13 :: a14 :: a15 :: a16 :: a17 :: some d :: e) RD = wi (a0 :: a1 :: a2 :: a3 :: a4 :: a5 :: a6 :: a7 :: a8 :: a9 :: a10 :: a11 :: a12 :: a13 :: a14 :: a15 :: a16 :: a17 :: some d :: e) fun k e1 => asI k fun kk => ownL (e1[18]?) fun xs => ∃ j x, L2.ixN xs.length kk = some j ∧ xs[j]? = some x ∧ x.fz = true ∧ we e1 fun y e2 => ownL (e2[18]?) fun ys => ∃ j2, L2.ixN ys.length kk = some j2 ∧ rd x y fun z => RD.nx (e2.set 18 (some (.lst true (ys.set j2 z)))) := by simp [sAugNx]
@[simp ↓] theorem q_set18 {a0 a1 a2 a3 a4 a5 a6 a7 a8 a9 a10 a11 a12 a13 a14 a15 a16 a17 : Option D} {q : Option D} : List.set (a0 :: a1 :: a2 :: a3 :: a4 :: a5 :: a6 :: a7 :: a8 :: a9 :: a10 :: a11 :: a12 :: a13 :: a14 :: a15 :: a16 :: a17 :: o :: e) 18 q = (a0 :: a1 :: a2 :: a3 :: a4 :: a5 :: a6 :: a7 :: a8 :: a9 :: a10 :: a11 :: a12 :: a13 :: a14 :: a15 :: a16 :: a17 :: q :: e) := by simp
@[simp ↓] theorem q_get18 {a0 a1 a2 a3 a4 a5 a6 a7 a8 a9 a10 a11 a12 a13 a14 a15 a16 a17 : Option D} : ((a0 :: a1 :: a2 :: a3 :: a4 :: a5 :: a6 :: a7 :: a8 :: a9 :: a10 :: a11 :: a12 :: a13 :: a14 :: a15 :: a16 :: a17 :: o :: e) : En)[18]? = some o := by simp
@[simp ↓] theorem q_val19 {a0 a1 a2 a3 a4 a5 a6 a7 a8 a9 a10 a11 a12 a13 a14 a15 a16 a17 a18 : Option D} {R : D → En → Prop} : wVal 19 (a0 :: a1 :: a2 :: a3 :: a4 :: a5 :: a6 :: a7 :: a8 :: a9 :: a10 :: a11 :: a12 :: a13 :: a14 :: a15 :: a16 :: a17 :: a18 :: some d :: e) R = (d.fz = true ∧ R d (a0 :: a1 :: a2 :: a3 :: a4 :: a5 :: a6 :: a7 :: a8 :: a9 :: a10 :: a11 :: a12 :: a13 :: a14 :: a15 :: a16 :: a17 :: a18 :: some d :: e)) := by simp [wVal]
@[simp ↓ high] theorem q_valS19 {a0 a1 a2 a3 a4 a5 a6 a7 a8 a9 a10 a11 a12 a13 a14 a15 a16 a17 a18 : Option D} {R : D → En → Prop} : wVal 19 (a0 :: a1 :: a2 :: a3 :: a4 :: a5 :: a6 :: a7 :: a8 :: a9 :: a10 :: a11 :: a12 :: a13 :: a14 :: a15 :: a16 :: a17 :: a18 :: some (.sc v) :: e) R = R (.sc v) (a0 :: a1 :: a2 :: a3 :: a4 :: a5 :: a6 :: a7 :: a8 :: a9 :: a10 :: a11 :: a12 :: a13 :: a14 :: a15 :: a16 :: a17 :: a18 :: some (.sc v) :: e) := by simp [wVal]
@[simp ↓] theorem q_var19 {a0 a1 a2 a3 a4 a5 a6 a7 a8 a9 a10 a11 a12 a13 a14 a15 a16 a17 a18 : Option D} {R : D → En → Prop} : wVar 19 (a0 :: a1 :: a2 :: a3 :: a4 :: a5 :: a6 :: a7 :: a8 :: a9 :: a10 :: a11 :: a12 :: a13 :: a14 :: a15 :: a16 :: a17 :: a18 :: some d :: e) R = R d.frz (a0 :: a1 :: a2 :: a3 :: a4 :: a5 :: a6 :: a7 :: a8 :: a9 :: a10 :: a11 :: a12 :: a13 :: a14 :: a15 :: a16 :: a17 :: a18 :: some d.frz :: e) := by simp [wVar]
@[simp ↓ high] theorem q_varL19 {a0 a1 a2 a3 a4 a5 a6 a7 a8 a9 a10 a11 a12 a13 a14 a15 a16 a17 a18 : Option D} {R : D → En → Prop} {w : Bool} : wVar 19 (a0 :: a1 :: a2 :: a3 :: a4 :: a5 :: a6 :: a7 :: a8 :: a9 :: a10 :: a11 :: a12 :: a13 :: a14 :: a15 :: a16 :: a17 :: a18 :: some (.obj w .lst xs) :: e) R = R (.obj false .lst (D.frzL xs)) (a0 :: a1 :: a2 :: a3 :: a4 :: a5 :: a6 :: a7 :: a8 :: a9 :: a10 :: a11 :: a12 :: a13 :: a14 :: a15 :: a16 :: a17 :: a18 :: some (.obj false .lst (D.frzL xs)) :: e) := by simp [wVar]
@[simp ↓] theorem q_move19 {a0 a1 a2 a3 a4 a5 a6 a7 a8 a9 a10 a11 a12 a13 a14 a15 a16 a17 a18 : Option D} {R : D → En → Prop} : wMove 19 (a0 :: a1 :: a2 :: a3 :: a4 :: a5 :: a6 :: a7 :: a8 :: a9 :: a10 :: a11 :: a12 :: a13 :: a14 :: a15 :: a16 :: a17 :: a18 :: some d :: e) R = R d (a0 :: a1 :: a2 :: a3 :: a4 :: a5 :: a6 :: a7 :: a8 :: a9 :: a10 :: a11 :: a12 :: a13 :: a14 :: a15 :: a16 :: a17 :: a18 :: none :: e) := by simp [wMove]
@[simp ↓] theorem q_bn19 {a0 a1 a2 a3 a4 a5 a6 a7 a8 a9 a10 a11 a12 a13 a14 a15 a16 a17 a18 : Option D} {R : D → Prop} : bName 19 (a0 :: a1 :: a2 :: a3 :: a4 :: a5 :: a6 :: a7 :: a8 :: a9 :: a10 :: a11 :: a12 :: a13 :: a14 :: a15 :: a16 :: a17 :: a18 :: some d :: e) R = R d := by simp [bName]
@[simp ↓] theorem q_mn19 {a0 a1 a2 a3 a4 a5 a6 a7 a8 a9 a10 a11 a12 a13 a14 a15 a16 a17 a18 : Option D} {R : Nat → D → (D → D) → Prop} : mName 19 (a0 :: a1 :: a2 :: a3 :: a4 :: a5 :: a6 :: a7 :: a8 :: a9 :: a10 :: a11 :: a12 :: a13 :: a14 :: a15 :: a16 :: a17 :: a18 :: some d :: e) R = R 19 d id := by simp [mName]
@[simp ↓] theorem q_gn19 {a0 a1 a2 a3 a4 a5 a6 a7 a8 a9 a10 a11 a12 a13 a14 a15 a16 a17 a18 : Option D} {R : En → Prop} : gNm 19 d (a0 :: a1 :: a2 :: a3 :: a4 :: a5 :: a6 :: a7 :: a8 :: a9 :: a10 :: a11 :: a12 :: a13 :: a14 :: a15 :: a16 :: a17 :: a18 :: o :: e) R = R (a0 :: a1 :: a2 :: a3 :: a4 :: a5 :: a6 :: a7 :: a8 :: a9 :: a10 :: a11 :: a12 :: a13 :: a14 :: a15 :: a16 :: a17 :: a18 :: some d :: e) := by simp [gNm]
@[simp ↓] theorem q_gf19 {a0 a1 a2 a3 a4 a5 a6 a7 a8 a9 a10 a11 a12 a13 a14 a15 a16 a17 a18 : Option D} {R : En → Prop} : gFz 19 d (a0 :: a1 :: a2 :: a3 :: a4 :: a5 :: a6 :: a7 :: a8 :: a9 :: a10 :: a11 :: a12 :: a13 :: a14 :: a15 :: a16 :: a17 :: a18 :: o :: e) R = R (a0 :: a1 :: a2 :: a3 :: a4 :: a5 :: a6 :: a7 :: a8 :: a9 :: a10 :: a11 :: a12 :: a13 :: a14 :: a15 :: a16 :: a17 :: a18 :: some d.frz :: e) := by simp [gFz]
@[simp ↓ high] theorem q_gfS19 {a0 a1 a2 a3 a4 a5 a6 a7 a8 a9 a10 a11 a12 a13 a14 a15 a16 a17 a18 : Option D} {R : En → Prop} : gFz 19 (.sc v) (a0 :: a1 :: a2 :: a3 :: a4 :: a5 :: a6 :: a7 :: a8 :: a9 :: a10 :: a11 :: a12 :: a13 :: a14 :: a15 :: a16 :: a17 :: a18 :: o :: e) R = R (a0 :: a1 :: a2 :: a3 :: a4 :: a5 :: a6 :: a7 :: a8 :: a9 :: a10 :: a11 :: a12 :: a13 :: a14 :: a15 :: a16 :: a17 :: a18 :: some (.sc v) :: e) := by simp [gFz]
@[simp ↓ high] theorem q_gfT19 {a0 a1 a2 a3 a4 a5 a6 a7 a8 a9 a10 a11 a12 a13 a14 a15 a16 a17 a18 : Option D} {R : En → Prop} : gFz 19 (.tup xs) (a0 :: a1 :: a2 :: a3 :: a4 :: a5 :: a6 :: a7 :: a8 :: a9 :: a10 :: a11 :: a12 :: a13 :: a14 :: a15 :: a16 :: a17 :: a18 :: o :: e) R = R (a0 :: a1 :: a2 :: a3 :: a4 :: a5 :: a6 :: a7 :: a8 :: a9 :: a10 :: a11 :: a12 :: a13 :: a14 :: a15 :: a16 :: a17 :: a18 :: some (.tup (D.frzL xs)) :: e) := by simp [gFz]
@[simp ↓ high] theorem q_gfL19 {a0 a1 a2 a3 a4 a5 a6 a7 a8 a9 a10 a11 a12 a13 a14 a15 a16 a17 a18 : Option D} {R : En → Prop} {w : Bool} : gFz 19 (.obj w .lst xs) (a0 :: a1 :: a2 :: a3 :: a4 :: a5 :: a6 :: a7 :: a8 :: a9 :: a10 :: a11 :: a12 :: a13 :: a14 :: a15 :: a16 :: a17 :: a18 :: o :: e) R = R (a0 :: a1 :: a2 :: a3 :: a4 :: a5 :: a6 :: a7 :: a8 :: a9 :: a10 :: a11 :: a12 :: a13 :: a14 :: a15 :: a16 :: a17 :: a18 :: some (.obj false .lst (D.frzL xs)) :: e) := by simp [gFz]
@[simp ↓] theorem q_ref19 {a0 a1 a2 a3 a4 a5 a6 a7 a8 a9 a10 a11 a12 a13 a14 a15 a16 a17 a18 : Option D} {wc : WC} {R : List AV → En → Prop} : cRef 19 wc (a0 :: a1 :: a2 :: a3 :: a4 :: a5 :: a6 :: a7 :: a8 :: a9 :: a10 :: a11 :: a12 :: a13 :: a14 :: a15 :: a16 :: a17 :: a18 :: some d :: e) R = wc (a0 :: a1 :: a2 :: a3 :: a4 :: a5 :: a6 :: a7 :: a8 :: a9 :: a10 :: a11 :: a12 :: a13 :: a14 :: a15 :: a16 :: a17 :: a18 :: some d :: e) fun is e2 => R (.ref 19 :: is) e2 := by simp [cRef]
@[simp ↓] theorem q_aug19 {a0 a1 a2 a3 a4 a5 a6 a7 a8 a9 a10 a11 a12 a13 a14 a15 a16 a17 a18 : Option D} {rd : RD2} {we : WE} {RD : EN} : sAug 19 rd we (a0 :: a1 :: a2 :: a3 :: a4 :: a5 :: a6 :: a7 :: a8 :: a9 :: a10 :: a11 :: a12 :: a13 :: a14 :: a15 :: a16 :: a17 :: a18 :: some (.sc v) :: e) RD = we (a0 :: a1 :: a2 :: a3 :: a4 :: a5 :: a6 :: a7 :: a8 :: a9 :: a10 :: a11 :: a12 :: a13 :: a14 :: a15 :: a16 :: a17 :: a18 :: some (.sc v) :: e) fun y e1 => rd (.sc v) y fun z => RD.nx (e1.set 19 (some z)) := by simp [sAug]
@[simp ↓] theorem q_ne19 {a0 a1 a2 a3 a4 a5 a6 a7 a8 a9 a10 a11 a12 a13 a14 a15 a16 a17 a18 : Option D} {rd : RD2} {wb : WE} {R : D → En → Prop} : wBinNE rd 19 wb (a0 :: a1 :: a2 :: a3 :: a4 :: a5 :: a6 :: a7 :: a8 :: a9 :: a10 :: a11 :: a12 :: a13 :: a14 :: a15 :: a16 :: a17 :: a18 :: some d :: e) R = wb (a0 :: a1 :: a2 :: a3 :: a4 :: a5 :: a6 :: a7 :: a8 :: a9 :: a10 :: a11 :: a12 :: a13 :: a14 :: a15 :: a16 :: a17 :: a18 :: some d :: e) fun y e2 => ∃ x, e2[19]? = some (some x) ∧ rd x y fun z => R z e2 := by simp [wBinNE]
@[simp ↓ high] theorem q_neC19 {a0 a1 a2 a3 a4 a5 a6 a7 a8 a9 a10 a11 a12 a13 a14 a15 a16 a17 a18 : Option D} {rd : RD2} {R : D → En → Prop} {c : D} : wBinNE rd 19 (wC c) (a0 :: a1 :: a2 :: a3 :: a4 :: a5 :: a6 :: a7 :: a8 :: a9 :: a10 :: a11 :: a12 :: a13 :: a14 :: a15 :: a16 :: a17 :: a18 :: some d :: e) R = rd d c fun z => R z (a0 :: a1 :: a2 :: a3 :: a4 :: a5 :: a6 :: a7 :: a8 :: a9 :: a10 :: a11 :: a12 :: a13 :: a14 :: a15 :: a16 :: a17 :: a18 :: some d :: e) := by simp [wBinNE, wC]
@[simp ↓ high] theorem q_neV19 {a0 a1 a2 a3 a4 a5 a6 a7 a8 a9 a10 a11 a12 a13 a14 a15 a16 a17 a18 : Option D} {rd : RD2} {R : D → En → Prop} {j : Nat} : wBinNE rd 19 (wVal j) (a0 :: a1 :: a2 :: a3 :: a4 :: a5 :: a6 :: a7 :: a8 :: a9 :: a10 :: a11 :: a12 :: a13 :: a14 :: a15 :: a16 :: a17 :: a18 :: some d :: e) R = wVal j (a0 :: a1 :: a2 :: a3 :: a4 :: a5 :: a6 :: a7 :: a8 :: a9 :: a10 :: a11 :: a12 :: a13 :: a14 :: a15 :: a16 :: a17 :: a18 :: some d :: e) fun y e2 => rd d y fun z => R z e2 := by
  apply propext; simp only [wBinNE, wVal]; constructor
  · rintro ⟨_, y, h1, h2, x, h3, h4⟩; simp at h3; subst h3; exact ⟨y, h1, h2, h4⟩
  · rintro ⟨y, h1, h2, h4⟩; exact ⟨⟨d, by simp⟩, y, h1, h2, d, by simp, h4⟩
@[simp ↓] theorem q_app19 {a0 a1 a2 a3 a4 a5 a6 a7 a8 a9 a10 a11 a12 a13 a14 a15 a16 a17 a18 : Option D} {kf : Bool} {we : WE} {R : D → En → Prop} : wAppN kf 19 we (a0 :: a1 :: a2 :: a3 :: a4 :: a5 :: a6 :: a7 :: a8 :: a9 :: a10 :: a11 :: a12 :: a13 :: a14 :: a15 :: a16 :: a17 :: a18 :: some (.obj true .lst xs) :: e) R = we (a0 :: a1 :: a2 :: a3 :: a4 :: a5 :: a6 :: a7 :: a8 :: a9 :: a10 :: a11 :: a12 :: a13 :: a14 :: a15 :: a16 :: a17 :: a18 :: some (.obj true .lst xs) :: e) fun y e1 => ownL (e1[19]?) fun xs => xs.length < sizeLine ∧ R .non (e1.set 19 (some (.lst true (xs ++ [inK kf y])))) := by simp [wAppN, ownL]
@[simp ↓] theorem q_popN19 {a0 a1 a2 a3 a4 a5 a6 a7 a8 a9 a10 a11 a12 a13 a14 a15 a16 a17 a18 : Option D} {wi : WE} {R : D → En → Prop} : wPopAtN 19 wi (a0 :: a1 :: a2 :: a3 :: a4 :: a5 :: a6 :: a7 :: a8 :: a9 :: a10 :: a11 :: a12 :: a13 :: a14 :: a15 :: a16 :: a17 :: a18 :: some (.obj true .lst xs) :: e) R = wi (a0 :: a1 :: a2 :: a3 :: a4 :: a5 :: a6 :: a7 :: a8 :: a9 :: a10 :: a11 :: a12 :: a13 :: a14 :: a15 :: a16 :: a17 :: a18 :: some (.obj true .lst xs) :: e) fun k e1 => asI k fun kk => ownL (e1[19]?) fun xs => -(2 ^ 63) ≤ kk ∧ kk < 2 ^ 63 ∧ ∃ j x, L2.ixN xs.length kk = some j ∧ xs[j]? = some x ∧ x.fz = true ∧ R x (e1.set 19 (some (.lst true (xs.eraseIdx j)))) := by simp [wPopAtN, ownL]
@[simp ↓] theorem q_ins19 {a0 a1 a2 a3 a4 a5 a6 a7 a8 a9 a10 a11 a12 a13 a14 a15 a16 a17 a18 : Option D} {wi we : WE} {R : D → En → Prop} : wInsN 19 wi we (a0 :: a1 :: a2 :: a3 :: a4 :: a5 :: a6 :: a7 :: a8 :: a9 :: a10 :: a11 :: a12 :: a13 :: a14 :: a15 :: a16 :: a17 :: a18 :: some (.obj true .lst xs) :: e) R = wi (a0 :: a1 :: a2 :: a3 :: a4 :: a5 :: a6 :: a7 :: a8 :: a9 :: a10 :: a11 :: a12 :: a13 :: a14 :: a15 :: a16 :: a17 :: a18 :: some (.obj true .lst xs) :: e) fun k e1 => asI k fun kk => we e1 fun y e2 => ownL (e2[19]?) fun xs => D.fzL xs = true ∧ xs.length < sizeLine ∧ 0 ≤ kk ∧ kk < 2 ^ 63 ∧ R .non (e2.set 19 (some (.lst true (xs.take kk.toNat ++ [y.frz] ++ xs.drop kk.toNat)))) := by simp [wInsN, ownL]
@[simp ↓] theorem q_augN19 {a0 a1 a2 a3 a4 a5 a6 a7 a8 a9 a10 a11 a12 a13 a14 a15 a16 a17 a18 : Option D} {rd : RD2} {wi we : WE} {RD : EN} : sAugNx rd 19 wi we (a0 :: a1 :: a2 :: a3 :: a4 :: a5 :: a6 :: a7 :: a8 :: a9 :: a10 :: a11 :: a12 :: a13 :: a14 :: a15 :: a16 :: a17 :: a18 :: some d :: e) RD = wi (a0 :: a1 :: a2 :: a3 :: a4 :: a5 :: a6 :: a7 :: a8 :: a9 :: a10 :: a11 :: a12 :: a13 :: a14 :: a15 :: a16 :: a17 :: a18 :: some d :: e) fun k e1 => asI k fun kk => ownL (e1[19]?) fun xs => ∃ j x, L2.ixN xs.length kk = some j ∧ xs[j]? = some x ∧ x.fz = true ∧ we e1 fun y e2 => ownL (e2[19]?) fun ys => ∃ j2, L2.ixN ys.length kk = some j2 ∧ rd x y fun z => RD.nx (e2.set 19 (some (.lst true (ys.set j2 z)))) := by simp [sAugNx]
@[simp ↓] theorem q_set19 {a0 a1 a2 a3 a4 a5 a6 a7 a8 a9 a10 a11 a12 a13 a14 a15 a16 a17 a18 : Option D} {q : Option D} : List.set (a0 :: a1 :: a2 :: a3 :: a4 :: a5 :: a6 :: a7 :: a8 :: a9 :: a10 :: a11 :: a12 :: a13 :: a14 :: a15 :: a16 :: a17 :: a18 :: o :: e) 19 q = (a0 :: a1 :: a2 :: a3 :: a4 :: a5 :: a6 :: a7 :: a8 :: a9 :: a10 :: a11 :: a12 :: a13 :: a14 :: a15 :: a16 :: a17 :: a18 :: q :: e) := by simp
@[simp ↓] theorem q_get19 {a0 a1 a2 a3 a4 a5 a6 a7 a8 a9 a10 a11 a12 a13 a14 a15 a16 a17 a18 : Option D} : ((a0 :: a1 :: a2 :: a3 :: a4 :: a5 :: a6 :: a7 :: a8 :: a9 :: a10 :: a11 :: a12 :: a13 :: a14 :: a15 :: a16 :: a17 :: a18 :: o :: e) : En)[19]? = some o := by simp
@[simp] theorem q_at0 {α : Type} { x : α} {l : List α} : L2.atI (x :: l) 0 = some x := atI_of (by decide) (by simp)
@[simp] theorem q_ix0 {n : Nat} : L2.ixN (n + 1) 0 = some 0 := ixN_of (i := 0) (by decide) (by omega)
@[simp] theorem q_at1 {α : Type} {a0 x : α} {l : List α} : L2.atI (a0 :: x :: l) 1 = some x := atI_of (by decide) (by simp)
@[simp] theorem q_ix1 {n : Nat} : L2.ixN (n + 2) 1 = some 1 := ixN_of (i := 1) (by decide) (by omega)
@[simp] theorem q_at2 {α : Type} {a0 a1 x : α} {l : List α} : L2.atI (a0 :: a1 :: x :: l) 2 = some x := atI_of (by decide) (by simp)
@[simp] theorem q_ix2 {n : Nat} : L2.ixN (n + 3) 2 = some 2 := ixN_of (i := 2) (by decide) (by omega)
@[simp] theorem q_at3 {α : Type} {a0 a1 a2 x : α} {l : List α} : L2.atI (a0 :: a1 :: a2 :: x :: l) 3 = some x := atI_of (by decide) (by simp)
@[simp] theorem q_ix3 {n : Nat} : L2.ixN (n + 4) 3 = some 3 := ixN_of (i := 3) (by decide) (by omega)
@[simp] theorem q_at4 {α : Type} {a0 a1 a2 a3 x : α} {l : List α} : L2.atI (a0 :: a1 :: a2 :: a3 :: x :: l) 4 = some x := atI_of (by decide) (by simp)
@[simp] theorem q_ix4 {n : Nat} : L2.ixN (n + 5) 4 = some 4 := ixN_of (i := 4) (by decide) (by omega)
@[simp] theorem q_at5 {α : Type} {a0 a1 a2 a3 a4 x : α} {l : List α} : L2.atI (a0 :: a1 :: a2 :: a3 :: a4 :: x :: l) 5 = some x := atI_of (by decide) (by simp)
@[simp] theorem q_ix5 {n : Nat} : L2.ixN (n + 6) 5 = some 5 := ixN_of (i := 5) (by decide) (by omega)
@[simp] theorem q_at6 {α : Type} {a0 a1 a2 a3 a4 a5 x : α} {l : List α} : L2.atI (a0 :: a1 :: a2 :: a3 :: a4 :: a5 :: x :: l) 6 = some x := atI_of (by decide) (by simp)
@[simp] theorem q_ix6 {n : Nat} : L2.ixN (n + 7) 6 = some 6 := ixN_of (i := 6) (by decide) (by omega)
@[simp] theorem q_at7 {α : Type} {a0 a1 a2 a3 a4 a5 a6 x : α} {l : List α} : L2.atI (a0 :: a1 :: a2 :: a3 :: a4 :: a5 :: a6 :: x :: l) 7 = some x := atI_of (by decide) (by simp)
@[simp] theorem q_ix7 {n : Nat} : L2.ixN (n + 8) 7 = some 7 := ixN_of (i := 7) (by decide) (by omega)
@[simp] theorem q_at8 {α : Type} {a0 a1 a2 a3 a4 a5 a6 a7 x : α} {l : List α} : L2.atI (a0 :: a1 :: a2 :: a3 :: a4 :: a5 :: a6 :: a7 :: x :: l) 8 = some x := atI_of (by decide) (by simp)
@[simp] theorem q_ix8 {n : Nat} : L2.ixN (n + 9) 8 = some 8 := ixN_of (i := 8) (by decide) (by omega)
@[simp] theorem q_sz0 : 0 ≤ sizeLine := by show _ ≤ 16777216; decide
@[simp] theorem q_szl0 : 0 < sizeLine := by show _ < 16777216; decide
@[simp] theorem q_sz1 : 1 ≤ sizeLine := by show _ ≤ 16777216; decide
@[simp] theorem q_szl1 : 1 < sizeLine := by show _ < 16777216; decide
@[simp] theorem q_sz2 : 2 ≤ sizeLine := by show _ ≤ 16777216; decide
@[simp] theorem q_szl2 : 2 < sizeLine := by show _ < 16777216; decide
@[simp] theorem q_sz3 : 3 ≤ sizeLine := by show _ ≤ 16777216; decide
@[simp] theorem q_szl3 : 3 < sizeLine := by show _ < 16777216; decide
@[simp] theorem q_sz4 : 4 ≤ sizeLine := by show _ ≤ 16777216; decide
@[simp] theorem q_szl4 : 4 < sizeLine := by show _ < 16777216; decide
@[simp] theorem q_sz5 : 5 ≤ sizeLine := by show _ ≤ 16777216; decide
@[simp] theorem q_szl5 : 5 < sizeLine := by show _ < 16777216; decide
@[simp] theorem q_sz6 : 6 ≤ sizeLine := by show _ ≤ 16777216; decide
@[simp] theorem q_szl6 : 6 < sizeLine := by show _ < 16777216; decide
@[simp] theorem q_sz7 : 7 ≤ sizeLine := by show _ ≤ 16777216; decide
@[simp] theorem q_szl7 : 7 < sizeLine := by show _ < 16777216; decide
@[simp] theorem q_sz8 : 8 ≤ sizeLine := by show _ ≤ 16777216; decide
@[simp] theorem q_szl8 : 8 < sizeLine := by show _ < 16777216; decide
@[simp] theorem q_sz9 : 9 ≤ sizeLine := by show _ ≤ 16777216; decide
@[simp] theorem q_szl9 : 9 < sizeLine := by show _ < 16777216; decide
@[simp ↓] theorem q_is0list {R : D → Prop} : rdIsi [.sc .non, .sc (.ty "list")] R = R (.sc (.bl false)) := by simp [rdIsi, tyS, isTy]
@[simp ↓] theorem q_is0tuple {R : D → Prop} : rdIsi [.sc .non, .sc (.ty "tuple")] R = R (.sc (.bl false)) := by simp [rdIsi, tyS, isTy]
@[simp ↓] theorem q_is0bool {R : D → Prop} : rdIsi [.sc .non, .sc (.ty "bool")] R = R (.sc (.bl false)) := by simp [rdIsi, tyS, isTy]
@[simp ↓] theorem q_is0str {R : D → Prop} : rdIsi [.sc .non, .sc (.ty "str")] R = R (.sc (.bl false)) := by simp [rdIsi, tyS, isTy]
@[simp ↓] theorem q_is0int {R : D → Prop} : rdIsi [.sc .non, .sc (.ty "int")] R = R (.sc (.bl false)) := by simp [rdIsi, tyS, isTy]
@[simp ↓] theorem q_isLT0 {R : D → Prop} : rdIsi [.sc .non, .tup [.sc (.ty "list"), .sc (.ty "tuple")]] R = R (.sc (.bl false)) := by simp [rdIsi, tyS, isTy]
@[simp ↓] theorem q_is1list {c : Bool} {R : D → Prop} : rdIsi [.sc (.bl c), .sc (.ty "list")] R = R (.sc (.bl false)) := by simp [rdIsi, tyS, isTy]
@[simp ↓] theorem q_is1tuple {c : Bool} {R : D → Prop} : rdIsi [.sc (.bl c), .sc (.ty "tuple")] R = R (.sc (.bl false)) := by simp [rdIsi, tyS, isTy]
@[simp ↓] theorem q_is1bool {c : Bool} {R : D → Prop} : rdIsi [.sc (.bl c), .sc (.ty "bool")] R = R (.sc (.bl true)) := by simp [rdIsi, tyS, isTy]
@[simp ↓] theorem q_is1str {c : Bool} {R : D → Prop} : rdIsi [.sc (.bl c), .sc (.ty "str")] R = R (.sc (.bl false)) := by simp [rdIsi, tyS, isTy]
@[simp ↓] theorem q_is1int {c : Bool} {R : D → Prop} : rdIsi [.sc (.bl c), .sc (.ty "int")] R = R (.sc (.bl true)) := by simp [rdIsi, tyS, isTy]
@[simp ↓] theorem q_isLT1 {c : Bool} {R : D → Prop} : rdIsi [.sc (.bl c), .tup [.sc (.ty "list"), .sc (.ty "tuple")]] R = R (.sc (.bl false)) := by simp [rdIsi, tyS, isTy]
@[simp ↓] theorem q_is2list {c : Int} {R : D → Prop} : rdIsi [.sc (.int c), .sc (.ty "list")] R = R (.sc (.bl false)) := by simp [rdIsi, tyS, isTy]
@[simp ↓] theorem q_is2tuple {c : Int} {R : D → Prop} : rdIsi [.sc (.int c), .sc (.ty "tuple")] R = R (.sc (.bl false)) := by simp [rdIsi, tyS, isTy]
@[simp ↓] theorem q_is2bool {c : Int} {R : D → Prop} : rdIsi [.sc (.int c), .sc (.ty "bool")] R = R (.sc (.bl false)) := by simp [rdIsi, tyS, isTy]
@[simp ↓] theorem q_is2str {c : Int} {R : D → Prop} : rdIsi [.sc (.int c), .sc (.ty "str")] R = R (.sc (.bl false)) := by simp [rdIsi, tyS, isTy]
@[simp ↓] theorem q_is2int {c : Int} {R : D → Prop} : rdIsi [.sc (.int c), .sc (.ty "int")] R = R (.sc (.bl true)) := by simp [rdIsi, tyS, isTy]
@[simp ↓] theorem q_isLT2 {c : Int} {R : D → Prop} : rdIsi [.sc (.int c), .tup [.sc (.ty "list"), .sc (.ty "tuple")]] R = R (.sc (.bl false)) := by simp [rdIsi, tyS, isTy]
@[simp ↓] theorem q_is3list {c : Str} {R : D → Prop} : rdIsi [.sc (.str c), .sc (.ty "list")] R = R (.sc (.bl false)) := by simp [rdIsi, tyS, isTy]
@[simp ↓] theorem q_is3tuple {c : Str} {R : D → Prop} : rdIsi [.sc (.str c), .sc (.ty "tuple")] R = R (.sc (.bl false)) := by simp [rdIsi, tyS, isTy]
@[simp ↓] theorem q_is3bool {c : Str} {R : D → Prop} : rdIsi [.sc (.str c), .sc (.ty "bool")] R = R (.sc (.bl false)) := by simp [rdIsi, tyS, isTy]
@[simp ↓] theorem q_is3str {c : Str} {R : D → Prop} : rdIsi [.sc (.str c), .sc (.ty "str")] R = R (.sc (.bl true)) := by simp [rdIsi, tyS, isTy]
@[simp ↓] theorem q_is3int {c : Str} {R : D → Prop} : rdIsi [.sc (.str c), .sc (.ty "int")] R = R (.sc (.bl false)) := by simp [rdIsi, tyS, isTy]
@[simp ↓] theorem q_isLT3 {c : Str} {R : D → Prop} : rdIsi [.sc (.str c), .tup [.sc (.ty "list"), .sc (.ty "tuple")]] R = R (.sc (.bl false)) := by simp [rdIsi, tyS, isTy]
@[simp ↓] theorem q_is4list {R : D → Prop} : rdIsi [.tup xs, .sc (.ty "list")] R = R (.sc (.bl false)) := by simp [rdIsi, tyS, isTy]
@[simp ↓] theorem q_is4tuple {R : D → Prop} : rdIsi [.tup xs, .sc (.ty "tuple")] R = R (.sc (.bl true)) := by simp [rdIsi, tyS, isTy]
@[simp ↓] theorem q_is4bool {R : D → Prop} : rdIsi [.tup xs, .sc (.ty "bool")] R = R (.sc (.bl false)) := by simp [rdIsi, tyS, isTy]
@[simp ↓] theorem q_is4str {R : D → Prop} : rdIsi [.tup xs, .sc (.ty "str")] R = R (.sc (.bl false)) := by simp [rdIsi, tyS, isTy]
@[simp ↓] theorem q_is4int {R : D → Prop} : rdIsi [.tup xs, .sc (.ty "int")] R = R (.sc (.bl false)) := by simp [rdIsi, tyS, isTy]
@[simp ↓] theorem q_isLT4 {R : D → Prop} : rdIsi [.tup xs, .tup [.sc (.ty "list"), .sc (.ty "tuple")]] R = R (.sc (.bl true)) := by simp [rdIsi, tyS, isTy]
@[simp ↓] theorem q_is5list {c : Bool} {R : D → Prop} : rdIsi [.obj c .lst xs, .sc (.ty "list")] R = R (.sc (.bl true)) := by simp [rdIsi, tyS, isTy]
@[simp ↓] theorem q_is5tuple {c : Bool} {R : D → Prop} : rdIsi [.obj c .lst xs, .sc (.ty "tuple")] R = R (.sc (.bl false)) := by simp [rdIsi, tyS, isTy]
@[simp ↓] theorem q_is5bool {c : Bool} {R : D → Prop} : rdIsi [.obj c .lst xs, .sc (.ty "bool")] R = R (.sc (.bl false)) := by simp [rdIsi, tyS, isTy]
@[simp ↓] theorem q_is5str {c : Bool} {R : D → Prop} : rdIsi [.obj c .lst xs, .sc (.ty "str")] R = R (.sc (.bl false)) := by simp [rdIsi, tyS, isTy]
@[simp ↓] theorem q_is5int {c : Bool} {R : D → Prop} : rdIsi [.obj c .lst xs, .sc (.ty "int")] R = R (.sc (.bl false)) := by simp [rdIsi, tyS, isTy]
@[simp ↓] theorem q_isLT5 {c : Bool} {R : D → Prop} : rdIsi [.obj c .lst xs, .tup [.sc (.ty "list"), .sc (.ty "tuple")]] R = R (.sc (.bl true)) := by simp [rdIsi, tyS, isTy]
@[simp] theorem q_atN {α : Type} {x y : α} : L2.atI [x, y] (-1) = some y := rfl
end
end PL

/-! PO2: reckoning with written texts. -/
namespace PL
open PySem L2
@[simp] theorem shp_lit (x : String) : (D.sc (.str (Str.ofString x))).shp = true := by
  show (PyData.strOk _ && decide (0 ≤ 64)) = true
  rw [strOk_lit]; rfl
theorem lit_inj {a b : String} (h : Str.ofString a = Str.ofString b) : a = b := by
  rw [Str.ofString_eq_toList, Str.ofString_eq_toList] at h
  injection h with h
  have h : a.toList.map Char.toNat = b.toList.map Char.toNat := by simpa using h
  have : a.toList = b.toList := by
    refine PL.map_inj (f := Char.toNat) (fun x y e => ?_) h
    exact Char.toNat_inj.mp e
  exact String.toList_inj.mp this
@[simp] theorem lit_beq (a b : String) : (Str.ofString a == Str.ofString b) = decide (a = b) := by
  by_cases h : a = b
  · subst h; simp
  · have : Str.ofString a ≠ Str.ofString b := fun z => h (lit_inj z)
    simp [this, h]
theorem flat_str (a : Str) : flatV (.str a) = true := rfl
theorem dIn_str {a : Str} {ns : List Str} {K : Bool → Prop} : dIn (.sc (.str a)) (ns.map fun s => D.sc (.str s)) K = K (ns.any fun s => s == a) := by
  have e : inV (V.str a) (ns.map V.str) = ns.any fun s => s == a := by
    unfold inV
    rw [List.any_map]; rfl
  apply propext
  constructor
  · rintro ⟨v, ws, e1, e2, _, _, k⟩
    cases e1
    have : ws = ns.map V.str := by
      refine map_inj (f := D.sc) (fun x y e => by injection e) ?_
      rw [← e2, List.map_map]; rfl
    subst this
    rw [e] at k; exact k
  · intro k
    refine ⟨.str a, ns.map V.str, rfl, by rw [List.map_map]; rfl, rfl, ?_, by rw [e]; exact k⟩
    rw [List.all_map]
    exact List.all_eq_true.mpr fun _ _ => rfl
@[simp ↓] theorem e_dInS1 {a b : Str} {K : Bool → Prop} : dIn (.sc (.str a)) [.sc (.str b)] K = K (b == a) := by
  have := dIn_str (a := a) (ns := [b]) (K := K)
  simpa using this
@[simp ↓] theorem e_dInS2 {a b c : Str} {K : Bool → Prop} : dIn (.sc (.str a)) [.sc (.str b), .sc (.str c)] K = K (b == a || c == a) := by
  have := dIn_str (a := a) (ns := [b, c]) (K := K)
  simpa using this
@[simp ↓] theorem e_dInS3 {a b c d : Str} {K : Bool → Prop} : dIn (.sc (.str a)) [.sc (.str b), .sc (.str c), .sc (.str d)] K = K (b == a || (c == a || d == a)) := by
  have := dIn_str (a := a) (ns := [b, c, d]) (K := K)
  simpa using this
@[simp ↓] theorem e_wViewT {w : WT} {env : En} {R : Bool → En → Prop} : wViewT w env R = w (seeE env) fun b _ => R b env := rfl
theorem e_sumT {ns : List Int} {R : D → Prop} : rdSumT [.tup (dI ns)] R = R (.int ns.sum) := by
  apply propext
  constructor
  · rintro ⟨ms, e, r⟩
    rw [map_int_inj e]; exact r
  · intro r; exact ⟨ns, rfl, r⟩
@[simp ↓] theorem e_sumT2 {a b : Int} {R : D → Prop} : rdSumT [.tup [.sc (.int a), .sc (.int b)]] R = R (.int (a + b)) := by
  have := e_sumT (ns := [a, b]) (R := R)
  simpa using this
theorem Pl.strD {x : D} {k n : Nat} {R : D → Prop} (h : Pl x k n) (hb : isBox x = true) (hk : k ≤ 61) (hn : n ≤ 250000) (r : R (.str x.py.shown)) : rdStrD [x] R := by
  refine ⟨hb, h.sho, h.lay, by have := h.dep; omega, ?_, r⟩
  have e := PyData.shown_le_bulk 61 (by decide) _ h.lea
  have := h.blk
  show _ ≤ 16777216
  omega
end PL

/-! PO3: equations of PLx; dicts by tuples, made and read. -/
namespace PL
open PySem L2
section
variable {env : En} {R : D → En → Prop}
@[simp ↓] theorem e_wChain3 {r1 r2 r3 : RD2} {wa wb wc wd : WE} : wChain3 r1 r2 r3 wa wb wc wd env R = wa env fun x e1 => wb e1 fun y e2 => y.fz = true ∧ r1 x y fun z => asB z fun c => if c = true then wc e2 fun u e3 => u.fz = true ∧ r2 y u fun z => asB z fun c =>
  if c = true then wd e3 fun t e4 => r3 u t fun z => R z e4 else R (.bl false) e3 else R (.bl false) e2 := rfl
@[simp ↓] theorem e_wDcT {wi : WI} {vs : List Nat} {g : WG} {wt : WT} {wk : WA} {wv : WE} : wDcT wi vs g wt wk wv env R = wi env fun items e1 => dcompT vs g wt wk wv items [] e1 fun acc e2 => R (dctD true acc) (restE e1 vs (wipeE none vs e2)) := rfl
end
@[simp] theorem fz_dct (kvs : List (List Key × V)) : (dctD false kvs).fz = true := by
  show D.fzL _ = true
  exact D.fzL_of fun x hx => by
    obtain ⟨p, _, rfl⟩ := List.mem_map.mp hx
    rfl
@[simp] theorem frz_dct (o : Bool) (kvs : List (List Key × V)) : (dctD o kvs).frz = dctD false kvs := by
  show D.obj false _ (D.frzL _) = _
  rw [D.frzL_of_fzL (D.fzL_of fun x hx => by
    obtain ⟨p, _, rfl⟩ := List.mem_map.mp hx
    rfl)]
  rfl
theorem ixDT_of {o : Bool} {kvs : List (List Key × V)} {k : List Key} {v : V} {R : D → Prop} (h : valV kvs k = some v) (r : R (.sc v)) : rdIxDT (dctD o kvs) (.tup (k.map keyD)) R := ⟨o, kvs, k, v, rfl, rfl, h, r⟩
/-- what a comprehension leaves, by its keys and values -/
def putAll {α : Type} (kf : α → List Key) (vf : α → V) : List α → List (List Key × V) → List (List Key × V)
  | [], acc => acc
  | x :: xs, acc => putAll kf vf xs (putK acc (kf x) (vf x))
theorem dcompT_all {α : Type} {vs : List Nat} {g : WG} {wt : WT} {wk : WA} {wv : WE} (enc : α → D) (I : En → Prop) (kf : α → List Key) (vf : α → V) {R : List (List Key × V) → En → Prop} : ∀ (xs : List α) (acc : List (List Key × V)) (env : En), acc.length + xs.length ≤ sizeLine → I env →
    (∀ x ∈ xs, ∀ env, I env → ∀ (Kc : List Key → V → En → Prop) (Kn : En → Prop), (∀ env', I env' → Kc (kf x) (vf x) env') → g (enc x) (wipeE none vs env) fun e1 => wt e1 fun b e2 => if b = true then wk e2 fun ds e3 => ∃ k, ds = k.map keyD ∧ k.length ≤ sizeLine ∧ wv e3 fun y e4 => ∃ v, y = .sc v ∧ Kc k v e4 else Kn e2) →
    (∀ env', I env' → R (putAll kf vf xs acc) env') → dcompT vs g wt wk wv (xs.map enc) acc env R := by
  intro xs
  induction xs with
  | nil => intro acc env _ h _ fin; exact fin env h
  | cons x xs ih =>
    intro acc env hl h step fin
    simp only [List.length_cons] at hl
    refine step x (List.mem_cons_self ..) env h (fun k v e4 => acc.length < sizeLine ∧ dcompT vs g wt wk wv (xs.map enc) (putK acc k v) e4 R) (fun e2 => dcompT vs g wt wk wv (xs.map enc) acc e2 R) fun env' h' => ⟨by omega, ?_⟩
    exact ih _ env' (by have := length_putK acc (kf x) (vf x); omega) h' (fun y hy => step y (List.mem_cons_of_mem _ hy)) fin
theorem putAll_keep {α : Type} {kf : α → List Key} {vf : α → V} {G : List Key → V} : ∀ {xs : List α} {acc : List (List Key × V)} {k : List Key}, (∀ x ∈ xs, vf x = G (kf x)) → valV acc k = some (G k) → valV (putAll kf vf xs acc) k = some (G k)
  | [], _, _, _, h => h
  | x :: xs, acc, k, hg, h => by
    refine putAll_keep (xs := xs) (acc := putK acc (kf x) (vf x)) (fun y hy => hg y (List.mem_cons_of_mem _ hy)) ?_
    rw [valV_put]
    by_cases e : k = kf x
    · rw [if_pos e, hg x (List.mem_cons_self ..), e]
    · rw [if_neg e]; exact h
theorem putAll_get {α : Type} {kf : α → List Key} {vf : α → V} {G : List Key → V} : ∀ {xs : List α} {acc : List (List Key × V)} {x : α}, (∀ x ∈ xs, vf x = G (kf x)) → x ∈ xs → valV (putAll kf vf xs acc) (kf x) = some (G (kf x))
  | y :: xs, acc, x, hg, hx => by
    rcases List.mem_cons.mp hx with rfl | hx
    · refine putAll_keep (xs := xs) (acc := putK acc (kf x) (vf x)) (fun y hy => hg y (List.mem_cons_of_mem _ hy)) ?_
      rw [valV_put, if_pos rfl, hg x (List.mem_cons_self ..)]
    · exact putAll_get (xs := xs) (acc := putK acc (kf y) (vf y)) (fun z hz => hg z (List.mem_cons_of_mem _ hz)) hx
end PL

/-! what each def of the law computes, by data (printed by gen.py) -/
namespace LAW_K41
open PySem L2 PL

/- met_by: 0 house 1 tape 2 room 3 moment 4 door 5 way -/
def wb_met_by : WS :=
  (sRet (wCB rdLen (aCons (wComp false (iSeq (wSl (wBin rdIx (wVal 1) (wC (.int 0))) oNo (oSo (wVal 3)))) [4, 5] (gTp 2 (gsCons (gNm 4) (gsCons (gNm 5) gsNil))) (wTst (wBin (rdIn false) (wVal 2) (wBin rdIx (wBin rdIx (wVal 0) (wC (.int 1))) (wVal 4)))) (wVal 4)) aNil)))
def F_met_by : WF := fnW [true, true, true, true] 2 wb_met_by

/- looks_at: 0 tape 1 room 2 moment 3 when 4 where 5 low 6 high -/
def wb_looks_at : WS :=
  (sRet (wComp false (iSeq (wBin rdIx (wVal 0) (wC (.int 1)))) [3, 4, 5, 6] (gTp 4 (gsCons (gNm 3) (gsCons (gNm 4) (gsCons (gNm 5) (gsCons (gNm 6) gsNil))))) (wAnd (wTst (wBin rdEq (wVal 3) (wVal 2))) (wTst (wBin rdEq (wVal 4) (wVal 1)))) (wTup (aCons (wVal 5) (aCons (wVal 6) aNil)))))
def F_looks_at : WF := fnW [true, true, true] 4 wb_looks_at

/- most_out: 0 house 1 begin 2 tape 3 room 4 moment 5 top 6 low 7 high -/
def wb_most_out : WS :=
  (sSeq (sIf (wTst (wBin rdEq (wVal 4) (wC (.int 0)))) (sRet (wC (.int 0))) sNext)
    (sSeq (sAsg (wCB rdMaxL (aCons (wBin rdAdd (wLst (aCons (wC (.int 0)) aNil)) (wComp false (iSeq (wCall F_looks_at (cValF (wVal 2) (cValF (wVal 3) (cValF (wVal 4) cNil))))) [6, 7] (gTp 2 (gsCons (gNm 6) (gsCons (gNm 7) gsNil))) wYes (wVal 6))) aNil)) (gFz 5))
    (sRet (wBin rdFdiv (wBin rdSub (wBin rdAdd (wBin rdIx (wVal 1) (wVal 3)) (wCall F_met_by (cValF (wVal 0) (cValF (wVal 2) (cValF (wVal 3) (cValF (wVal 4) cNil)))))) (wVal 5)) (wC (.int 2))))))
def F_most_out : WF := fnW [true, true, true, true, true] 3 wb_most_out

/- least_out: 0 house 1 begin 2 tape 3 room 4 moment 5 had 6 low 7 high -/
def wb_least_out : WS :=
  (sSeq (sIf (wTst (wBin rdEq (wVal 4) (wC (.int 0)))) (sRet (wC (.int 0))) sNext)
    (sSeq (sAsg (wBin rdAdd (wBin rdIx (wVal 1) (wVal 3)) (wCall F_met_by (cValF (wVal 0) (cValF (wVal 2) (cValF (wVal 3) (cValF (wVal 4) cNil)))))) (gFz 5))
    (sRet (wCB rdMaxL (aCons (wBin rdAdd (wLst (aCons (wC (.int 0)) aNil)) (wComp false (iSeq (wCall F_looks_at (cValF (wVal 2) (cValF (wVal 3) (cValF (wVal 4) cNil))))) [6, 7] (gTp 2 (gsCons (gNm 6) (gsCons (gNm 7) gsNil))) wYes (wBin rdFdiv (wBin rdAdd (wBin rdSub (wVal 5) (wVal 7)) (wC (.int 1))) (wC (.int 2))))) aNil)))))
def F_least_out : WF := fnW [true, true, true, true, true] 3 wb_least_out

/- _law_jug: 0 script 1 k 2 cell -/
def wb_law_jug : WS :=
  (sSeq (sAsg (wIf (wTst (wBin rdLt (wVal 1) (wCB rdLen (aCons (wVal 0) aNil)))) (wBin rdIx (wVal 0) (wVal 1)) (wC (.int 0))) (gFz 2))
    (sRet (wLst (aCons (wCB rdMax2 (aCons (wC (.int 0)) (aCons (wBin rdSub (wVal 2) (wBin rdPow (wC (.int 10)) (wC (.int 18)))) aNil))) (aCons (wBin rdAdd (wBin rdMul (wBin rdMod (wVal 2) (wBin rdAdd (wBin rdPow (wC (.int 10)) (wC (.int 34))) (wC (.int 193)))) (wC (.int 64))) (wVal 1)) (aCons (wC (.int 0)) aNil))))))
def F_law_jug : WF := fnW [true, true] 1 wb_law_jug

/- _law_dip: 0 jug 1 many 2 found 3 mixed -/
def wb_law_dip : WS :=
  (sSeq (sIf (wTst (wBinBE rdGt (bIx (bName 0) (wC (.int 0))) (wC (.int 0)))) (sSeq (sAsg (wBinBE rdMod (bIx (bName 0) (wC (.int 0))) (wVal 1)) (gFz 2))
    (sSeq (sSetIx false (wBinBE rdFdiv (bIx (bName 0) (wC (.int 0))) (wVal 1)) (mName 0) (wC (.int 0)))
    (sRet (wVal 2)))) sNext)
    (sSeq (sSetIx false (wBinBE rdAdd (bIx (bName 0) (wC (.int 2))) (wC (.int 1))) (mName 0) (wC (.int 2)))
    (sSeq (sAsg (wBin rdMod (wBin rdPow (wBinBE rdAdd (bIx (bName 0) (wC (.int 1))) (wBinEB rdMul (wC (.int 7368787)) (bIx (bName 0) (wC (.int 2))))) (wC (.int 3))) (wBin rdAdd (wBin rdPow (wC (.int 10)) (wC (.int 36))) (wC (.int 67)))) (gFz 3))
    (sSeq (sAsg (wBin rdMod (wBin rdPow (wBin rdAdd (wVal 3) (wBinEB rdMul (wC (.int 15485863)) (bIx (bName 0) (wC (.int 2))))) (wC (.int 5))) (wBin rdAdd (wBin rdPow (wC (.int 10)) (wC (.int 38))) (wC (.int 133)))) (gFz 3))
    (sRet (wBin rdMod (wBin rdFdiv (wVal 3) (wC (.int 65536))) (wVal 1)))))))
def F_law_dip : WF := fnW [true, true] 2 wb_law_dip

/- _law_house: 0 jug 1 most 2 more 3 rooms 4 doors 5 k 6 one -/
def wb_law_house : WS :=
  (sSeq (sAsg (wBin rdIx (wLst (aCons (wBin rdAdd (wC (.int 1)) (wCall F_law_dip (cRef 0 (cValF (wVal 1) cNil)))) (aCons (wBin rdAdd (wC (.int 2)) (wCall F_law_dip (cRef 0 (cValF (wBin rdSub (wVal 1) (wC (.int 1))) cNil)))) aNil))) (wCB rdInt1 (aCons (wBin rdGt (wCall F_law_dip (cRef 0 (cValF (wC (.int 4)) cNil))) (wC (.int 0))) aNil))) (gFz 3))
    (sSeq (sAsg (wLst aNil) (gNm 4))
    (sSeq (sFor (iRng (aCons (wBin rdMul (wBin rdAdd (wC (.int 1)) (wCall F_law_dip (cRef 0 (cValF (wBin rdSub (wVal 2) (wC (.int 1))) cNil)))) (wCB rdInt1 (aCons (wBin rdGt (wVal 3) (wC (.int 1))) aNil))) aNil)) (gFz 5) (sSeq (sAsg (wCall F_law_dip (cRef 0 (cValF (wVal 3) cNil))) (gFz 6))
    (sDrop (wAppN false 4 (wTup (aCons (wVal 6) (aCons (wBin rdMod (wBin rdAdd (wBin rdAdd (wVal 6) (wC (.int 1))) (wCall F_law_dip (cRef 0 (cValF (wBin rdSub (wVal 3) (wC (.int 1))) cNil)))) (wVal 3)) aNil)))))))
    (sRet (wTup (aCons (wVal 3) (aCons (wVar 4) aNil)))))))
def F_law_house : WF := fnW [true, true, true] 4 wb_law_house

/- _law_folk: 0 jug 1 home 2 few 3 spot -/
def wb_law_folk : WS :=
  (sSeq (sAsg (wBin rdIx (wLst (aCons (wC (.int 1)) (aCons (wC (.int 2)) (aCons (wC (.int 2)) (aCons (wC (.int 4)) (aCons (wBin rdPow (wC (.int 10)) (wC (.int 18))) aNil)))))) (wCall F_law_dip (cRef 0 (cValF (wC (.int 5)) cNil)))) (gFz 2))
    (sRet (wComp false (iRng (aCons (wBin rdIx (wVal 1) (wC (.int 0))) aNil)) [3] (gNm 3) wYes (wCall F_law_dip (cRef 0 (cValF (wBin rdAdd (wVal 2) (wC (.int 1))) cNil))))))
def F_law_folk : WF := fnW [true, true] 2 wb_law_folk

/- _law_gone: 0 jug 1 home 2 start 3 most 4 here 5 moves 6 rows 7 k 8 door 9 side 10 pair -/
def wb_law_gone : WS :=
  (sSeq (sAsg (wCB rdList (aCons (wVal 2) aNil)) (gNm 4))
    (sSeq (sAsg (wLst aNil) (gNm 5))
    (sSeq (sAsg (wLst (aCons (wCB rdList (aCons (wVal 2) aNil)) aNil)) (gNm 6))
    (sSeq (sFor (iRng (aCons (wBin rdMul (wCall F_law_dip (cRef 0 (cValF (wBin rdAdd (wVal 3) (wC (.int 1))) cNil))) (wCB rdInt1 (aCons (wBin rdNe (wBin rdIx (wVal 1) (wC (.int 1))) (wLst aNil)) aNil))) aNil)) (gFz 7) (sSeq (sPar 8 9 (aCons (wCall F_law_dip (cRef 0 (cValF (wCB rdLen (aCons (wBin rdIx (wVal 1) (wC (.int 1))) aNil)) cNil))) (aCons (wCall F_law_dip (cRef 0 (cValF (wC (.int 2)) cNil))) aNil)))
    (sSeq (sAsg (wBin rdIx (wBin rdIx (wVal 1) (wC (.int 1))) (wVal 8)) (gFz 10))
    (sSeq (sIf (wTst (wBinBE rdEq (bIx (bName 4) (wBin rdIx (wVal 10) (wVal 9))) (wC (.int 0)))) (sAsg (wBin rdSub (wC (.int 1)) (wVal 9)) (gFz 9)) sNext)
    (sIf (wTst (wBinBE rdGt (bIx (bName 4) (wBin rdIx (wVal 10) (wVal 9))) (wC (.int 0)))) (sSeq (sSetIx false (wBinBE rdSub (bIx (bName 4) (wBin rdIx (wVal 10) (wVal 9))) (wC (.int 1))) (mName 4) (wBin rdIx (wVal 10) (wVal 9)))
    (sSeq (sSetIx false (wBinBE rdAdd (bIx (bName 4) (wBin rdIx (wVal 10) (wBin rdSub (wC (.int 1)) (wVal 9)))) (wC (.int 1))) (mName 4) (wBin rdIx (wVal 10) (wBin rdSub (wC (.int 1)) (wVal 9))))
    (sSeq (sDrop (wAppN false 5 (wTup (aCons (wVal 8) (aCons (wVal 9) aNil)))))
    (sDrop (wAppN false 6 (wCBB rdList (bCons (bName 4) bNil))))))) sNext)))))
    (sRet (wTup (aCons (wVar 5) (aCons (wVar 6) aNil))))))))
def F_law_gone : WF := fnW [true, true, true, true] 7 wb_law_gone

/- _law_hidden: 0 jug 1 moves 2 often 3 door 4 side -/
def wb_law_hidden : WS :=
  (sSeq (sAsg (wBin rdIx (wLst (aCons (wC (.int 2)) (aCons (wC (.int 5)) (aCons (wC (.int 9)) aNil)))) (wCall F_law_dip (cRef 0 (cValF (wC (.int 3)) cNil)))) (gFz 2))
    (sRet (wComp false (iSeq (wVal 1)) [3, 4] (gTp 2 (gsCons (gNm 3) (gsCons (gNm 4) gsNil))) wYes (wTup (aCons (wVal 3) (aCons (wIf (wTst (wBin rdEq (wCall F_law_dip (cRef 0 (cValF (wVal 2) cNil))) (wC (.int 0)))) (wVal 4) (wNeg (wC (.int 1)))) aNil))))))
def F_law_hidden : WF := fnW [true, true] 3 wb_law_hidden

/- _law_look: 0 jug 1 home 2 rows 3 when 4 spot 5 number 6 kind 7 some -/
def wb_law_look : WS :=
  (sSeq (sPar 3 4 (aCons (wCall F_law_dip (cRef 0 (cValF (wCB rdLen (aCons (wVal 2) aNil)) cNil))) (aCons (wCall F_law_dip (cRef 0 (cValF (wBin rdIx (wVal 1) (wC (.int 0))) cNil))) aNil)))
    (sSeq (sAsg (wBin rdIx (wBin rdIx (wVal 2) (wVal 3)) (wVal 4)) (gFz 5))
    (sSeq (sAsg (wCall F_law_dip (cRef 0 (cValF (wC (.int 8)) cNil))) (gFz 6))
    (sSeq (sIf (wTst (wBin rdLt (wVal 6) (wC (.int 4)))) (sRet (wTup (aCons (wVal 3) (aCons (wVal 4) (aCons (wBin rdSub (wVal 5) (wCall F_law_dip (cRef 0 (cValF (wC (.int 3)) cNil)))) (aCons (wBin rdAdd (wVal 5) (wCall F_law_dip (cRef 0 (cValF (wC (.int 3)) cNil)))) aNil)))))) sNext)
    (sSeq (sIf (wTst (wBin rdLt (wVal 6) (wC (.int 6)))) (sRet (wTup (aCons (wVal 3) (aCons (wVal 4) (aCons (wBin rdSub (wBin rdAdd (wVal 5) (wC (.int 1))) (wCall F_law_dip (cRef 0 (cValF (wC (.int 3)) cNil)))) (aCons (wBin rdAdd (wVal 5) (wC (.int 1))) aNil)))))) sNext)
    (sSeq (sAsg (wLst (aCons (wTup (aCons (wC (.int 0)) (aCons (wC (.int 0)) aNil))) (aCons (wTup (aCons (wC (.int 1)) (aCons (wBin rdPow (wC (.int 10)) (wC (.int 19))) aNil))) (aCons (wTup (aCons (wBin rdSub (wC (.int 0)) (wBin rdPow (wC (.int 10)) (wC (.int 19)))) (aCons (wC (.int 0)) aNil))) (aCons (wTup (aCons (wC (.int 3)) (aCons (wC (.int 1)) aNil))) (aCons (wTup (aCons (wNeg (wC (.int 3))) (aCons (wNeg (wC (.int 1))) aNil))) (aCons (wTup (aCons (wBin rdPow (wC (.int 10)) (wC (.int 19))) (aCons (wBin rdPow (wC (.int 10)) (wC (.int 19))) aNil))) aNil))))))) (gFz 7))
    (sRet (wBin rdAdd (wTup (aCons (wVal 3) (aCons (wVal 4) aNil))) (wBin rdIx (wVal 7) (wCall F_law_dip (cRef 0 (cValF (wC (.int 6)) cNil))))))))))))
def F_law_look : WF := fnW [true, true, true] 5 wb_law_look

/- _law_outs: 0 home 1 start 2 reel 3 spot 4 when 5 count 6 here 7 top 8 halves 9 bead 10 look -/
def wb_law_outs : WS :=
  (sSeq (sIf (wTst (wBin rdEq (wVal 4) (wC (.int 0)))) (sRet (wLst (aCons (wC (.int 0)) (aCons (wC (.int 0)) aNil)))) sNext)
    (sSeq (sAsg (wBin rdAdd (wBin rdIx (wVal 1) (wVal 3)) (wCB rdLen (aCons (wComp false (iSeq (wSl (wBin rdIx (wVal 2) (wC (.int 0))) oNo (oSo (wVal 4)))) [9] (gNm 9) (wTst (wBin (rdIn false) (wVal 3) (wBin rdIx (wBin rdIx (wVal 0) (wC (.int 1))) (wBin rdIx (wVal 9) (wC (.int 0)))))) (wVal 9)) aNil))) (gFz 5))
    (sSeq (sAsg (wComp false (iSeq (wBin rdIx (wVal 2) (wC (.int 1)))) [10] (gNm 10) (wAnd (wTst (wBin rdEq (wBin rdIx (wVal 10) (wC (.int 0))) (wVal 4))) (wTst (wBin rdEq (wBin rdIx (wVal 10) (wC (.int 1))) (wVal 3)))) (wVal 10)) (gFz 6))
    (sSeq (sAsg (wBin rdSub (wVal 5) (wCB rdMaxL (aCons (wBin rdAdd (wLst (aCons (wC (.int 0)) aNil)) (wComp false (iSeq (wVal 6)) [10] (gNm 10) wYes (wBin rdIx (wVal 10) (wC (.int 2))))) aNil))) (gFz 7))
    (sSeq (sAsg (wComp false (iSeq (wVal 6)) [10] (gNm 10) wYes (wBin rdFdiv (wBin rdAdd (wBin rdSub (wVal 5) (wBin rdIx (wVal 10) (wC (.int 3)))) (wBin rdMod (wBin rdSub (wVal 5) (wBin rdIx (wVal 10) (wC (.int 3)))) (wC (.int 2)))) (wC (.int 2)))) (gFz 8))
    (sRet (wLst (aCons (wCB rdMaxL (aCons (wBin rdAdd (wLst (aCons (wC (.int 0)) aNil)) (wVal 8)) aNil)) (aCons (wBin rdFdiv (wBin rdSub (wVal 7) (wBin rdMod (wVal 7) (wC (.int 2)))) (wC (.int 2))) aNil)))))))))
def F_law_outs : WF := fnW [true, true, true, true, true] 6 wb_law_outs

/- _law_is_whole: 0 found 1 due -/
def wb_law_is_whole : WS :=
  (sRet (wAndV (wCB rdIsi (aCons (wVal 0) (aCons (wC (.sc (.ty "int"))) aNil))) (wAndV (wNotV (wCB rdIsi (aCons (wVal 0) (aCons (wC (.sc (.ty "bool"))) aNil)))) (wBin rdEq (wVal 0) (wVal 1)))))
def F_law_is_whole : WF := fnW [true, true] 0 wb_law_is_whole

/- _law_moments: 0 jug 1 reel 2 many 3 look 4 turn -/
def wb_law_moments : WS :=
  (sSeq (sAsg (wCB rdLen (aCons (wBin rdIx (wVal 1) (wC (.int 0))) aNil)) (gFz 2))
    (sSeq (sIf (wTst (wBin rdLt (wVal 2) (wC (.int 13)))) (sRet (wListRg (wBin rdAdd (wVal 2) (wC (.int 1))))) sNext)
    (sRet (wBin rdAdd (wBin rdAdd (wLst (aCons (wC (.int 0)) (aCons (wVal 2) aNil))) (wComp false (iSeq (wBin rdIx (wVal 1) (wC (.int 1)))) [3] (gNm 3) wYes (wBin rdIx (wVal 3) (wC (.int 0))))) (wComp false (iRng (aCons (wC (.int 8)) aNil)) [4] (gNm 4) wYes (wCall F_law_dip (cRef 0 (cValF (wBin rdAdd (wVal 2) (wC (.int 1))) cNil))))))))
def F_law_moments : WF := fnW [true, true] 3 wb_law_moments

/- _law_right: 0 home 1 start 2 reel 3 moments_asked 4 kept 5 spot 6 when 7 due -/
def wb_law_right : WS :=
  (sSeq (sAsg (wCB rdRepr (aCons (wLst (aCons (wVal 0) (aCons (wVal 1) (aCons (wVal 2) aNil)))) aNil)) (gFz 4))
    (sSeq (sFor (iRng (aCons (wBin rdIx (wVal 0) (wC (.int 0))) aNil)) (gFz 5) (sFor (iSeq (wVal 3)) (gFz 6) (sSeq (sAsg (wCall F_law_outs (cValF (wVal 0) (cValF (wVal 1) (cValF (wVal 2) (cValF (wVal 5) (cValF (wVal 6) cNil)))))) (gFz 7))
    (sSeq (sIf (wNot (wTru (wCall F_law_is_whole (cValF (wCall F_least_out (cValF (wVal 0) (cValF (wVal 1) (cValF (wVal 2) (cValF (wVal 5) (cValF (wVal 6) cNil)))))) (cValF (wBin rdIx (wVal 7) (wC (.int 0))) cNil))))) (sRet (wC (.bl false))) sNext)
    (sSeq (sIf (wNot (wTru (wCall F_law_is_whole (cValF (wCall F_most_out (cValF (wVal 0) (cValF (wVal 1) (cValF (wVal 2) (cValF (wVal 5) (cValF (wVal 6) cNil)))))) (cValF (wBin rdIx (wVal 7) (wC (.int 1))) cNil))))) (sRet (wC (.bl false))) sNext)
    (sSeq (sIf (wTst (wBin rdNe (wCallK 0 5 [4, 3, 2, 1, 0] F_least_out cNil (cValF (wVal 6) (cValF (wVal 5) (cValF (wVal 2) (cValF (wVal 1) (cValF (wVal 0) cNil)))))) (wBin rdIx (wVal 7) (wC (.int 0))))) (sRet (wC (.bl false))) sNext)
    (sIf (wTst (wBin rdNe (wCallK 0 5 [2, 4, 3, 0, 1] F_most_out cNil (cValF (wVal 5) (cValF (wVal 6) (cValF (wVal 0) (cValF (wVal 2) (cValF (wVal 1) cNil)))))) (wBin rdIx (wVal 7) (wC (.int 1))))) (sRet (wC (.bl false))) sNext)))))))
    (sRet (wBin rdEq (wCB rdRepr (aCons (wLst (aCons (wVal 0) (aCons (wVal 1) (aCons (wVal 2) aNil)))) aNil)) (wVal 4)))))
def F_law_right : WF := fnW [true, true, true, true] 4 wb_law_right

/- law: 0 script 1 k 2 jug 3 home 4 start 5 moves 6 rows 7 looks 8 reel 9 turn 10 look -/
def wb_law : WS :=
  (sSeq (sFor (iRng (aCons (wCB rdMax2 (aCons (wC (.int 1)) (aCons (wCB rdMin2 (aCons (wC (.int 12)) (aCons (wCB rdLen (aCons (wVal 0) aNil)) aNil))) aNil))) aNil)) (gFz 1) (sSeq (sAsg (wCall F_law_jug (cValF (wVal 0) (cValF (wVal 1) cNil))) (gNm 2))
    (sSeq (sAsg (wCall F_law_house (cRef 2 (cValF (wC (.int 10)) (cValF (wC (.int 25)) cNil)))) (gFz 3))
    (sSeq (sAsg (wCall F_law_folk (cRef 2 (cValF (wVal 3) cNil))) (gFz 4))
    (sSeq (sAsg (wCall F_law_gone (cRef 2 (cValF (wVal 3) (cValF (wVal 4) (cValF (wBin rdIx (wLst (aCons (wC (.int 10)) (aCons (wC (.int 10)) (aCons (wC (.int 200)) aNil)))) (wCall F_law_dip (cRef 2 (cValF (wC (.int 3)) cNil)))) cNil))))) (gTp 2 (gsCons (gFz 5) (gsCons (gFz 6) gsNil))))
    (sSeq (sAsg (wComp false (iRng (aCons (wCall F_law_dip (cRef 2 (cValF (wC (.int 7)) cNil))) aNil)) [9] (gNm 9) wYes (wCall F_law_look (cRef 2 (cValF (wVal 3) (cValF (wVal 6) cNil))))) (gFz 7))
    (sSeq (sAsg (wBin rdAdd (wVal 7) (wComp false (iSeq (wSl (wVal 7) oNo (oSo (wCall F_law_dip (cRef 2 (cValF (wC (.int 3)) cNil)))))) [10] (gNm 10) wYes (wBin rdAdd (wSl (wVal 10) oNo (oSo (wC (.int 2)))) (wTup (aCons (wBin rdAdd (wBin rdIx (wVal 10) (wC (.int 2))) (wC (.int 1))) (aCons (wBin rdSub (wBin rdIx (wVal 10) (wC (.int 3))) (wC (.int 1))) aNil)))))) (gFz 7))
    (sSeq (sAsg (wTup (aCons (wCall F_law_hidden (cRef 2 (cValF (wVal 5) cNil))) (aCons (wVal 7) aNil))) (gFz 8))
    (sIf (wNot (wTru (wCall F_law_right (cValF (wVal 3) (cValF (wVal 4) (cValF (wVal 8) (cValF (wCall F_law_moments (cRef 2 (cValF (wVal 8) cNil))) cNil))))))) (sRet (wC (.bl false))) sNext)))))))))
    (sRet (wC (.bl true))))
def F_law : WF := fnW [true] 10 wb_law

end LAW_K41

/-! MB: the jug of laws k41 .. k50, k70: dips, houses, folk, goings, tapes. -/
namespace JUG
open PySem L2 PL
def wb_law_jug : WS :=
  (sSeq (sAsg (wIf (wTst (wBin rdLt (wVal 1) (wCB rdLen (aCons (wVal 0) aNil)))) (wBin rdIx (wVal 0) (wVal 1)) (wC (.int 0))) (gFz 2))
    (sRet (wLst (aCons (wCB rdMax2 (aCons (wC (.int 0)) (aCons (wBin rdSub (wVal 2) (wBin rdPow (wC (.int 10)) (wC (.int 18)))) aNil))) (aCons (wBin rdAdd (wBin rdMul (wBin rdMod (wVal 2) (wBin rdAdd (wBin rdPow (wC (.int 10)) (wC (.int 34))) (wC (.int 193)))) (wC (.int 64))) (wVal 1)) (aCons (wC (.int 0)) aNil))))))
def F_law_jug : WF := fnW [true, true] 1 wb_law_jug
def wb_law_dip : WS :=
  (sSeq (sIf (wTst (wBinBE rdGt (bIx (bName 0) (wC (.int 0))) (wC (.int 0)))) (sSeq (sAsg (wBinBE rdMod (bIx (bName 0) (wC (.int 0))) (wVal 1)) (gFz 2))
    (sSeq (sSetIx false (wBinBE rdFdiv (bIx (bName 0) (wC (.int 0))) (wVal 1)) (mName 0) (wC (.int 0)))
    (sRet (wVal 2)))) sNext)
    (sSeq (sSetIx false (wBinBE rdAdd (bIx (bName 0) (wC (.int 2))) (wC (.int 1))) (mName 0) (wC (.int 2)))
    (sSeq (sAsg (wBin rdMod (wBin rdPow (wBinBE rdAdd (bIx (bName 0) (wC (.int 1))) (wBinEB rdMul (wC (.int 7368787)) (bIx (bName 0) (wC (.int 2))))) (wC (.int 3))) (wBin rdAdd (wBin rdPow (wC (.int 10)) (wC (.int 36))) (wC (.int 67)))) (gFz 3))
    (sSeq (sAsg (wBin rdMod (wBin rdPow (wBin rdAdd (wVal 3) (wBinEB rdMul (wC (.int 15485863)) (bIx (bName 0) (wC (.int 2))))) (wC (.int 5))) (wBin rdAdd (wBin rdPow (wC (.int 10)) (wC (.int 38))) (wC (.int 133)))) (gFz 3))
    (sRet (wBin rdMod (wBin rdFdiv (wVal 3) (wC (.int 65536))) (wVal 1)))))))
def F_law_dip : WF := fnW [true, true] 2 wb_law_dip
def wb_law_house : WS :=
  (sSeq (sAsg (wBin rdIx (wLst (aCons (wBin rdAdd (wC (.int 1)) (wCall F_law_dip (cRef 0 (cValF (wVal 1) cNil)))) (aCons (wBin rdAdd (wC (.int 2)) (wCall F_law_dip (cRef 0 (cValF (wBin rdSub (wVal 1) (wC (.int 1))) cNil)))) aNil))) (wCB rdInt1 (aCons (wBin rdGt (wCall F_law_dip (cRef 0 (cValF (wC (.int 4)) cNil))) (wC (.int 0))) aNil))) (gFz 3))
    (sSeq (sAsg (wLst aNil) (gNm 4))
    (sSeq (sFor (iRng (aCons (wBin rdMul (wBin rdAdd (wC (.int 1)) (wCall F_law_dip (cRef 0 (cValF (wBin rdSub (wVal 2) (wC (.int 1))) cNil)))) (wCB rdInt1 (aCons (wBin rdGt (wVal 3) (wC (.int 1))) aNil))) aNil)) (gFz 5) (sSeq (sAsg (wCall F_law_dip (cRef 0 (cValF (wVal 3) cNil))) (gFz 6))
    (sDrop (wAppN false 4 (wTup (aCons (wVal 6) (aCons (wBin rdMod (wBin rdAdd (wBin rdAdd (wVal 6) (wC (.int 1))) (wCall F_law_dip (cRef 0 (cValF (wBin rdSub (wVal 3) (wC (.int 1))) cNil)))) (wVal 3)) aNil)))))))
    (sRet (wTup (aCons (wVal 3) (aCons (wVar 4) aNil)))))))
def F_law_house : WF := fnW [true, true, true] 4 wb_law_house
def wb_law_folk : WS :=
  (sSeq (sAsg (wBin rdIx (wLst (aCons (wC (.int 1)) (aCons (wC (.int 2)) (aCons (wC (.int 2)) (aCons (wC (.int 4)) (aCons (wBin rdPow (wC (.int 10)) (wC (.int 18))) aNil)))))) (wCall F_law_dip (cRef 0 (cValF (wC (.int 5)) cNil)))) (gFz 2))
    (sRet (wComp false (iRng (aCons (wBin rdIx (wVal 1) (wC (.int 0))) aNil)) [3] (gNm 3) wYes (wCall F_law_dip (cRef 0 (cValF (wBin rdAdd (wVal 2) (wC (.int 1))) cNil))))))
def F_law_folk : WF := fnW [true, true] 2 wb_law_folk
def wb_law_gone : WS :=
  (sSeq (sAsg (wCB rdList (aCons (wVal 2) aNil)) (gNm 4))
    (sSeq (sAsg (wLst aNil) (gNm 5))
    (sSeq (sAsg (wLst (aCons (wCB rdList (aCons (wVal 2) aNil)) aNil)) (gNm 6))
    (sSeq (sFor (iRng (aCons (wBin rdMul (wCall F_law_dip (cRef 0 (cValF (wBin rdAdd (wVal 3) (wC (.int 1))) cNil))) (wCB rdInt1 (aCons (wBin rdNe (wBin rdIx (wVal 1) (wC (.int 1))) (wLst aNil)) aNil))) aNil)) (gFz 7) (sSeq (sPar 8 9 (aCons (wCall F_law_dip (cRef 0 (cValF (wCB rdLen (aCons (wBin rdIx (wVal 1) (wC (.int 1))) aNil)) cNil))) (aCons (wCall F_law_dip (cRef 0 (cValF (wC (.int 2)) cNil))) aNil)))
    (sSeq (sAsg (wBin rdIx (wBin rdIx (wVal 1) (wC (.int 1))) (wVal 8)) (gFz 10))
    (sSeq (sIf (wTst (wBinBE rdEq (bIx (bName 4) (wBin rdIx (wVal 10) (wVal 9))) (wC (.int 0)))) (sAsg (wBin rdSub (wC (.int 1)) (wVal 9)) (gFz 9)) sNext)
    (sIf (wTst (wBinBE rdGt (bIx (bName 4) (wBin rdIx (wVal 10) (wVal 9))) (wC (.int 0)))) (sSeq (sSetIx false (wBinBE rdSub (bIx (bName 4) (wBin rdIx (wVal 10) (wVal 9))) (wC (.int 1))) (mName 4) (wBin rdIx (wVal 10) (wVal 9)))
    (sSeq (sSetIx false (wBinBE rdAdd (bIx (bName 4) (wBin rdIx (wVal 10) (wBin rdSub (wC (.int 1)) (wVal 9)))) (wC (.int 1))) (mName 4) (wBin rdIx (wVal 10) (wBin rdSub (wC (.int 1)) (wVal 9))))
    (sSeq (sDrop (wAppN false 5 (wTup (aCons (wVal 8) (aCons (wVal 9) aNil)))))
    (sDrop (wAppN false 6 (wCBB rdList (bCons (bName 4) bNil))))))) sNext)))))
    (sRet (wTup (aCons (wVar 5) (aCons (wVar 6) aNil))))))))
def F_law_gone : WF := fnW [true, true, true, true] 7 wb_law_gone
def wb_law_hidden : WS :=
  (sSeq (sAsg (wBin rdIx (wLst (aCons (wC (.int 2)) (aCons (wC (.int 5)) (aCons (wC (.int 9)) aNil)))) (wCall F_law_dip (cRef 0 (cValF (wC (.int 3)) cNil)))) (gFz 2))
    (sRet (wComp false (iSeq (wVal 1)) [3, 4] (gTp 2 (gsCons (gNm 3) (gsCons (gNm 4) gsNil))) wYes (wTup (aCons (wVal 3) (aCons (wIf (wTst (wBin rdEq (wCall F_law_dip (cRef 0 (cValF (wVal 2) cNil))) (wC (.int 0)))) (wVal 4) (wNeg (wC (.int 1)))) aNil))))))
def F_law_hidden : WF := fnW [true, true] 3 wb_law_hidden
def wb_law_look : WS :=
  (sSeq (sPar 3 4 (aCons (wCall F_law_dip (cRef 0 (cValF (wCB rdLen (aCons (wVal 2) aNil)) cNil))) (aCons (wCall F_law_dip (cRef 0 (cValF (wBin rdIx (wVal 1) (wC (.int 0))) cNil))) aNil)))
    (sSeq (sAsg (wBin rdIx (wBin rdIx (wVal 2) (wVal 3)) (wVal 4)) (gFz 5))
    (sSeq (sAsg (wCall F_law_dip (cRef 0 (cValF (wC (.int 8)) cNil))) (gFz 6))
    (sSeq (sIf (wTst (wBin rdLt (wVal 6) (wC (.int 4)))) (sRet (wTup (aCons (wVal 3) (aCons (wVal 4) (aCons (wBin rdSub (wVal 5) (wCall F_law_dip (cRef 0 (cValF (wC (.int 3)) cNil)))) (aCons (wBin rdAdd (wVal 5) (wCall F_law_dip (cRef 0 (cValF (wC (.int 3)) cNil)))) aNil)))))) sNext)
    (sSeq (sIf (wTst (wBin rdLt (wVal 6) (wC (.int 6)))) (sRet (wTup (aCons (wVal 3) (aCons (wVal 4) (aCons (wBin rdSub (wBin rdAdd (wVal 5) (wC (.int 1))) (wCall F_law_dip (cRef 0 (cValF (wC (.int 3)) cNil)))) (aCons (wBin rdAdd (wVal 5) (wC (.int 1))) aNil)))))) sNext)
    (sSeq (sAsg (wLst (aCons (wTup (aCons (wC (.int 0)) (aCons (wC (.int 0)) aNil))) (aCons (wTup (aCons (wC (.int 1)) (aCons (wBin rdPow (wC (.int 10)) (wC (.int 19))) aNil))) (aCons (wTup (aCons (wBin rdSub (wC (.int 0)) (wBin rdPow (wC (.int 10)) (wC (.int 19)))) (aCons (wC (.int 0)) aNil))) (aCons (wTup (aCons (wC (.int 3)) (aCons (wC (.int 1)) aNil))) (aCons (wTup (aCons (wNeg (wC (.int 3))) (aCons (wNeg (wC (.int 1))) aNil))) (aCons (wTup (aCons (wBin rdPow (wC (.int 10)) (wC (.int 19))) (aCons (wBin rdPow (wC (.int 10)) (wC (.int 19))) aNil))) aNil))))))) (gFz 7))
    (sRet (wBin rdAdd (wTup (aCons (wVal 3) (aCons (wVal 4) aNil))) (wBin rdIx (wVal 7) (wCall F_law_dip (cRef 0 (cValF (wC (.int 6)) cNil))))))))))))
def F_law_look : WF := fnW [true, true, true] 5 wb_law_look

def jugD (a b n : Int) : D := .lst true [.int a, .int b, .int n]
/-- at most k dips behind the first part -/
def Jug (k : Nat) (d : D) : Prop := ∃ a b n, d = jugD a b n ∧ 0 ≤ a ∧ 0 ≤ b ∧ b < 2 ^ 130 ∧ 0 ≤ n ∧ n ≤ k
theorem Jug.mono {k l : Nat} {d : D} (h : Jug k d) (e : k ≤ l) : Jug l d := by
  obtain ⟨a, b, n, h⟩ := h
  exact ⟨a, b, n, h.1, h.2.1, h.2.2.1, h.2.2.2.1, h.2.2.2.2.1, by omega⟩
theorem dip_ok {k : Nat} {b : D} {many : Int} {R : D → En → Prop} (h : Jug k b) (hk : k < 2 ^ 40) (hm : 0 < many) (hm2 : many < 2 ^ 80)
    (kk : ∀ v b', Jug (k + 1) b' → 0 ≤ v → v < many → R (.int v) [some b', some (.int many)]) : F_law_dip [b, .int many] R := by
  obtain ⟨a, s, n, rfl, ha, hs, hs2, hn, hn2⟩ := h
  refine ⟨rfl, ?_⟩
  show wb_law_dip [some (jugD a s n), some (.int many), none, none] _
  unfold wb_law_dip
  have h4 : many ≠ 0 := by omega
  by_cases hp : 0 < a
  · simp [jugD, hp, hm, divOk hm hm2]
    exact kk _ _ ⟨a / many, s, n, rfl, Int.ediv_nonneg ha (by omega), hs, hs2, hn, by omega⟩ (Int.emod_nonneg _ h4) (Int.emod_lt_of_pos _ hm)
  · simp [jugD, hp]
    generalize hx : (s + 7368787 * (n + 1)) ^ 3 % 1000000000000000000000000000000000067 = x
    have hx0 : 0 ≤ x := by rw [← hx]; exact Int.emod_nonneg _ (by decide)
    have hx1 : x < 1000000000000000000000000000000000067 := by rw [← hx]; exact Int.emod_lt_of_pos _ (by decide)
    refine ⟨mulOk_small (.inl (by decide)), powOk (n := 131) (by omega) (by decide) (by decide), powOk (n := 4) (by decide) (by decide) (by decide), mulOk_small (.inl (by decide)), powOk (n := 131) (by omega) (by decide) (by decide), powOk (n := 4) (by decide) (by decide) (by decide), divOk (by decide) (by decide), hm, ?_⟩
    exact kk _ _ ⟨a, s, n + 1, rfl, ha, hs, hs2, by omega, by omega⟩ (Int.emod_nonneg _ h4) (Int.emod_lt_of_pos _ hm)
theorem jug_ok {ns : List Int} {i : Nat} {R : D → En → Prop} (hi : i < 100) (kk : ∀ b, Jug 0 b → R b [some (.obj false .sq (dI ns)), some (.int (i : Int))]) : F_law_jug [.obj false .sq (dI ns), .int (i : Int)] R := by
  refine ⟨rfl, ?_⟩
  show wb_law_jug [some (.obj false .sq (dI ns)), some (.int (i : Int)), none] _
  unfold wb_law_jug
  have key : ∀ cell : Int, Jug 0 (jugD (if 1000000000000000000 < cell then cell - 1000000000000000000 else 0) (cell % 10000000000000000000000000000000193 * 64 + i) 0) := by
    intro cell
    refine ⟨_, _, _, rfl, by split <;> omega, ?_, ?_, by omega, by omega⟩
    · have := Int.emod_nonneg cell (b := 10000000000000000000000000000000193) (by decide); omega
    · have := Int.emod_lt_of_pos cell (b := 10000000000000000000000000000000193) (by decide); omega
  by_cases hlt : i < ns.length
  · have e := dI_atI (ns := ns) (i := (i : Int)) (by omega) (by omega)
    simp [hlt, e]
    exact ⟨powOk (n := 4) (by decide) (by decide) (by decide), powOk (n := 4) (by decide) (by decide) (by decide), mulOk_small (.inr (by decide)), kk _ (key _)⟩
  · simp [hlt]
    exact ⟨powOk (n := 4) (by decide) (by decide) (by decide), powOk (n := 4) (by decide) (by decide) (by decide), mulOk_small (.inr (by decide)), kk _ (by simpa [jugD] using key 0)⟩
/-! houses -/
def pairD (p : Int × Int) : D := .tup [.int p.1, .int p.2]
@[simp] theorem fz_pair (p : Int × Int) : (pairD p).fz = true := rfl
@[simp] theorem frz_pair (p : Int × Int) : (pairD p).frz = pairD p := rfl
def doorsD (ds : List (Int × Int)) : List D := ds.map pairD
@[simp] theorem fzL_doors (ds : List (Int × Int)) : D.fzL (doorsD ds) = true := fzL_map fz_pair ds
@[simp] theorem frzL_doors (ds : List (Int × Int)) : D.frzL (doorsD ds) = doorsD ds := frzL_mapE fz_pair ds
@[simp] theorem len_doors (ds : List (Int × Int)) : (doorsD ds).length = ds.length := List.length_map ..
def houseD (r : Int) (ds : List (Int × Int)) : D := .tup [.int r, .lst false (doorsD ds)]
theorem ly_pair (p : Int × Int) : Ly (pairD p) 1 := .tup (.cons .int (.cons .int .nil))
theorem ly_doors (ds : List (Int × Int)) {o : Bool} : Ly (.obj o .lst (doorsD ds)) 2 := .lst (.map ly_pair ds)
theorem pl_pair {p : Int × Int} (h : p.1.natAbs < 10 ^ 60 ∧ p.2.natAbs < 10 ^ 60) : Pl (pairD p) 1 3 := .tup (.cons (.int h.1) (.cons (.int h.2) .nil))
@[simp] theorem fz_house (r ds) : (houseD r ds).fz = true := by simp [houseD]
@[simp] theorem frz_house (r ds) : (houseD r ds).frz = houseD r ds := by simp [houseD]
@[simp ↓] theorem house_0 {r ds} {R : D → Prop} : rdIx (houseD r ds) (.sc (.int 0)) R = R (.int r) := by simp [houseD]
@[simp ↓] theorem house_1 {r ds} {R : D → Prop} : rdIx (houseD r ds) (.sc (.int 1)) R = R (.lst false (doorsD ds)) := by simp [houseD]
@[simp ↓] theorem in_pair {neg : Bool} {a : Int} {p : Int × Int} {R : D → Prop} : rdIn neg (.sc (.int a)) (pairD p) R = R (.bl (if neg then !decide (a = p.1 ∨ a = p.2) else decide (a = p.1 ∨ a = p.2))) := by
  show dIn (.sc (.int a)) (dI [p.1, p.2]) (fun c => R (.bl (if neg then !c else c))) = _
  rw [e_dIn]; simp
@[simp ↓] theorem seq_pair {p : Int × Int} {K : List D → Prop} : seqOf (pairD p) K = K [.int p.1, .int p.2] := rfl
@[simp ↓] theorem pair_0 {p : Int × Int} {R : D → Prop} : rdIx (pairD p) (.sc (.int 0)) R = R (.sc (.int p.1)) := by simp [pairD]
@[simp ↓] theorem pair_1 {p : Int × Int} {R : D → Prop} : rdIx (pairD p) (.sc (.int 1)) R = R (.sc (.int p.2)) := by simp [pairD]
@[simp ↓] theorem gtp_pair {p : Int × Int} {gs : WGs} {env : En} {R : En → Prop} : gTp 2 gs (pairD p) env R = gs [.sc (.int p.1), .sc (.int p.2)] env R := by simp [pairD]
theorem doors_get {ds : List (Int × Int)} {i : Int} (h0 : 0 ≤ i) (h : i < ds.length) : ∃ p, p ∈ ds ∧ ds[i.toNat]? = some p ∧ L2.atI (doorsD ds) i = some (pairD p) := by
  have hl : i.toNat < ds.length := by omega
  exact ⟨ds[i.toNat], List.getElem_mem hl, List.getElem?_eq_getElem hl, atI_of h0 (by simp [doorsD, List.getElem?_eq_getElem hl])⟩
structure HouseI (r : Int) (ds : List (Int × Int)) (most wide : Int) : Prop where
  r1 : 1 ≤ r
  r2 : r ≤ most
  len : (ds.length : Int) < wide
  ok : ∀ p ∈ ds, 0 ≤ p.1 ∧ p.1 < r ∧ 0 ≤ p.2 ∧ p.2 < r ∧ p.1 ≠ p.2
theorem house_ok {k : Nat} {b : D} {most more : Int} {R : D → En → Prop} (h : Jug k b) (hk : k < 2 ^ 30) (h1 : 2 ≤ most) (h2 : most ≤ 100) (h3 : 2 ≤ more) (h4 : more ≤ 100)
    (kk : ∀ r ds b', Jug (k + 300) b' → HouseI r ds most (more + 1) → R (houseD r ds) [some b', some (.int most), some (.int more)]) : F_law_house [b, .int most, .int more] R := by
  refine ⟨rfl, ?_⟩
  show wb_law_house [some b, some (.int most), some (.int more), none, none, none, none] _
  unfold wb_law_house
  simp
  refine dip_ok h (by omega) (by omega) (by omega) fun v1 b h a0 a1 => ?_
  simp
  refine dip_ok h (by omega) (by omega) (by omega) fun v2 b h a2 a3 => ?_
  simp
  refine dip_ok h (by omega) (by omega) (by omega) fun v3 b h a4 a5 => ?_
  simp
  refine atI_exI (ns := [1 + v1, 2 + v2]) rfl (by split <;> omega) (by split <;> simp) fun r _ hm => ?_
  replace hm : 1 ≤ r ∧ r ≤ most := by simp at hm; omega
  simp
  refine dip_ok h (by omega) (by omega) (by omega) fun v4 b h a6 a7 => ?_
  simp
  have hn : ∃ n : Nat, ((1 + v4) * if 1 < r then 1 else 0) = n ∧ (n : Int) < more ∧ (0 < n → 1 < r) := by
    split
    · exact ⟨(1 + v4).toNat, by omega, by omega, fun _ => by omega⟩
    · exact ⟨0, by omega, by omega, fun z => by omega⟩
  obtain ⟨n, hn, hn1, hn2⟩ := hn
  rw [hn]
  refine ⟨mulOk_small (.inl (by omega)), by omega, by omega, ?_⟩
  unfold rng
  refine loopD_all _ _ (fun done env => ∃ b ds o5 o6, Jug (k + 4 + 2 * done.length) b ∧ ds.length = done.length ∧ (∀ p ∈ ds, 0 ≤ p.1 ∧ p.1 < r ∧ 0 ≤ p.2 ∧ p.2 < r ∧ p.1 ≠ p.2) ∧ env = [some b, some (.int most), some (.int more), some (.int r), some (.lst true (doorsD ds)), o5, o6]) ⟨b, [], none, none, h, rfl, by simp, rfl⟩ ?_ ?_
  · rintro done x rest e env ⟨b, ds, o5, o6, h, hl, hds, rfl⟩ K kk
    have hx := range_done e
    have hr2 := hn2 (by omega)
    simp
    refine dip_ok h (by omega) (by omega) (by omega) fun one b h h0 h1 => ?_
    simp
    refine dip_ok h (by omega) (by omega) (by omega) fun v b h h2 h3 => ?_
    simp
    refine ⟨by omega, by show _ < 16777216; omega, ?_⟩
    refine kk _ ⟨b, ds ++ [(one, (one + 1 + v) % r)], some (.int (x : Int)), some (.int one), h.mono (by simp; omega), by simp [hl], ?_, by simp [doorsD, pairD]⟩
    intro z hz
    rcases List.mem_append.mp hz with hz | hz
    · exact hds z hz
    · rw [List.mem_singleton.mp hz]
      refine ⟨h0, h1, Int.emod_nonneg _ (by omega), Int.emod_lt_of_pos _ (by omega), ?_⟩
      show one ≠ (one + 1 + v) % r
      by_cases hh : one + 1 + v < r
      · rw [Int.emod_eq_of_lt (by omega) hh]; omega
      · have e : (one + 1 + v) % r = one + 1 + v - r := by
          rw [← Int.sub_emod_right, Int.emod_eq_of_lt (by omega) (by omega)]
        rw [e]; omega
  · rintro env ⟨b, ds, o5, o6, h, hl, hds, rfl⟩
    simp at hl
    simp
    exact kk r ds b (h.mono (by simp; omega)) ⟨by omega, by omega, by omega, hds⟩
/-! folk -/
theorem folk_ok {k : Nat} {b : D} {r : Int} {ds : List (Int × Int)} {most wide : Int} {R : D → En → Prop} (h : Jug k b) (hk : k < 2 ^ 30) (hh : HouseI r ds most wide) (h2 : most ≤ 100)
    (kk : ∀ cs b', Jug (k + 101) b' → (cs.length : Int) = r → (∀ c ∈ cs, 0 ≤ c ∧ c ≤ 10 ^ 18) → R (.lst true (dI cs)) [some b', some (houseD r ds)]) : F_law_folk [b, houseD r ds] R := by
  refine ⟨rfl, ?_⟩
  show wb_law_folk [some b, some (houseD r ds), none, none] _
  have hr1 := hh.r1
  have hr2 := hh.r2
  unfold wb_law_folk
  simp
  refine ⟨powOk (n := 4) (by decide) (by decide) (by decide), dip_ok h (by omega) (by decide) (by decide) fun v1 b h a0 a1 => ?_⟩
  simp
  refine atI_exI (ns := [1, 2, 2, 4, 1000000000000000000]) rfl a0 a1 fun few _ hm => ?_
  replace hm : 1 ≤ few ∧ few ≤ 10 ^ 18 := by simp at hm; omega
  simp
  refine ⟨by omega, by omega, ?_⟩
  unfold rng
  refine compD_inv _ (fun done acc env => ∃ b o2 cs, Jug (k + 1 + done.length) b ∧ acc = dI cs ∧ cs.length = done.length ∧ (∀ c ∈ cs, 0 ≤ c ∧ c ≤ 10 ^ 18) ∧ env = [some b, some (houseD r ds), some (.int few), o2]) (List.range r.toNat) ?_ ?_ ?_ ?_ _ [] _ _ rfl ⟨b, none, [], h, rfl, rfl, by simp, rfl⟩
  · show _ ≤ 16777216; simp; omega
  · rintro done acc env ⟨b, o2, cs, _, rfl, hl, _⟩; simp; omega
  · rintro done x rest e acc env ⟨b, o2, cs, h, rfl, hl, hc, rfl⟩ K kn ks
    have hx := range_done e
    simp
    refine dip_ok h (by omega) (by omega) (by omega) fun v b h a2 a3 => ?_
    simp
    refine ks _ _ ⟨b, _, cs ++ [v], h.mono (by simp; omega), by simp [dI], by simp [hl], ?_, rfl⟩
    intro c hcm
    rcases List.mem_append.mp hcm with hcm | hcm
    · exact hc c hcm
    · rw [List.mem_singleton.mp hcm]; omega
  · rintro acc env ⟨b, o2, cs, h, rfl, hl, hc, rfl⟩
    simp
    simp at hl
    exact kk cs b (h.mono (by simp; omega)) (by omega) hc
/-! goings -/
theorem row_facts {here : List Int} {u w : Int} (u0 : 0 ≤ u) (u1 : u < here.length) (w0 : 0 ≤ w) (w1 : w < here.length) (h : u ≠ w) :
    L2.ixN here.length u = some u.toNat ∧ L2.atI (dI here) u = some (.sc (.int (here.getD u.toNat 0))) ∧ (∀ v : Int, L2.atI ((dI here).set u.toNat (.sc (.int v))) w = some (.sc (.int (here.getD w.toNat 0)))) ∧
      ∀ v t : Int, D.fzL (((dI here).set u.toNat (.sc (.int v))).set w.toNat (.sc (.int t))) = true ∧ D.frzL (((dI here).set u.toNat (.sc (.int v))).set w.toNat (.sc (.int t))) = dI ((here.set u.toNat v).set w.toNat t) ∧
        ((dI here).set u.toNat (.sc (.int v))).set w.toNat (.sc (.int t)) = dI ((here.set u.toNat v).set w.toNat t) := by
  refine ⟨ixN_of u0 u1, dI_atI u0 u1, fun v => ?_, fun v t => ⟨?_, ?_, ?_⟩⟩
  · rw [dI_set, dI_atI w0 (by rw [List.length_set]; exact w1)]
    have : u.toNat ≠ w.toNat := by omega
    simp [List.getD_eq_getElem?_getD, List.getElem?_set, this]
  · rw [dI_set, dI_set]; exact fzL_dI _
  · rw [dI_set, dI_set, frzL_dI]
  · rw [dI_set, dI_set]
def rowsD (rows : List (List Int)) : List D := rows.map fun row => .lst false (dI row)
@[simp] theorem fz_row (row : List Int) : (D.lst false (dI row)).fz = true := by simp
@[simp] theorem len_rows (rows : List (List Int)) : (rowsD rows).length = rows.length := List.length_map ..
theorem fzL_rows (rows : List (List Int)) : D.fzL (rowsD rows) = true := fzL_map fz_row rows
@[simp] theorem fzL_rows' (rows : List (List Int)) : D.fzL (rowsD rows) = true := fzL_map fz_row rows
@[simp] theorem frzL_rows (rows : List (List Int)) : D.frzL (rowsD rows) = rowsD rows := D.frzL_of_fzL (fzL_rows rows)
theorem row_gets {here : List Int} {u w : Int} (u0 : 0 ≤ u) (u1 : u < here.length) (w0 : 0 ≤ w) (w1 : w < here.length) (h : u ≠ w) :
    (dI here)[u.toNat]? = some (.sc (.int (here.getD u.toNat 0))) ∧ ∀ v : Int, ((dI here).set u.toNat (.sc (.int v)))[w.toNat]? = some (.sc (.int (here.getD w.toNat 0))) := by
  refine ⟨dI_getD (by omega), fun v => ?_⟩
  rw [dI_set, dI_getD (by rw [List.length_set]; omega)]
  have : u.toNat ≠ w.toNat := by omega
  simp [List.getD_eq_getElem?_getD, List.getElem?_set, this]
structure GoneI (r : Int) (n : Nat) (most : Int) (moves : List (Int × Int)) (rows : List (List Int)) : Prop where
  mv : ∀ m ∈ moves, 0 ≤ m.1 ∧ m.1 < n ∧ 0 ≤ m.2 ∧ m.2 < 2
  len : rows.length = moves.length + 1
  most : (moves.length : Int) ≤ most
  rows : ∀ row ∈ rows, (row.length : Int) = r ∧ ∀ c ∈ row, 0 ≤ c ∧ c ≤ 10 ^ 18 + 1000
theorem gone_ok {k : Nat} {b : D} {r : Int} {ds : List (Int × Int)} {cs : List Int} {mr wide most : Int} {R : D → En → Prop} (h : Jug k b) (hk : k < 2 ^ 30) (hh : HouseI r ds mr wide) (hw : wide ≤ 100) (hc : (cs.length : Int) = r) (hc2 : ∀ c ∈ cs, 0 ≤ c ∧ c ≤ 10 ^ 18) (hm0 : 0 ≤ most) (hm1 : most ≤ 500)
    (kk : ∀ moves rows b', Jug (k + 1001) b' → GoneI r ds.length most moves rows → R (.tup [.lst false (doorsD moves), .lst false (rowsD rows)]) [some b', some (houseD r ds), some (.lst false (dI cs)), some (.int most)]) : F_law_gone [b, houseD r ds, .lst false (dI cs), .int most] R := by
  refine ⟨rfl, ?_⟩
  show wb_law_gone [some b, some (houseD r ds), some (.lst false (dI cs)), some (.int most), none, none, none, none, none, none, none] _
  have hr1 := hh.r1
  have hr2 := hh.r2
  have hl := hh.len
  unfold wb_law_gone
  simp
  refine dip_ok h (by omega) (by omega) (by omega) fun v1 b h a0 a1 => ?_
  simp
  refine ⟨(ly_doors ds).shp (by decide), ?_⟩
  have hn : ∃ n : Nat, (v1 * if doorsD ds = [] then 0 else 1) = n ∧ (n : Int) ≤ most ∧ (0 < n → 0 < ds.length) := by
    cases ds with
    | nil => exact ⟨0, by simp [doorsD], by omega, fun z => by omega⟩
    | cons _ _ => exact ⟨v1.toNat, by simp [doorsD]; omega, by omega, fun _ => by simp⟩
  obtain ⟨n, hn, hn1, hn2⟩ := hn
  rw [hn]
  refine ⟨mulOk_small (.inl (by omega)), by omega, by omega, ?_⟩
  unfold rng
  refine loopD_all _ _ (fun done env => ∃ b here moves rows o7 o8 o9 o10, Jug (k + 1 + 2 * done.length) b ∧ ((here.length : Int) = r ∧ ∀ c ∈ here, 0 ≤ c ∧ c ≤ (10 : Int) ^ 18 + (done.length : Int)) ∧ (moves.length ≤ done.length) ∧ GoneI r ds.length most moves rows ∧ env = [some b, some (houseD r ds), some (.lst false (dI cs)), some (.int most), some (.lst true (dI here)), some (.lst true (doorsD moves)), some (.lst true (rowsD rows)), o7, o8, o9, o10]) ⟨b, cs, [], [cs], none, none, none, none, h, ⟨hc, fun c hcm => by have := hc2 c hcm; simp; omega⟩, by simp, ⟨by simp, rfl, by simp; omega, fun row hrow => by
      rw [List.mem_singleton.mp hrow]
      exact ⟨hc, fun c hcm => by have := hc2 c hcm; omega⟩⟩, rfl⟩ ?_ ?_
  · rintro done x rest e env ⟨b, here, moves, rows, o7, o8, o9, o10, h, ⟨hl1, hl2⟩, hml, hg, rfl⟩ K kk
    have hx := range_done e
    have hds := hn2 (by omega)
    simp
    refine dip_ok h (by omega) (by omega) (by omega) fun door b h d0 d1 => ?_
    simp
    refine dip_ok h (by omega) (by omega) (by omega) fun side b h s0 s1 => ?_
    simp
    obtain ⟨p, hp, _, ep⟩ := doors_get d0 d1
    have hp4 := hh.ok p hp
    have f1 := row_facts (here := here) (u := p.1) (w := p.2) (by omega) (by omega) (by omega) (by omega) (by omega)
    have f2 := row_facts (here := here) (u := p.2) (w := p.1) (by omega) (by omega) (by omega) (by omega) (by omega)
    have c1 := hl2 _ (getD_mem (ns := here) (i := p.1.toNat) (by omega))
    have c2 := hl2 _ (getD_mem (ns := here) (i := p.2.toNat) (by omega))
    generalize here.getD p.1.toNat 0 = xa at *
    generalize here.getD p.2.toNat 0 = xb at *
    have hsz : moves.length < sizeLine := by show _ < 16777216; omega
    have hsz2 : rows.length < sizeLine := by have := hg.len; show _ < 16777216; omega
    have stay : ∀ s, K [some b, some (houseD r ds), some (.lst false (dI cs)), some (.int most), some (.lst true (dI here)), some (.lst true (doorsD moves)), some (.lst true (rowsD rows)), some (.sc (.int (x : Int))), some (.sc (.int door)), some (.sc (.int s)), some (pairD p)] := fun s =>
      kk _ ⟨b, here, moves, rows, some (.sc (.int (x : Int))), some (.sc (.int door)), some (.sc (.int s)), some (pairD p), h.mono (by simp; omega), ⟨hl1, fun c hc => by have := hl2 c hc; simp; omega⟩, by simp; omega, hg, rfl⟩
    have move : ∀ s (new : List Int), 0 ≤ s → s < 2 → ((new.length : Int) = r ∧ ∀ c ∈ new, 0 ≤ c ∧ c ≤ (10 : Int) ^ 18 + (done.length : Int) + 1) → K [some b, some (houseD r ds), some (.lst false (dI cs)), some (.int most), some (.lst true (dI new)), some (.lst true (doorsD moves ++ [D.tup [D.sc (V.int door), D.sc (V.int s)]])), some (.lst true (rowsD rows ++ [D.lst false (dI new)])), some (.sc (.int (x : Int))), some (.sc (.int door)), some (.sc (.int s)), some (pairD p)] := fun s new s0 s1 hnew =>
      kk _ ⟨b, new, moves ++ [(door, s)], rows ++ [new], some (.sc (.int (x : Int))), some (.sc (.int door)), some (.sc (.int s)), some (pairD p), h.mono (by simp; omega), ⟨hnew.1, fun c hc => by have := hnew.2 c hc; simp; omega⟩, by simp; omega, ⟨by
        intro m hm
        rcases List.mem_append.mp hm with hm | hm
        · exact hg.mv m hm
        · rw [List.mem_singleton.mp hm]; exact ⟨d0, d1, s0, s1⟩, by simp [hg.len], by simp; omega, by
        intro row hrow
        rcases List.mem_append.mp hrow with hrow | hrow
        · exact hg.rows row hrow
        · rw [List.mem_singleton.mp hrow]
          exact ⟨hnew.1, fun c hc => by have := hnew.2 c hc; omega⟩⟩, by simp [doorsD, rowsD, pairD]⟩
    have hnew : ∀ (u w : Nat) (v t : Int), 0 ≤ v → v ≤ (10 : Int) ^ 18 + (done.length : Int) + 1 → 0 ≤ t → t ≤ (10 : Int) ^ 18 + (done.length : Int) + 1 → ((((here.set u v).set w t).length : Int) = r ∧ ∀ c ∈ (here.set u v).set w t, 0 ≤ c ∧ c ≤ (10 : Int) ^ 18 + (done.length : Int) + 1) := by
      intro u w v t v0 v1 t0 t1
      refine ⟨by simpa using hl1, fun c hc => ?_⟩
      rcases List.mem_or_eq_of_mem_set hc with hc | hc
      · rcases List.mem_or_eq_of_mem_set hc with hc | hc
        · have := hl2 c hc; omega
        · omega
      · omega
    obtain ⟨f11, f12, f13, f14⟩ := f1
    obtain ⟨f21, f22, f23, f24⟩ := f2
    have hlen : (dI here).length = here.length := dI_length here
    generalize dI here = H at *
    simp [ep]
    rcases (by omega : side = 0 ∨ side = 1) with rfl | rfl
    · by_cases h1 : xa = 0
      · by_cases h2 : 0 < xb
        · simp [f12, f22, h1, h2, f21, f23, f11, fun v t => (f24 v t).1, hsz, hsz2, hlen]
          rw [(f24 _ _).2.2, frzL_dI]
          exact move 1 _ (by decide) (by decide) (hnew _ _ _ _ (by omega) (by omega) (by omega) (by omega))
        · simp [f12, f22, h1, h2]
          exact stay _
      · have h2 : 0 < xa := by omega
        simp [f12, f22, h1, h2, f11, f13, f21, fun v t => (f14 v t).1, hsz, hsz2, hlen]
        rw [(f14 _ _).2.2, frzL_dI]
        exact move 0 _ (by decide) (by decide) (hnew _ _ _ _ (by omega) (by omega) (by omega) (by omega))
    · by_cases h1 : xb = 0
      · by_cases h2 : 0 < xa
        · simp [f12, f22, h1, h2, f11, f13, f21, fun v t => (f14 v t).1, hsz, hsz2, hlen]
          rw [(f14 _ _).2.2, frzL_dI]
          exact move 0 _ (by decide) (by decide) (hnew _ _ _ _ (by omega) (by omega) (by omega) (by omega))
        · simp [f12, f22, h1, h2]
          exact stay _
      · have h2 : 0 < xb := by omega
        simp [f12, f22, h1, h2, f21, f23, f11, fun v t => (f24 v t).1, hsz, hsz2, hlen]
        rw [(f24 _ _).2.2, frzL_dI]
        exact move 1 _ (by decide) (by decide) (hnew _ _ _ _ (by omega) (by omega) (by omega) (by omega))
  · rintro env ⟨b, here, moves, rows, o7, o8, o9, o10, h, ⟨hl1, hl2⟩, hml, hg, rfl⟩
    simp at hml
    simp
    exact kk moves rows b (h.mono (by simp; omega)) hg
/-! tapes -/
def hid (q : (Int × Int) × Bool) : Int × Int := (q.1.1, if q.2 then q.1.2 else -1)
theorem hidden_ok {k : Nat} {b : D} {moves : List (Int × Int)} {R : D → En → Prop} (h : Jug k b) (hk : k < 2 ^ 30) (hl : moves.length ≤ 1000)
    (kk : ∀ (sel : List Bool) b', Jug (k + 1 + moves.length) b' → sel.length = moves.length → R (.lst true (doorsD ((moves.zip sel).map hid))) [some b', some (.lst false (doorsD moves))]) : F_law_hidden [b, .lst false (doorsD moves)] R := by
  refine ⟨rfl, ?_⟩
  show wb_law_hidden [some b, some (.lst false (doorsD moves)), none, none, none] _
  unfold wb_law_hidden
  simp
  refine dip_ok h (by omega) (by decide) (by decide) fun v1 b h a0 a1 => ?_
  simp
  refine atI_exI (ns := [2, 5, 9]) rfl a0 a1 fun often _ hm => ?_
  replace hm : 1 ≤ often ∧ often ≤ 10 := by simp at hm; omega
  simp
  refine compD_inv pairD (fun done acc env => ∃ b o3 o4 sel, Jug (k + 1 + done.length) b ∧ acc = doorsD ((done.zip sel).map hid) ∧ sel.length = done.length ∧ env = [some b, some (.lst false (doorsD moves)), some (.int often), o3, o4]) moves ?_ ?_ ?_ ?_ _ [] _ _ rfl ⟨b, none, none, [], h, rfl, rfl, rfl⟩
  · show _ ≤ 16777216; omega
  · rintro done acc env ⟨b, o3, o4, sel, _, rfl, hl, _⟩; simp [hl]
  · rintro done x rest e acc env ⟨b, o3, o4, sel, h, rfl, hl2, rfl⟩ K kn ks
    have hdl : done.length < moves.length := by rw [← e]; simp
    simp
    refine dip_ok h (by omega) (by omega) (by omega) fun v b h a2 a3 => ?_
    simp
    have fin : ∀ c : Bool, K (some (D.tup [D.sc (V.int x.1), D.sc (V.int (hid (x, c)).2)])) [some b, some (.lst false (doorsD moves)), some (.int often), some (.sc (.int x.1)), some (.sc (.int x.2))] := fun c =>
      ks _ _ ⟨b, _, _, sel ++ [c], h.mono (by simp; omega), by rw [List.zip_append hl2.symm]; simp [doorsD, pairD, hid], by simp [hl2], rfl⟩
    split
    · exact fin true
    · exact fin false
  · rintro acc env ⟨b, o3, o4, sel, h, rfl, hl2, rfl⟩
    simp
    exact kk sel b h hl2
def quadD (q : Int × Int × Int × Int) : D := .tup [.int q.1, .int q.2.1, .int q.2.2.1, .int q.2.2.2]
@[simp] theorem fz_quad (q) : (quadD q).fz = true := rfl
@[simp] theorem frz_quad (q) : (quadD q).frz = quadD q := rfl
@[simp ↓] theorem quad_0 {p} {R : D → Prop} : rdIx (quadD p) (.sc (.int 0)) R = R (.sc (.int p.1)) := by simp [quadD]
@[simp ↓] theorem quad_1 {p} {R : D → Prop} : rdIx (quadD p) (.sc (.int 1)) R = R (.sc (.int p.2.1)) := by simp [quadD]
@[simp ↓] theorem quad_2 {p} {R : D → Prop} : rdIx (quadD p) (.sc (.int 2)) R = R (.sc (.int p.2.2.1)) := by simp [quadD]
@[simp ↓] theorem quad_3 {p} {R : D → Prop} : rdIx (quadD p) (.sc (.int 3)) R = R (.sc (.int p.2.2.2)) := by simp [quadD]
@[simp ↓] theorem gtp_quad {p} {gs : WGs} {env : En} {R : En → Prop} : gTp 4 gs (quadD p) env R = gs [.sc (.int p.1), .sc (.int p.2.1), .sc (.int p.2.2.1), .sc (.int p.2.2.2)] env R := by simp [quadD]
def looksD (ls : List (Int × Int × Int × Int)) : List D := ls.map quadD
@[simp] theorem fzL_looks (ls) : D.fzL (looksD ls) = true := fzL_map fz_quad ls
@[simp] theorem frzL_looks (ls) : D.frzL (looksD ls) = looksD ls := frzL_mapE fz_quad ls
@[simp] theorem len_looks (ls) : (looksD ls).length = ls.length := List.length_map ..
/-- a look of a tape of n moments -/
def LookI (r : Int) (n : Nat) (w : Int) (q : Int × Int × Int × Int) : Prop := 0 ≤ q.1 ∧ q.1 < n ∧ 0 ≤ q.2.1 ∧ q.2.1 < r ∧ -w ≤ q.2.2.1 ∧ q.2.2.1 ≤ w ∧ -w ≤ q.2.2.2 ∧ q.2.2.2 ≤ w
theorem look_ok {k n : Nat} {b : D} {r : Int} {ds : List (Int × Int)} {mr wide most : Int} {moves : List (Int × Int)} {rows : List (List Int)} {R : D → En → Prop} (h : Jug k b) (hk : k < 2 ^ 30) (hh : HouseI r ds mr wide) (hr : mr ≤ 100) (hg : GoneI r n most moves rows) (hm1 : most ≤ 500)
    (kk : ∀ q b', Jug (k + 6) b' → LookI r rows.length (10 ^ 20) q → R (quadD q) [some b', some (houseD r ds), some (.lst false (rowsD rows))]) : F_law_look [b, houseD r ds, .lst false (rowsD rows)] R := by
  refine ⟨rfl, ?_⟩
  show wb_law_look [some b, some (houseD r ds), some (.lst false (rowsD rows)), none, none, none, none, none] _
  have hr1 := hh.r1
  have hr2 := hh.r2
  have hgl := hg.len
  have hgm := hg.most
  unfold wb_law_look
  simp
  refine dip_ok h (by omega) (by omega) (by omega) fun when b h a0 a1 => ?_
  simp
  refine dip_ok h (by omega) (by omega) (by omega) fun spot b h a2 a3 => ?_
  simp
  refine atI_exM (f := fun row => D.lst false (dI row)) rfl a0 a1 fun row _ hrow => ?_
  have hrw := hg.rows row hrow
  simp
  refine atI_exI rfl a2 (by omega) fun num _ hnum => ?_
  have hnm := hrw.2 num hnum
  simp
  refine dip_ok h (by omega) (by omega) (by omega) fun kind b h a4 a5 => ?_
  simp
  split
  · refine dip_ok h (by omega) (by omega) (by omega) fun v b h a6 a7 => ?_
    simp
    refine dip_ok h (by omega) (by omega) (by omega) fun v2 b h a8 a9 => ?_
    simp
    exact kk (when, spot, num - v, num + v2) b (h.mono (by omega)) ⟨a0, by simpa using a1, a2, a3, by simp; omega, by simp; omega, by simp; omega, by simp; omega⟩
  · split
    · refine dip_ok h (by omega) (by omega) (by omega) fun v b h a6 a7 => ?_
      simp
      exact kk (when, spot, num + 1 - v, num + 1) b (h.mono (by omega)) ⟨a0, by simpa using a1, a2, a3, by simp; omega, by simp; omega, by simp; omega, by simp; omega⟩
    · refine ⟨powOk (n := 4) (by decide) (by decide) (by decide), dip_ok h (by omega) (by omega) (by omega) fun v b h a6 a7 => ?_⟩
      simp
      refine atI_exM (f := pairD) (ns := [(0, 0), (1, 10000000000000000000), (-10000000000000000000, 0), (3, 1), (-3, -1), (10000000000000000000, 10000000000000000000)]) rfl a6 a7 fun p _ hp => ?_
      replace hp : -(10 ^ 20) ≤ p.1 ∧ p.1 ≤ 10 ^ 20 ∧ -(10 ^ 20) ≤ p.2 ∧ p.2 ≤ 10 ^ 20 := by
        simp at hp
        rcases hp with rfl | rfl | rfl | rfl | rfl | rfl <;> decide
      simp [pairD]
      exact kk (when, spot, p.1, p.2) b (h.mono (by omega)) ⟨a0, by simpa using a1, a2, a3, hp.1, hp.2.1, hp.2.2.1, hp.2.2.2⟩
end JUG

namespace LAW_K41
open PySem L2 PL JUG
theorem dip_ok {k : Nat} {b : D} {many : Int} {R : D → En → Prop} (h : Jug k b) (hk : k < 2 ^ 40) (hm : 0 < many) (hm2 : many < 2 ^ 80)
    (kk : ∀ v b', Jug (k + 1) b' → 0 ≤ v → v < many → R (.int v) [some b', some (.int many)]) : F_law_dip [b, .int many] R := JUG.dip_ok h hk hm hm2 kk
def tapeD (beads : List (Int × Int)) (looks : List (Int × Int × Int × Int)) : D := .tup [.lst false (doorsD beads), .lst false (looksD looks)]
@[simp] theorem fz_tape (a b) : (tapeD a b).fz = true := by simp [tapeD]
@[simp] theorem frz_tape (a b) : (tapeD a b).frz = tapeD a b := by simp [tapeD]
@[simp ↓] theorem tape_0 {a b} {R : D → Prop} : rdIx (tapeD a b) (.sc (.int 0)) R = R (.lst false (doorsD a)) := by simp [tapeD]
@[simp ↓] theorem tape_1 {a b} {R : D → Prop} : rdIx (tapeD a b) (.sc (.int 1)) R = R (.lst false (looksD b)) := by simp [tapeD]
def touch (ds : List (Int × Int)) (room : Int) (bd : Int × Int) : Bool := decide (room = (ds.getD bd.1.toNat (0, 0)).1 ∨ room = (ds.getD bd.1.toNat (0, 0)).2)
def metN (ds beads : List (Int × Int)) (room moment : Int) : Nat := ((cutD beads none (some moment)).filter (touch ds room)).length
theorem filterMap_if {α β : Type} (c : α → Bool) (f : α → β) (l : List α) : l.filterMap (fun x => if c x = true then some (f x) else none) = (l.filter c).map f := by
  induction l with
  | nil => rfl
  | cons x l ih => by_cases h : c x = true <;> simp [h, ih]
theorem doors_getD {ds : List (Int × Int)} {i : Int} (h0 : 0 ≤ i) (h : i < ds.length) : L2.atI (doorsD ds) i = some (pairD (ds.getD i.toNat (0, 0))) := by
  obtain ⟨p, _, e, e2⟩ := doors_get h0 h
  rw [e2, List.getD_eq_getElem?_getD, e]; rfl
theorem met_by_ok {r : Int} {ds beads : List (Int × Int)} {looks room moment} {R : D → En → Prop} (hb : ∀ q ∈ beads, 0 ≤ q.1 ∧ q.1 < ds.length) (hl : beads.length ≤ 1000) (k : R (.int (metN ds beads room moment)) [some (houseD r ds), some (tapeD beads looks), some (.int room), some (.int moment)]) :
    F_met_by [houseD r ds, tapeD beads looks, .int room, .int moment] R := by
  refine ⟨rfl, ?_⟩
  show wb_met_by [some (houseD r ds), some (tapeD beads looks), some (.int room), some (.int moment), none, none] _
  unfold wb_met_by
  simp
  rw [show doorsD beads = beads.map pairD from rfl, cutD_map, frzL_mapE fz_pair]
  refine compD_ind pairD (fun env => ∃ o4 o5, env = [some (houseD r ds), some (tapeD beads looks), some (.int room), some (.int moment), o4, o5]) (fun bd => if touch ds room bd = true then some (D.sc (V.int bd.1)) else none) _ [] _ ?_ ⟨none, none, rfl⟩ ?_ ?_
  · have := cutD_len beads none (some moment)
    show _ ≤ 16777216; simp; omega
  · rintro bd hbd env ⟨o4, o5, rfl⟩ K kk
    obtain ⟨h0, h1⟩ := hb bd (cutD_mem hbd)
    have e := doors_getD h0 h1
    simp [e, -List.getD_eq_getElem?_getD]
    have := kk [some (houseD r ds), some (tapeD beads looks), some (.int room), some (.int moment), some (.sc (.int bd.1)), some (.sc (.int bd.2))] ⟨_, _, rfl⟩
    split
    · rename_i hh
      rw [if_pos (show touch ds room bd = true from decide_eq_true hh)] at this; exact this
    · rename_i hh
      rw [if_neg (show ¬ touch ds room bd = true from fun z => hh (of_decide_eq_true z))] at this; exact this
  · rintro env ⟨o4, o5, rfl⟩
    rw [List.nil_append, filterMap_if]
    simp
    exact k
def atM (room moment : Int) (q : Int × Int × Int × Int) : Bool := decide (q.1 = moment) && decide (q.2.1 = room)
def pairsOf (looks : List (Int × Int × Int × Int)) (room moment : Int) : List (Int × Int) := (looks.filter (atM room moment)).map fun q => (q.2.2.1, q.2.2.2)
theorem looks_at_ok {beads : List (Int × Int)} {looks room moment} {R : D → En → Prop} (hl : looks.length ≤ 1000) (k : R (.lst true (doorsD (pairsOf looks room moment))) [some (tapeD beads looks), some (.int room), some (.int moment)]) :
    F_looks_at [tapeD beads looks, .int room, .int moment] R := by
  refine ⟨rfl, ?_⟩
  show wb_looks_at [some (tapeD beads looks), some (.int room), some (.int moment), none, none, none, none] _
  unfold wb_looks_at
  simp
  refine compD_ind quadD (fun env => ∃ o3 o4 o5 o6, env = [some (tapeD beads looks), some (.int room), some (.int moment), o3, o4, o5, o6]) (fun q => if atM room moment q = true then some (pairD (q.2.2.1, q.2.2.2)) else none) looks [] _ ?_ ⟨none, none, none, none, rfl⟩ ?_ ?_
  · show _ ≤ 16777216; simp; omega
  · rintro q hq env ⟨o3, o4, o5, o6, rfl⟩ K kk
    have := kk [some (tapeD beads looks), some (.int room), some (.int moment), some (.sc (.int q.1)), some (.sc (.int q.2.1)), some (.sc (.int q.2.2.1)), some (.sc (.int q.2.2.2))] ⟨_, _, _, _, rfl⟩
    by_cases h1 : q.1 = moment <;> by_cases h2 : q.2.1 = room <;> simp [atM, h1, h2] at this <;> simp [h1, h2] <;> exact this
  · rintro env ⟨o3, o4, o5, o6, rfl⟩
    rw [List.nil_append, filterMap_if]
    simp
    have e : (looks.filter (atM room moment)).map (fun q => pairD (q.2.2.1, q.2.2.2)) = doorsD (pairsOf looks room moment) := by simp [doorsD, pairsOf]
    rw [e]; exact k
def mostV (ds : List (Int × Int)) (cs : List Int) (beads : List (Int × Int)) (looks : List (Int × Int × Int × Int)) (room moment : Int) : Int :=
  if moment = 0 then 0 else (cs.getD room.toNat 0 + metN ds beads room moment - mx0 ((looks.filter (atM room moment)).map fun q => q.2.2.1)) / 2
def leastV (ds : List (Int × Int)) (cs : List Int) (beads : List (Int × Int)) (looks : List (Int × Int × Int × Int)) (room moment : Int) : Int :=
  if moment = 0 then 0 else mx0 ((looks.filter (atM room moment)).map fun q => (cs.getD room.toNat 0 + metN ds beads room moment - q.2.2.2 + 1) / 2)
structure Asked (r : Int) (ds : List (Int × Int)) (cs : List Int) (beads : List (Int × Int)) (looks : List (Int × Int × Int × Int)) : Prop where
  hb : ∀ q ∈ beads, 0 ≤ q.1 ∧ q.1 < ds.length
  hl : beads.length ≤ 1000
  hk : looks.length ≤ 1000
  hc : (cs.length : Int) = r
theorem pairs_len (looks room moment) : (pairsOf looks room moment).length ≤ looks.length := by
  unfold pairsOf; rw [List.length_map]; exact List.length_filter_le ..
theorem most_ok {r : Int} {ds : List (Int × Int)} {cs : List Int} {beads looks room moment} {R : D → En → Prop} (A : Asked r ds cs beads looks) (r0 : 0 ≤ room) (r1 : room < r)
    (k : R (.int (mostV ds cs beads looks room moment)) [some (houseD r ds), some (.lst false (dI cs)), some (tapeD beads looks), some (.int room), some (.int moment)]) :
    F_most_out [houseD r ds, .lst false (dI cs), tapeD beads looks, .int room, .int moment] R := by
  refine ⟨rfl, ?_⟩
  show wb_most_out [some (houseD r ds), some (.lst false (dI cs)), some (tapeD beads looks), some (.int room), some (.int moment), none, none, none] _
  unfold wb_most_out
  have hc := A.hc
  have hk := A.hk
  have hp := pairs_len looks room moment
  unfold mostV at k
  by_cases h0 : moment = 0
  · rw [if_pos h0] at k
    simp [h0] at k ⊢; exact k
  · rw [if_neg h0] at k
    simp [h0]
    refine looks_at_ok A.hk ?_
    simp
    refine compD_map pairD (pairsOf looks room moment) (fun env => ∃ o6 o7, env = [some (houseD r ds), some (.lst false (dI cs)), some (tapeD beads looks), some (.int room), some (.int moment), none, o6, o7]) (fun p => .sc (.int p.1)) (by show _ ≤ 16777216; omega) ⟨none, none, rfl⟩ ?_ ?_
    · rintro p hp env ⟨o6, o7, rfl⟩ K kk
      simp
      exact kk _ ⟨_, _, rfl⟩
    · rintro env ⟨o6, o7, rfl⟩
      have e : (pairsOf looks room moment).map (fun p => D.sc (V.int p.1)) = dI ((looks.filter (atM room moment)).map fun q => q.2.2.1) := by simp [pairsOf, dI]
      rw [e]
      have hL : ((looks.filter (atM room moment)).map fun q => q.2.2.1).length ≤ 1000 := by
        rw [List.length_map]; exact Nat.le_trans (List.length_filter_le ..) hk
      generalize (looks.filter (atM room moment)).map (fun q => q.2.2.1) = L at *
      have ea := dI_atI (ns := cs) (i := room) r0 (by omega)
      simp [ea, -List.getD_eq_getElem?_getD]
      refine ⟨by show _ ≤ 16777216; omega, max_mx0 ?_⟩
      simp [-List.getD_eq_getElem?_getD]
      refine met_by_ok A.hb A.hl ?_
      simp [-List.getD_eq_getElem?_getD]
      exact ⟨divOk (by decide) (by decide), k⟩
theorem least_ok {r : Int} {ds : List (Int × Int)} {cs : List Int} {beads looks room moment} {R : D → En → Prop} (A : Asked r ds cs beads looks) (r0 : 0 ≤ room) (r1 : room < r)
    (k : R (.int (leastV ds cs beads looks room moment)) [some (houseD r ds), some (.lst false (dI cs)), some (tapeD beads looks), some (.int room), some (.int moment)]) :
    F_least_out [houseD r ds, .lst false (dI cs), tapeD beads looks, .int room, .int moment] R := by
  refine ⟨rfl, ?_⟩
  show wb_least_out [some (houseD r ds), some (.lst false (dI cs)), some (tapeD beads looks), some (.int room), some (.int moment), none, none, none] _
  unfold wb_least_out
  have hc := A.hc
  have hk := A.hk
  have hp := pairs_len looks room moment
  unfold leastV at k
  by_cases h0 : moment = 0
  · rw [if_pos h0] at k
    simp [h0] at k ⊢; exact k
  · rw [if_neg h0] at k
    have ea := dI_atI (ns := cs) (i := room) r0 (by omega)
    simp [h0, ea, -List.getD_eq_getElem?_getD]
    refine met_by_ok A.hb A.hl ?_
    simp [-List.getD_eq_getElem?_getD]
    refine looks_at_ok A.hk ?_
    simp [-List.getD_eq_getElem?_getD]
    refine compD_map pairD (pairsOf looks room moment) (fun env => ∃ o6 o7, env = [some (houseD r ds), some (.lst false (dI cs)), some (tapeD beads looks), some (.int room), some (.int moment), some (.int (cs.getD room.toNat 0 + metN ds beads room moment)), o6, o7]) (fun p => .sc (.int ((cs.getD room.toNat 0 + metN ds beads room moment - p.2 + 1) / 2))) (by show _ ≤ 16777216; omega) ⟨none, none, rfl⟩ ?_ ?_
    · rintro p hp env ⟨o6, o7, rfl⟩ K kk
      simp [-List.getD_eq_getElem?_getD]
      exact ⟨divOk (by decide) (by decide), kk _ ⟨_, _, rfl⟩⟩
    · rintro env ⟨o6, o7, rfl⟩
      have e : (pairsOf looks room moment).map (fun p => D.sc (V.int ((cs.getD room.toNat 0 + metN ds beads room moment - p.2 + 1) / 2))) = dI ((looks.filter (atM room moment)).map fun q => (cs.getD room.toNat 0 + metN ds beads room moment - q.2.2.2 + 1) / 2) := by simp [pairsOf, dI]
      rw [e]
      have hL : ((looks.filter (atM room moment)).map fun q => (cs.getD room.toNat 0 + metN ds beads room moment - q.2.2.2 + 1) / 2).length ≤ 1000 := by
        rw [List.length_map]; exact Nat.le_trans (List.length_filter_le ..) hk
      generalize (looks.filter (atM room moment)).map (fun q => (cs.getD room.toNat 0 + metN ds beads room moment - q.2.2.2 + 1) / 2) = L at *
      simp [-List.getD_eq_getElem?_getD]
      refine ⟨by show _ ≤ 16777216; omega, max_mx0 ?_⟩
      exact k
theorem outs_ok {r : Int} {ds : List (Int × Int)} {cs : List Int} {beads looks room moment} {R : D → En → Prop} (A : Asked r ds cs beads looks) (r0 : 0 ≤ room) (r1 : room < r)
    (k : R (.lst true [.int (leastV ds cs beads looks room moment), .int (mostV ds cs beads looks room moment)]) [some (houseD r ds), some (.lst false (dI cs)), some (tapeD beads looks), some (.int room), some (.int moment)]) :
    F_law_outs [houseD r ds, .lst false (dI cs), tapeD beads looks, .int room, .int moment] R := by
  refine ⟨rfl, ?_⟩
  show wb_law_outs [some (houseD r ds), some (.lst false (dI cs)), some (tapeD beads looks), some (.int room), some (.int moment), none, none, none, none, none, none] _
  unfold wb_law_outs
  have hc := A.hc
  have hk := A.hk
  unfold leastV mostV at k
  by_cases h0 : moment = 0
  · rw [if_pos h0, if_pos h0] at k
    simp [h0] at k ⊢; exact k
  · rw [if_neg h0, if_neg h0] at k
    have ea := dI_atI (ns := cs) (i := room) r0 (by omega)
    simp [h0, ea, -List.getD_eq_getElem?_getD]
    rw [show doorsD beads = beads.map pairD from rfl, cutD_map, frzL_mapE fz_pair]
    refine compD_ind pairD (fun env => ∃ o9, env = [some (houseD r ds), some (.lst false (dI cs)), some (tapeD beads looks), some (.int room), some (.int moment), none, none, none, none, o9, none]) (fun bd => if touch ds room bd = true then some (pairD bd) else none) _ [] _ ?_ ⟨none, rfl⟩ ?_ ?_
    · have := cutD_len beads none (some moment)
      have := A.hl
      show _ ≤ 16777216; simp; omega
    · rintro bd hbd env ⟨o9, rfl⟩ K kk
      obtain ⟨h0, h1⟩ := A.hb bd (cutD_mem hbd)
      have e := doors_getD h0 h1
      simp [e, -List.getD_eq_getElem?_getD]
      have := kk [some (houseD r ds), some (.lst false (dI cs)), some (tapeD beads looks), some (.int room), some (.int moment), none, none, none, none, some (pairD bd), none] ⟨_, rfl⟩
      split
      · rename_i hh
        rw [if_pos (show touch ds room bd = true from decide_eq_true hh)] at this; exact this
      · rename_i hh
        rw [if_neg (show ¬ touch ds room bd = true from fun z => hh (of_decide_eq_true z))] at this; exact this
    · rintro env ⟨o9, rfl⟩
      rw [List.nil_append, filterMap_if]
      have el : (((cutD beads none (some moment)).filter (touch ds room)).map pairD).length = metN ds beads room moment := by rw [List.length_map]; rfl
      simp [-List.getD_eq_getElem?_getD]
      rw [List.length_map] at el
      rw [el]
      generalize hT : cs.getD room.toNat 0 + (metN ds beads room moment : Int) = T at *
      refine compD_ind quadD (fun env => ∃ o10, env = [some (houseD r ds), some (.lst false (dI cs)), some (tapeD beads looks), some (.int room), some (.int moment), some (.int T), none, none, none, none, o10]) (fun q => if atM room moment q = true then some (quadD q) else none) looks [] _ ?_ ⟨none, rfl⟩ ?_ ?_
      · show _ ≤ 16777216; simp; omega
      · rintro q hq env ⟨o10, rfl⟩ K kk
        have := kk [some (houseD r ds), some (.lst false (dI cs)), some (tapeD beads looks), some (.int room), some (.int moment), some (.int T), none, none, none, none, some (quadD q)] ⟨_, rfl⟩
        by_cases h1 : q.1 = moment <;> by_cases h2 : q.2.1 = room <;> simp [atM, h1, h2] at this <;> simp [h1, h2] <;> exact this
      · rintro env ⟨o10, rfl⟩
        rw [List.nil_append, filterMap_if]
        have hL : (looks.filter (atM room moment)).length ≤ 1000 := Nat.le_trans (List.length_filter_le ..) hk
        generalize looks.filter (atM room moment) = L at *
        rw [show L.map quadD = looksD L from rfl]
        simp
        refine compD_map quadD L (fun env => ∃ o10, env = [some (houseD r ds), some (.lst false (dI cs)), some (tapeD beads looks), some (.int room), some (.int moment), some (.int T), some (.lst false (looksD L)), none, none, none, o10]) (fun q => .sc (.int q.2.2.1)) (by show _ ≤ 16777216; omega) ⟨none, rfl⟩ ?_ ?_
        · rintro q hq env ⟨o10, rfl⟩ K kk
          simp
          exact kk _ ⟨_, rfl⟩
        · rintro env ⟨o10, rfl⟩
          rw [show L.map (fun q => D.sc (V.int q.2.2.1)) = dI (L.map fun q => q.2.2.1) by simp [dI]]
          have hM : (L.map fun q => q.2.2.1).length ≤ 1000 := by rw [List.length_map]; exact hL
          generalize (L.map fun q => q.2.2.1) = M at *
          simp
          refine ⟨by show _ ≤ 16777216; omega, max_mx0 ?_⟩
          simp
          refine compD_map quadD L (fun env => ∃ o10, env = [some (houseD r ds), some (.lst false (dI cs)), some (tapeD beads looks), some (.int room), some (.int moment), some (.int T), some (.lst false (looksD L)), some (.int (T - mx0 M)), none, none, o10]) (fun q => .sc (.int ((T - q.2.2.2 + 1) / 2))) (by show _ ≤ 16777216; omega) ⟨none, rfl⟩ ?_ ?_
          · rintro q hq env ⟨o10, rfl⟩ K kk
            simp
            refine ⟨divOk (by decide) (by decide), ?_⟩
            rw [show T - q.2.2.2 + (T - q.2.2.2) % 2 = (T - q.2.2.2) + (T - q.2.2.2) % 2 from rfl]
            have e : ((T - q.2.2.2) + (T - q.2.2.2) % 2) / 2 = (T - q.2.2.2 + 1) / 2 := by omega
            rw [e]
            exact kk _ ⟨_, rfl⟩
          · rintro env ⟨o10, rfl⟩
            rw [show L.map (fun q => D.sc (V.int ((T - q.2.2.2 + 1) / 2))) = dI (L.map fun q => (T - q.2.2.2 + 1) / 2) by simp [dI]]
            have hN : (L.map fun q => (T - q.2.2.2 + 1) / 2).length ≤ 1000 := by rw [List.length_map]; exact hL
            generalize (L.map fun q => (T - q.2.2.2 + 1) / 2) = N at *
            simp
            refine ⟨by show _ ≤ 16777216; omega, max_mx0 ?_⟩
            simp
            refine ⟨divOk (by decide) (by decide), ?_⟩
            have e : ((T - mx0 M) - (T - mx0 M) % 2) / 2 = (T - mx0 M) / 2 := by omega
            rw [e]; exact k
theorem whole_ok {a : Int} {R : D → En → Prop} (k : R (.bl true) [some (.int a), some (.int a)]) : F_law_is_whole [.int a, .int a] R := by
  refine ⟨rfl, ?_⟩
  show wb_law_is_whole [some (.int a), some (.int a)] _
  unfold wb_law_is_whole
  simp
  exact k
theorem moments_ok {k : Nat} {b : D} {beads looks} {R : D → En → Prop} (h : Jug k b) (hk : k < 2 ^ 30) (hl : beads.length ≤ 1000) (hl2 : looks.length ≤ 1000)
    (kk : ∀ ms b', Jug (k + 8) b' → R (.lst true (dI ms)) [some b', some (tapeD beads looks)]) : F_law_moments [b, tapeD beads looks] R := by
  refine ⟨rfl, ?_⟩
  show wb_law_moments [some b, some (tapeD beads looks), none, none, none] _
  unfold wb_law_moments
  simp
  split
  · refine ⟨.of_le (by decide) (by omega) (by decide) (by omega), ?_⟩
    rw [rng_map]
    exact kk _ b (h.mono (by omega))
  · refine compD_map quadD looks (fun env => ∃ o3, env = [some b, some (tapeD beads looks), some (.int (beads.length : Int)), o3, none]) (fun q => .sc (.int q.1)) (by show _ ≤ 16777216; omega) ⟨none, rfl⟩ ?_ ?_
    · rintro q hq env ⟨o3, rfl⟩ K k2
      simp
      exact k2 _ ⟨_, rfl⟩
    · rintro env ⟨o3, rfl⟩
      rw [show looks.map (fun q => D.sc (V.int q.1)) = dI (looks.map fun q => q.1) by simp [dI]]
      have hM : (looks.map fun q => q.1).length ≤ 1000 := by rw [List.length_map]; exact hl2
      generalize (looks.map fun q => q.1) = M at *
      simp
      refine ⟨by show _ ≤ 16777216; omega, ?_⟩
      unfold rng
      refine compD_inv _ (fun done acc env => ∃ b o4 ms, Jug (k + done.length) b ∧ acc = dI ms ∧ ms.length = done.length ∧ env = [some b, some (tapeD beads looks), some (.int (beads.length : Int)), none, o4]) (List.range 8) ?_ ?_ ?_ ?_ _ [] _ _ rfl ⟨b, none, [], h, rfl, rfl, rfl⟩
      · show _ ≤ 16777216; simp
      · rintro done acc env ⟨b, o4, ms, _, rfl, hl, _⟩; simp [hl]
      · rintro done x rest e acc env ⟨b, o4, ms, h, rfl, hl2, rfl⟩ K kn ks
        have hx := range_done e
        simp
        refine dip_ok h (by omega) (by omega) (by omega) fun v b h a2 a3 => ?_
        simp
        exact ks _ _ ⟨b, _, ms ++ [v], h.mono (by simp; omega), by simp [dI], by simp [hl2], rfl⟩
      · rintro acc env ⟨b, o4, ms, h, rfl, hl2, rfl⟩
        simp at hl2
        simp
        refine ⟨by show _ ≤ 16777216; omega, ?_⟩
        have := kk (0 :: (beads.length : Int) :: (M ++ ms)) b (h.mono (by simp))
        simpa [dI] using this
theorem pl_site {r : Int} {ds : List (Int × Int)} {cs : List Int} {beads looks} {mr wide : Int} {o : Bool} (h : HouseI r ds mr wide) (h1 : mr ≤ 100) (h2 : wide ≤ 100) (hc : (cs.length : Int) = r) (hc2 : ∀ c ∈ cs, 0 ≤ c ∧ c ≤ 10 ^ 18)
    (hb : ∀ q ∈ beads, q.1.natAbs ≤ 1000 ∧ q.2.natAbs ≤ 1000) (hbl : beads.length ≤ 1000) (hq : ∀ q ∈ looks, LookI r 1000 (2 * 10 ^ 20) q) (hql : looks.length ≤ 1000) : Pl (.lst o [houseD r ds, .lst false (dI cs), tapeD beads looks]) 9 20000 := by
  have hr1 := h.r1
  have hr2 := h.r2
  have hl := h.len
  have e1 : Pl (houseD r ds) 8 1000 := (Pl.tup (.cons (k := 7) (n := 1) ((Pl.int (by omega)).mono (by omega) (by omega)) (.cons (k := 7) (n := 310) (m := 0) ((Pl.lstA (k := 1) (n := 3) (m := 100) (fun x hx => by
    obtain ⟨p, hp, rfl⟩ := List.mem_map.mp hx
    have := h.ok p hp
    exact pl_pair ⟨by omega, by omega⟩) (by simp; omega)).mono (by omega) (by omega)) .nil))).mono (by omega) (by omega)
  have e2 : Pl (.lst false (dI cs)) 8 200 := (Pl.lstA (k := 0) (n := 1) (m := 100) (fun x hx => by
    obtain ⟨p, hp, rfl⟩ := List.mem_map.mp hx
    have := hc2 p hp
    exact Pl.int (by omega)) (by simp; omega)).mono (by omega) (by omega)
  have e3 : Pl (tapeD beads looks) 8 10000 := (Pl.tup (.cons (k := 7) (n := 3001) ((Pl.lstA (k := 1) (n := 3) (m := 1000) (fun x hx => by
    obtain ⟨p, hp, rfl⟩ := List.mem_map.mp hx
    have := hb p hp
    exact pl_pair ⟨by omega, by omega⟩) (by simp; omega)).mono (by omega) (by omega)) (.cons (k := 7) (n := 5001) (m := 0) ((Pl.lstA (k := 1) (n := 5) (m := 1000) (fun x hx => by
    obtain ⟨q, hp, rfl⟩ := List.mem_map.mp hx
    have := hq q hp
    unfold LookI at this
    exact .tup (.cons (.int (by omega)) (.cons (.int (by omega)) (.cons (.int (by omega)) (.cons (.int (by omega)) .nil))))) (by simp; omega)).mono (by omega) (by omega)) .nil))).mono (by omega) (by omega)
  exact (Pl.lst (.cons e1 (.cons e2 (.cons e3 .nil)))).mono (by omega) (by omega)
theorem right_ok {r : Int} {ds : List (Int × Int)} {cs ms : List Int} {beads looks} {R : D → En → Prop} (A : Asked r ds cs beads looks) (hr0 : 1 ≤ r) (hr : r ≤ 100) (hpl : ∀ o, Pl (.lst o [houseD r ds, .lst false (dI cs), tapeD beads looks]) 9 20000)
    (k : R (.bl true) [some (houseD r ds), some (.lst false (dI cs)), some (tapeD beads looks), some (.lst false (dI ms))]) : F_law_right [houseD r ds, .lst false (dI cs), tapeD beads looks, .lst false (dI ms)] R := by
  refine ⟨rfl, ?_⟩
  show wb_law_right [some (houseD r ds), some (.lst false (dI cs)), some (tapeD beads looks), some (.lst false (dI ms)), none, none, none, none] _
  unfold wb_law_right
  simp
  refine (hpl true).repr rfl (by decide) (by decide) ?_
  simp
  refine ⟨by omega, by omega, ?_⟩
  unfold rng
  generalize hS : (D.lst true [houseD r ds, .lst false (dI cs), tapeD beads looks]).py.shown = S
  refine loopD_all _ _ (fun _ env => ∃ o5 o6 o7, env = [some (houseD r ds), some (.lst false (dI cs)), some (tapeD beads looks), some (.lst false (dI ms)), some (.str S), o5, o6, o7]) ⟨_, _, _, rfl⟩ ?_ ?_
  · rintro done x rest e env ⟨o5, o6, o7, rfl⟩ K kk
    have hx := range_done e
    have x0 : (0 : Int) ≤ (x : Int) := by omega
    have x1 : (x : Int) < r := by omega
    simp
    refine loopD_all (fun n => D.sc (V.int n)) ms (fun _ env => ∃ o6 o7, env = [some (houseD r ds), some (.lst false (dI cs)), some (tapeD beads looks), some (.lst false (dI ms)), some (.str S), some (.int (x : Int)), o6, o7]) ⟨_, _, rfl⟩ ?_ ?_
    · rintro done2 y rest2 e2 env ⟨o6, o7, rfl⟩ K2 kk2
      simp
      refine outs_ok A x0 x1 ?_
      simp
      refine least_ok A x0 x1 ?_
      simp
      refine whole_ok ?_
      simp
      refine most_ok A x0 x1 ?_
      simp
      refine whole_ok ?_
      simp
      refine least_ok A x0 x1 ?_
      simp
      refine most_ok A x0 x1 ?_
      simp
      exact kk2 _ ⟨_, _, rfl⟩
    · rintro env ⟨o6, o7, rfl⟩
      exact kk _ ⟨_, _, _, rfl⟩
  · rintro env ⟨o5, o6, o7, rfl⟩
    simp
    refine (hpl true).repr rfl (by decide) (by decide) ?_
    rw [hS]
    simp
    have := (hpl true).shpS
    rw [hS] at this
    exact ⟨this, k⟩
theorem sl_quad {q} {R : D → Prop} : rdSl (quadD q) none (some 2) R = R (.tup [.int q.1, .int q.2.1]) := by
  show (_ ∧ ¬ _ ∧ _) = _
  apply propext
  constructor
  · exact fun h => h.2.2
  · exact fun h => ⟨rfl, by show ¬ (_ ∧ (2 : Nat) = 4); omega, h⟩
theorem law_ok : LawOk 63 F_law := by
  intro ns hl
  refine ⟨rfl, ?_⟩
  show wb_law [some (.obj false .sq (dI ns)), none, none, none, none, none, none, none, none, none, none] _
  unfold wb_law
  simp
  refine ⟨by split <;> omega, by split <;> omega, ?_⟩
  have hlen : (if 1 < (if (ns.length : Int) < 12 then (ns.length : Int) else 12) then (if (ns.length : Int) < 12 then (ns.length : Int) else 12) else 1).toNat ≤ 63 := by split <;> split <;> omega
  generalize (if 1 < (if (ns.length : Int) < 12 then (ns.length : Int) else 12) then (if (ns.length : Int) < 12 then (ns.length : Int) else 12) else 1).toNat = N at *
  unfold rng
  refine loopD_all _ _ (fun _ env => ∃ q1 q2 q3 q4 q5 q6 q7 q8 q9 q10, env = [some (.obj false .sq (dI ns)), q1, q2, q3, q4, q5, q6, q7, q8, q9, q10]) ⟨_, _, _, _, _, _, _, _, _, _, rfl⟩ ?_ ?_
  · rintro done x rest e env ⟨q1, q2, q3, q4, q5, q6, q7, q8, q9, q10, rfl⟩ K kk
    have hx := range_done e
    simp
    refine jug_ok (by omega) fun b h => ?_
    simp
    refine house_ok h (by omega) (by decide) (by decide) (by decide) (by decide) fun r ds b h hh => ?_
    have hr1 := hh.r1
    have hr2 := hh.r2
    have hdl := hh.len
    simp
    refine folk_ok h (by omega) hh (by decide) fun cs b h hc hc2 => ?_
    simp
    refine dip_ok h (by omega) (by decide) (by decide) fun v b h a0 a1 => ?_
    simp
    refine atI_exI (ns := [10, 10, 200]) rfl a0 a1 fun most _ hm => ?_
    replace hm : 0 ≤ most ∧ most ≤ 200 := by simp at hm; omega
    simp
    refine gone_ok h (by omega) hh (by decide) hc hc2 hm.1 (by omega) fun moves rows b h hg => ?_
    have hgl := hg.len
    have hgm := hg.most
    simp
    refine dip_ok h (by omega) (by decide) (by decide) fun n b h a2 a3 => ?_
    simp
    refine ⟨by omega, by omega, ?_⟩
    unfold rng
    refine compD_inv _ (fun done acc env => ∃ b o9 ls, Jug (2000 + 6 * done.length) b ∧ acc = looksD ls ∧ ls.length = done.length ∧ (∀ q ∈ ls, LookI r rows.length (10 ^ 20) q) ∧ env = [some (.obj false .sq (dI ns)), some (.int (x : Int)), some b, some (houseD r ds), some (.lst false (dI cs)), some (.lst false (doorsD moves)), some (.lst false (rowsD rows)), q7, q8, o9, q10]) (List.range n.toNat) ?_ ?_ ?_ ?_ _ [] _ _ rfl ⟨b, _, [], h.mono (by simp), rfl, rfl, by simp, rfl⟩
    · show _ ≤ 16777216; simp; omega
    · rintro done acc env ⟨b, o9, ls, _, rfl, hl, _⟩; simp [hl]
    · rintro done2 y rest2 e2 acc env ⟨b, o9, ls, h, rfl, hl2, hls, rfl⟩ K2 kn ks
      have hy := range_done e2
      simp
      refine look_ok h (by omega) hh (by decide) hg (by omega) fun q b h hq => ?_
      simp
      refine ks _ _ ⟨b, _, ls ++ [q], h.mono (by simp; omega), by simp [looksD], by simp [hl2], ?_, rfl⟩
      intro z hz
      rcases List.mem_append.mp hz with hz | hz
      · exact hls z hz
      · rw [List.mem_singleton.mp hz]; exact hq
    · rintro acc env ⟨b, o9, ls, h, rfl, hl2, hls, rfl⟩
      simp at hl2 h
      simp
      refine dip_ok h (by omega) (by decide) (by decide) fun m b h a4 a5 => ?_
      simp
      rw [show cutD (looksD ls) none (some m) = (cutD ls none (some m)).map quadD from cutD_map _ _ _ _, frzL_mapE fz_quad]
      have hcl := cutD_len ls none (some m)
      refine compD_map quadD (cutD ls none (some m)) (fun env => ∃ o10, env = [some (.obj false .sq (dI ns)), some (.int (x : Int)), some b, some (houseD r ds), some (.lst false (dI cs)), some (.lst false (doorsD moves)), some (.lst false (rowsD rows)), some (.lst false (looksD ls)), q8, fzO (some q9), o10]) (fun q => quadD (q.1, q.2.1, q.2.2.1 + 1, q.2.2.2 - 1)) (by show _ ≤ 16777216; omega) ⟨_, rfl⟩ ?_ ?_
      · rintro q hq env ⟨o10, rfl⟩ K2 kk2
        simp [sl_quad]
        exact kk2 _ ⟨_, rfl⟩
      · rintro env ⟨o10, rfl⟩
        rw [show (cutD ls none (some m)).map (fun q => quadD (q.1, q.2.1, q.2.2.1 + 1, q.2.2.2 - 1)) = looksD ((cutD ls none (some m)).map fun q => (q.1, q.2.1, q.2.2.1 + 1, q.2.2.2 - 1)) by simp [looksD]]
        have hl3 : ((cutD ls none (some m)).map fun q => (q.1, q.2.1, q.2.2.1 + 1, q.2.2.2 - 1)).length ≤ 6 := by rw [List.length_map]; omega
        have hls3 : ∀ q ∈ (cutD ls none (some m)).map (fun q => (q.1, q.2.1, q.2.2.1 + 1, q.2.2.2 - 1)), LookI r 1000 (2 * 10 ^ 20) q := by
          intro q hq
          obtain ⟨z, hz, rfl⟩ := List.mem_map.mp hq
          have := hls z (cutD_mem hz)
          simp only [LookI] at this ⊢
          omega
        generalize (cutD ls none (some m)).map (fun q => (q.1, q.2.1, q.2.2.1 + 1, q.2.2.2 - 1)) = ls3 at *
        simp
        refine ⟨by show _ ≤ 16777216; omega, ?_⟩
        rw [show looksD ls ++ looksD ls3 = looksD (ls ++ ls3) by simp [looksD]]
        have hls4 : ∀ q ∈ ls ++ ls3, LookI r 1000 (2 * 10 ^ 20) q := by
          intro q hq
          rcases List.mem_append.mp hq with hq | hq
          · have := hls q hq
            unfold LookI at this ⊢
            omega
          · exact hls3 q hq
        have hl4 : (ls ++ ls3).length ≤ 12 := by simp; omega
        generalize ls ++ ls3 = looks at *
        simp
        refine hidden_ok h (by omega) (by omega) fun sel b h hsel => ?_
        have hbd : ∀ q ∈ (moves.zip sel).map hid, 0 ≤ q.1 ∧ q.1 < ds.length ∧ -1 ≤ q.2 ∧ q.2 < 2 := by
          intro q hq
          obtain ⟨z, hz, rfl⟩ := List.mem_map.mp hq
          have := hg.mv z.1 (List.of_mem_zip hz).1
          unfold hid
          split <;> omega
        have hbl : ((moves.zip sel).map hid).length ≤ 1000 := by simp; omega
        generalize (moves.zip sel).map hid = beads at *
        simp
        rw [show D.tup [D.obj false Sh.lst (doorsD beads), D.obj false Sh.lst (looksD looks)] = tapeD beads looks from rfl]
        refine moments_ok h (by omega) hbl (by omega) fun ms b h => ?_
        simp
        refine right_ok ⟨fun q hq => by have := hbd q hq; omega, hbl, by omega, hc⟩ hr1 (by omega) (fun o => pl_site hh (by decide) (by decide) hc hc2 (fun q hq => by have := hbd q hq; omega) hbl hls4 (by omega)) ?_
        simp
        exact kk _ ⟨_, _, _, _, _, _, _, _, _, _, rfl⟩
  · rintro env ⟨q1, q2, q3, q4, q5, q6, q7, q8, q9, q10, rfl⟩
    simp
end LAW_K41

/-! what each def of the law computes, by data (printed by gen.py) -/
namespace LAW_K42
open PySem L2 PL

/- story_right: 0 house 1 begin 2 tape 3 ways 4 beads 5 looks 6 here 7 rows 8 door 9 seen 10 way 11 moment 12 room 13 low 14 high -/
def wb_story_right : WS :=
  (sSeq (sAsg (wVal 2) (gTp 2 (gsCons (gFz 4) (gsCons (gFz 5) gsNil))))
    (sSeq (sIf (wTst (wBin rdNe (wCB rdLen (aCons (wVal 3) aNil)) (wCB rdLen (aCons (wVal 4) aNil)))) (sRet (wC (.bl false))) sNext)
    (sSeq (sAsg (wCB rdList (aCons (wVal 1) aNil)) (gNm 6))
    (sSeq (sAsg (wLst (aCons (wCB rdList (aCons (wVal 1) aNil)) aNil)) (gNm 7))
    (sSeq (sFor (iZp (aCons (wVal 4) (aCons (wVal 3) aNil))) (gTp 2 (gsCons (gTp 2 (gsCons (gFz 8) (gsCons (gFz 9) gsNil))) (gsCons (gFz 10) gsNil))) (sSeq (sIf (wOr (wTst (wBin (rdIn true) (wVal 10) (wTup (aCons (wC (.int 0)) (aCons (wC (.int 1)) aNil))))) (wTst (wBin (rdIn true) (wVal 9) (wTup (aCons (wC (.int (-1))) (aCons (wVal 10) aNil)))))) (sRet (wC (.bl false))) sNext)
    (sSeq (sAugIx (rdI0 fun i j => .int (i - j)) (mName 6) (wBin rdIx (wBin rdIx (wBin rdIx (wVal 0) (wC (.int 1))) (wVal 8)) (wVal 10)) (wC (.int 1)))
    (sSeq (sAugIx (rdI0 fun i j => .int (i + j)) (mName 6) (wBin rdIx (wBin rdIx (wBin rdIx (wVal 0) (wC (.int 1))) (wVal 8)) (wBin rdSub (wC (.int 1)) (wVal 10))) (wC (.int 1)))
    (sSeq (sIf (wTst (wBin rdLt (wCBB rdMinL (bCons (bName 6) bNil)) (wC (.int 0)))) (sRet (wC (.bl false))) sNext)
    (sDrop (wAppN false 7 (wCBB rdList (bCons (bName 6) bNil)))))))))
    (sRet (wCB rdAll (aCons (wComp false (iSeq (wVal 5)) [11, 12, 13, 14] (gTp 4 (gsCons (gNm 11) (gsCons (gNm 12) (gsCons (gNm 13) (gsCons (gNm 14) gsNil))))) wYes (wChain rdLe rdLe (wVal 13) (wBinBE rdIx (bIx (bName 7) (wVal 11)) (wVal 12)) (wVal 14))) aNil))))))))
def F_story_right : WF := fnW [true, true, true, true] 11 wb_story_right

/- _law_jug: 0 script 1 k 2 cell -/
def wb_law_jug : WS :=
  (sSeq (sAsg (wIf (wTst (wBin rdLt (wVal 1) (wCB rdLen (aCons (wVal 0) aNil)))) (wBin rdIx (wVal 0) (wVal 1)) (wC (.int 0))) (gFz 2))
    (sRet (wLst (aCons (wCB rdMax2 (aCons (wC (.int 0)) (aCons (wBin rdSub (wVal 2) (wBin rdPow (wC (.int 10)) (wC (.int 18)))) aNil))) (aCons (wBin rdAdd (wBin rdMul (wBin rdMod (wVal 2) (wBin rdAdd (wBin rdPow (wC (.int 10)) (wC (.int 34))) (wC (.int 193)))) (wC (.int 64))) (wVal 1)) (aCons (wC (.int 0)) aNil))))))
def F_law_jug : WF := fnW [true, true] 1 wb_law_jug

/- _law_dip: 0 jug 1 many 2 found 3 mixed -/
def wb_law_dip : WS :=
  (sSeq (sIf (wTst (wBinBE rdGt (bIx (bName 0) (wC (.int 0))) (wC (.int 0)))) (sSeq (sAsg (wBinBE rdMod (bIx (bName 0) (wC (.int 0))) (wVal 1)) (gFz 2))
    (sSeq (sSetIx false (wBinBE rdFdiv (bIx (bName 0) (wC (.int 0))) (wVal 1)) (mName 0) (wC (.int 0)))
    (sRet (wVal 2)))) sNext)
    (sSeq (sSetIx false (wBinBE rdAdd (bIx (bName 0) (wC (.int 2))) (wC (.int 1))) (mName 0) (wC (.int 2)))
    (sSeq (sAsg (wBin rdMod (wBin rdPow (wBinBE rdAdd (bIx (bName 0) (wC (.int 1))) (wBinEB rdMul (wC (.int 7368787)) (bIx (bName 0) (wC (.int 2))))) (wC (.int 3))) (wBin rdAdd (wBin rdPow (wC (.int 10)) (wC (.int 36))) (wC (.int 67)))) (gFz 3))
    (sSeq (sAsg (wBin rdMod (wBin rdPow (wBin rdAdd (wVal 3) (wBinEB rdMul (wC (.int 15485863)) (bIx (bName 0) (wC (.int 2))))) (wC (.int 5))) (wBin rdAdd (wBin rdPow (wC (.int 10)) (wC (.int 38))) (wC (.int 133)))) (gFz 3))
    (sRet (wBin rdMod (wBin rdFdiv (wVal 3) (wC (.int 65536))) (wVal 1)))))))
def F_law_dip : WF := fnW [true, true] 2 wb_law_dip

/- _law_house: 0 jug 1 most 2 more 3 rooms 4 doors 5 k 6 one -/
def wb_law_house : WS :=
  (sSeq (sAsg (wBin rdIx (wLst (aCons (wBin rdAdd (wC (.int 1)) (wCall F_law_dip (cRef 0 (cValF (wVal 1) cNil)))) (aCons (wBin rdAdd (wC (.int 2)) (wCall F_law_dip (cRef 0 (cValF (wBin rdSub (wVal 1) (wC (.int 1))) cNil)))) aNil))) (wCB rdInt1 (aCons (wBin rdGt (wCall F_law_dip (cRef 0 (cValF (wC (.int 4)) cNil))) (wC (.int 0))) aNil))) (gFz 3))
    (sSeq (sAsg (wLst aNil) (gNm 4))
    (sSeq (sFor (iRng (aCons (wBin rdMul (wBin rdAdd (wC (.int 1)) (wCall F_law_dip (cRef 0 (cValF (wBin rdSub (wVal 2) (wC (.int 1))) cNil)))) (wCB rdInt1 (aCons (wBin rdGt (wVal 3) (wC (.int 1))) aNil))) aNil)) (gFz 5) (sSeq (sAsg (wCall F_law_dip (cRef 0 (cValF (wVal 3) cNil))) (gFz 6))
    (sDrop (wAppN false 4 (wTup (aCons (wVal 6) (aCons (wBin rdMod (wBin rdAdd (wBin rdAdd (wVal 6) (wC (.int 1))) (wCall F_law_dip (cRef 0 (cValF (wBin rdSub (wVal 3) (wC (.int 1))) cNil)))) (wVal 3)) aNil)))))))
    (sRet (wTup (aCons (wVal 3) (aCons (wVar 4) aNil)))))))
def F_law_house : WF := fnW [true, true, true] 4 wb_law_house

/- _law_folk: 0 jug 1 home 2 few 3 spot -/
def wb_law_folk : WS :=
  (sSeq (sAsg (wBin rdIx (wLst (aCons (wC (.int 1)) (aCons (wC (.int 2)) (aCons (wC (.int 2)) (aCons (wC (.int 4)) (aCons (wBin rdPow (wC (.int 10)) (wC (.int 18))) aNil)))))) (wCall F_law_dip (cRef 0 (cValF (wC (.int 5)) cNil)))) (gFz 2))
    (sRet (wComp false (iRng (aCons (wBin rdIx (wVal 1) (wC (.int 0))) aNil)) [3] (gNm 3) wYes (wCall F_law_dip (cRef 0 (cValF (wBin rdAdd (wVal 2) (wC (.int 1))) cNil))))))
def F_law_folk : WF := fnW [true, true] 2 wb_law_folk

/- _law_gone: 0 jug 1 home 2 start 3 most 4 here 5 moves 6 rows 7 k 8 door 9 side 10 pair -/
def wb_law_gone : WS :=
  (sSeq (sAsg (wCB rdList (aCons (wVal 2) aNil)) (gNm 4))
    (sSeq (sAsg (wLst aNil) (gNm 5))
    (sSeq (sAsg (wLst (aCons (wCB rdList (aCons (wVal 2) aNil)) aNil)) (gNm 6))
    (sSeq (sFor (iRng (aCons (wBin rdMul (wCall F_law_dip (cRef 0 (cValF (wBin rdAdd (wVal 3) (wC (.int 1))) cNil))) (wCB rdInt1 (aCons (wBin rdNe (wBin rdIx (wVal 1) (wC (.int 1))) (wLst aNil)) aNil))) aNil)) (gFz 7) (sSeq (sPar 8 9 (aCons (wCall F_law_dip (cRef 0 (cValF (wCB rdLen (aCons (wBin rdIx (wVal 1) (wC (.int 1))) aNil)) cNil))) (aCons (wCall F_law_dip (cRef 0 (cValF (wC (.int 2)) cNil))) aNil)))
    (sSeq (sAsg (wBin rdIx (wBin rdIx (wVal 1) (wC (.int 1))) (wVal 8)) (gFz 10))
    (sSeq (sIf (wTst (wBinBE rdEq (bIx (bName 4) (wBin rdIx (wVal 10) (wVal 9))) (wC (.int 0)))) (sAsg (wBin rdSub (wC (.int 1)) (wVal 9)) (gFz 9)) sNext)
    (sIf (wTst (wBinBE rdGt (bIx (bName 4) (wBin rdIx (wVal 10) (wVal 9))) (wC (.int 0)))) (sSeq (sSetIx false (wBinBE rdSub (bIx (bName 4) (wBin rdIx (wVal 10) (wVal 9))) (wC (.int 1))) (mName 4) (wBin rdIx (wVal 10) (wVal 9)))
    (sSeq (sSetIx false (wBinBE rdAdd (bIx (bName 4) (wBin rdIx (wVal 10) (wBin rdSub (wC (.int 1)) (wVal 9)))) (wC (.int 1))) (mName 4) (wBin rdIx (wVal 10) (wBin rdSub (wC (.int 1)) (wVal 9))))
    (sSeq (sDrop (wAppN false 5 (wTup (aCons (wVal 8) (aCons (wVal 9) aNil)))))
    (sDrop (wAppN false 6 (wCBB rdList (bCons (bName 4) bNil))))))) sNext)))))
    (sRet (wTup (aCons (wVar 5) (aCons (wVar 6) aNil))))))))
def F_law_gone : WF := fnW [true, true, true, true] 7 wb_law_gone

/- _law_hidden: 0 jug 1 moves 2 often 3 door 4 side -/
def wb_law_hidden : WS :=
  (sSeq (sAsg (wBin rdIx (wLst (aCons (wC (.int 2)) (aCons (wC (.int 5)) (aCons (wC (.int 9)) aNil)))) (wCall F_law_dip (cRef 0 (cValF (wC (.int 3)) cNil)))) (gFz 2))
    (sRet (wComp false (iSeq (wVal 1)) [3, 4] (gTp 2 (gsCons (gNm 3) (gsCons (gNm 4) gsNil))) wYes (wTup (aCons (wVal 3) (aCons (wIf (wTst (wBin rdEq (wCall F_law_dip (cRef 0 (cValF (wVal 2) cNil))) (wC (.int 0)))) (wVal 4) (wNeg (wC (.int 1)))) aNil))))))
def F_law_hidden : WF := fnW [true, true] 3 wb_law_hidden

/- _law_look: 0 jug 1 home 2 rows 3 when 4 spot 5 number 6 kind 7 some -/
def wb_law_look : WS :=
  (sSeq (sPar 3 4 (aCons (wCall F_law_dip (cRef 0 (cValF (wCB rdLen (aCons (wVal 2) aNil)) cNil))) (aCons (wCall F_law_dip (cRef 0 (cValF (wBin rdIx (wVal 1) (wC (.int 0))) cNil))) aNil)))
    (sSeq (sAsg (wBin rdIx (wBin rdIx (wVal 2) (wVal 3)) (wVal 4)) (gFz 5))
    (sSeq (sAsg (wCall F_law_dip (cRef 0 (cValF (wC (.int 8)) cNil))) (gFz 6))
    (sSeq (sIf (wTst (wBin rdLt (wVal 6) (wC (.int 4)))) (sRet (wTup (aCons (wVal 3) (aCons (wVal 4) (aCons (wBin rdSub (wVal 5) (wCall F_law_dip (cRef 0 (cValF (wC (.int 3)) cNil)))) (aCons (wBin rdAdd (wVal 5) (wCall F_law_dip (cRef 0 (cValF (wC (.int 3)) cNil)))) aNil)))))) sNext)
    (sSeq (sIf (wTst (wBin rdLt (wVal 6) (wC (.int 6)))) (sRet (wTup (aCons (wVal 3) (aCons (wVal 4) (aCons (wBin rdSub (wBin rdAdd (wVal 5) (wC (.int 1))) (wCall F_law_dip (cRef 0 (cValF (wC (.int 3)) cNil)))) (aCons (wBin rdAdd (wVal 5) (wC (.int 1))) aNil)))))) sNext)
    (sSeq (sAsg (wLst (aCons (wTup (aCons (wC (.int 0)) (aCons (wC (.int 0)) aNil))) (aCons (wTup (aCons (wC (.int 1)) (aCons (wBin rdPow (wC (.int 10)) (wC (.int 19))) aNil))) (aCons (wTup (aCons (wBin rdSub (wC (.int 0)) (wBin rdPow (wC (.int 10)) (wC (.int 19)))) (aCons (wC (.int 0)) aNil))) (aCons (wTup (aCons (wC (.int 3)) (aCons (wC (.int 1)) aNil))) (aCons (wTup (aCons (wNeg (wC (.int 3))) (aCons (wNeg (wC (.int 1))) aNil))) (aCons (wTup (aCons (wBin rdPow (wC (.int 10)) (wC (.int 19))) (aCons (wBin rdPow (wC (.int 10)) (wC (.int 19))) aNil))) aNil))))))) (gFz 7))
    (sRet (wBin rdAdd (wTup (aCons (wVal 3) (aCons (wVal 4) aNil))) (wBin rdIx (wVal 7) (wCall F_law_dip (cRef 0 (cValF (wC (.int 6)) cNil))))))))))))
def F_law_look : WF := fnW [true, true, true] 5 wb_law_look

/- _law_stands: 0 home 1 start 2 reel 3 track 4 rows 5 k 6 bead 7 here 8 pair 9 look -/
def wb_law_stands : WS :=
  (sSeq (sIf (wTst (wBin rdNe (wCB rdLen (aCons (wVal 3) aNil)) (wCB rdLen (aCons (wBin rdIx (wVal 2) (wC (.int 0))) aNil)))) (sRet (wC (.bl false))) sNext)
    (sSeq (sAsg (wLst (aCons (wCB rdList (aCons (wVal 1) aNil)) aNil)) (gNm 4))
    (sSeq (sFor (iEnm (aCons (wBin rdIx (wVal 2) (wC (.int 0))) aNil)) (gTp 2 (gsCons (gFz 5) (gsCons (gFz 6) gsNil))) (sSeq (sIf (wOr (wTst (wBin (rdIn true) (wBin rdIx (wVal 3) (wVal 5)) (wLst (aCons (wC (.int 0)) (aCons (wC (.int 1)) aNil))))) (wTst (wBin (rdIn true) (wBin rdIx (wVal 6) (wC (.int 1))) (wLst (aCons (wNeg (wC (.int 1))) (aCons (wBin rdIx (wVal 3) (wVal 5)) aNil)))))) (sRet (wC (.bl false))) sNext)
    (sSeq (sAsg (wCBB rdList (bCons (bIx (bName 4) (wVal 5)) bNil)) (gNm 7))
    (sSeq (sAsg (wBin rdIx (wBin rdIx (wVal 0) (wC (.int 1))) (wBin rdIx (wVal 6) (wC (.int 0)))) (gFz 8))
    (sSeq (sSetIx false (wBinBE rdSub (bIx (bName 7) (wBin rdIx (wVal 8) (wBin rdIx (wVal 3) (wVal 5)))) (wC (.int 1))) (mName 7) (wBin rdIx (wVal 8) (wBin rdIx (wVal 3) (wVal 5))))
    (sSeq (sSetIx false (wBinBE rdAdd (bIx (bName 7) (wBin rdIx (wVal 8) (wBin rdSub (wC (.int 1)) (wBin rdIx (wVal 3) (wVal 5))))) (wC (.int 1))) (mName 7) (wBin rdIx (wVal 8) (wBin rdSub (wC (.int 1)) (wBin rdIx (wVal 3) (wVal 5)))))
    (sSeq (sIf (wTst (wBin rdLt (wCBB rdMinL (bCons (bName 7) bNil)) (wC (.int 0)))) (sRet (wC (.bl false))) sNext)
    (sDrop (wAppN false 4 (wVar 7))))))))))
    (sRet (wBin rdEq (wComp false (iSeq (wBin rdIx (wVal 2) (wC (.int 1)))) [9] (gNm 9) (wNot (wTst (wChain rdLe rdLe (wBin rdIx (wVal 9) (wC (.int 2))) (wBinBE rdIx (bIx (bName 4) (wBin rdIx (wVal 9) (wC (.int 0)))) (wBin rdIx (wVal 9) (wC (.int 1)))) (wBin rdIx (wVal 9) (wC (.int 3)))))) (wVal 9)) (wLst aNil))))))
def F_law_stands : WF := fnW [true, true, true, true] 6 wb_law_stands

/- _law_bent: 0 jug 1 track 2 at 3 to 4 kind 5 odd 6 side 7 k -/
def wb_law_bent : WS :=
  (sSeq (sAsg (wTup (aCons (wCall F_law_dip (cRef 0 (cValF (wBin rdAdd (wCB rdLen (aCons (wVal 1) aNil)) (wC (.int 1))) cNil))) (aCons (wCall F_law_dip (cRef 0 (cValF (wBin rdAdd (wCB rdLen (aCons (wVal 1) aNil)) (wC (.int 1))) cNil))) aNil))) (gTp 2 (gsCons (gFz 2) (gsCons (gFz 3) gsNil))))
    (sSeq (sAsg (wCall F_law_dip (cRef 0 (cValF (wC (.int 8)) cNil))) (gFz 4))
    (sSeq (sAsg (wBin rdIx (wLst (aCons (wC (.int 0)) (aCons (wC (.int 1)) (aCons (wC (.int 2)) (aCons (wNeg (wC (.int 1))) (aCons (wBin rdPow (wC (.int 10)) (wC (.int 19))) (aCons (wNeg (wC (.int 2))) aNil))))))) (wCall F_law_dip (cRef 0 (cValF (wC (.int 6)) cNil)))) (gFz 5))
    (sSeq (sIf (wTst (wBin rdEq (wVal 4) (wC (.int 0)))) (sRet (wBin rdAdd (wBin rdAdd (wSl (wVal 1) oNo (oSo (wVal 2))) (wLst (aCons (wVal 5) aNil))) (wSl (wVal 1) (oSo (wVal 2)) oNo))) sNext)
    (sSeq (sIf (wTst (wBin rdEq (wVal 4) (wC (.int 1)))) (sRet (wBin rdAdd (wSl (wVal 1) oNo (oSo (wVal 2))) (wSl (wVal 1) (oSo (wBin rdAdd (wVal 2) (wC (.int 1)))) oNo))) sNext)
    (sSeq (sIf (wTst (wBin rdEq (wVal 4) (wC (.int 2)))) (sRet (wBin rdAdd (wBin rdAdd (wSl (wVal 1) oNo (oSo (wVal 2))) (wLst (aCons (wVal 5) aNil))) (wSl (wVal 1) (oSo (wBin rdAdd (wVal 2) (wC (.int 1)))) oNo))) sNext)
    (sSeq (sIf (wTst (wBin rdEq (wVal 4) (wC (.int 3)))) (sRet (wBin rdAdd (wBin rdAdd (wSl (wVal 1) oNo (oSo (wVal 2))) (wRev (wSl (wVal 1) (oSo (wVal 2)) (oSo (wBin rdAdd (wVal 2) (wC (.int 2))))))) (wSl (wVal 1) (oSo (wBin rdAdd (wVal 2) (wC (.int 2)))) oNo))) sNext)
    (sSeq (sIf (wTst (wBin rdEq (wVal 4) (wC (.int 4)))) (sRet (wComp false (iSeq (wVal 1)) [6] (gNm 6) wYes (wBin rdSub (wC (.int 1)) (wVal 6)))) sNext)
    (sRet (wComp false (iRng (aCons (wCB rdLen (aCons (wVal 1) aNil)) aNil)) [7] (gNm 7) wYes (wIf (wTst (wBin (rdIn false) (wVal 7) (wLst (aCons (wVal 2) (aCons (wBin rdIx (wLst (aCons (wVal 2) (aCons (wVal 3) aNil))) (wBin rdMod (wVal 4) (wC (.int 2)))) aNil))))) (wBin rdSub (wC (.int 1)) (wBin rdIx (wVal 1) (wVal 7))) (wBin rdIx (wVal 1) (wVal 7)))))))))))))
def F_law_bent : WF := fnW [true, true] 6 wb_law_bent

/- _law_right: 0 home 1 start 2 reel 3 track 4 kept 5 due 6 answer 7 good 8 one -/
def wb_law_right : WS :=
  (sSeq (sAsg (wCB rdRepr (aCons (wLst (aCons (wVal 2) (aCons (wVal 3) aNil))) aNil)) (gFz 4))
    (sSeq (sAsg (wCall F_law_stands (cValF (wVal 0) (cValF (wVal 1) (cValF (wVal 2) (cValF (wVal 3) cNil))))) (gFz 5))
    (sSeq (sAsg (wLst (aCons (wCall F_story_right (cValF (wVal 0) (cValF (wVal 1) (cValF (wVal 2) (cValF (wVal 3) cNil))))) (aCons (wCallK 0 4 [3, 2, 1, 0] F_story_right cNil (cValF (wVal 3) (cValF (wVal 2) (cValF (wVal 1) (cValF (wVal 0) cNil))))) aNil))) (gFz 6))
    (sSeq (sAsg (wComp false (iSeq (wVal 6)) [8] (gNm 8) (wAnd (wTst (wCB rdIsi (aCons (wVal 8) (aCons (wC (.sc (.ty "bool"))) aNil)))) (wTst (wBin rdEq (wVal 8) (wVal 5)))) (wVal 8)) (gFz 7))
    (sRet (wAndV (wBin rdEq (wCB rdLen (aCons (wVal 7) aNil)) (wC (.int 2))) (wBin rdEq (wCB rdRepr (aCons (wLst (aCons (wVal 2) (aCons (wVal 3) aNil))) aNil)) (wVal 4))))))))
def F_law_right : WF := fnW [true, true, true, true] 5 wb_law_right

/- law: 0 script 1 k 2 jug 3 home 4 start 5 moves 6 rows 7 true_ones 8 reel 9 turn 10 track 11 one 12 door 13 side -/
def wb_law : WS :=
  (sSeq (sFor (iRng (aCons (wCB rdMax2 (aCons (wC (.int 1)) (aCons (wCB rdMin2 (aCons (wC (.int 10)) (aCons (wCB rdLen (aCons (wVal 0) aNil)) aNil))) aNil))) aNil)) (gFz 1) (sSeq (sAsg (wCall F_law_jug (cValF (wVal 0) (cValF (wVal 1) cNil))) (gNm 2))
    (sSeq (sAsg (wCall F_law_house (cRef 2 (cValF (wC (.int 5)) (cValF (wC (.int 7)) cNil)))) (gFz 3))
    (sSeq (sAsg (wCall F_law_folk (cRef 2 (cValF (wVal 3) cNil))) (gFz 4))
    (sSeq (sAsg (wCall F_law_gone (cRef 2 (cValF (wVal 3) (cValF (wVal 4) (cValF (wC (.int 12)) cNil))))) (gTp 2 (gsCons (gFz 5) (gsCons (gFz 6) gsNil))))
    (sSeq (sAsg (wComp false (iSeq (wVal 5)) [12, 13] (gTp 2 (gsCons (gNm 12) (gsCons (gNm 13) gsNil))) wYes (wVal 13)) (gFz 7))
    (sSeq (sAsg (wTup (aCons (wCall F_law_hidden (cRef 2 (cValF (wVal 5) cNil))) (aCons (wLst aNil) aNil))) (gFz 8))
    (sFor (iRng (aCons (wC (.int 6)) aNil)) (gFz 9) (sSeq (sAsg (wCall F_law_bent (cRef 2 (cValF (wVal 7) cNil))) (gFz 10))
    (sSeq (sFor (iSeq (wLst (aCons (wVal 7) (aCons (wVal 10) (aCons (wCall F_law_bent (cRef 2 (cValF (wVal 10) cNil))) aNil))))) (gFz 11) (sIf (wNot (wTru (wCall F_law_right (cValF (wVal 3) (cValF (wVal 4) (cValF (wVal 8) (cValF (wVal 11) cNil))))))) (sRet (wC (.bl false))) sNext))
    (sAsg (wTup (aCons (wBin rdIx (wVal 8) (wC (.int 0))) (aCons (wBin rdAdd (wBin rdIx (wVal 8) (wC (.int 1))) (wLst (aCons (wCall F_law_look (cRef 2 (cValF (wVal 3) (cValF (wVal 6) cNil)))) aNil))) aNil))) (gFz 8))))))))))))
    (sRet (wBin rdIsB (wCall F_story_right (cValF (wTup (aCons (wC (.int 2)) (aCons (wLst (aCons (wTup (aCons (wC (.int 0)) (aCons (wC (.int 1)) aNil))) aNil)) aNil))) (cValF (wLst (aCons (wC (.int 1)) (aCons (wC (.int 0)) aNil))) (cValF (wTup (aCons (wLst aNil) (aCons (wLst (aCons (wTup (aCons (wC (.int 0)) (aCons (wC (.int 0)) (aCons (wC (.int 1)) (aCons (wC (.int 1)) aNil))))) aNil)) aNil))) (cValF (wLst aNil) cNil))))) (wC (.bl true)))))
def F_law : WF := fnW [true] 13 wb_law

end LAW_K42

namespace LAW_K42
open PySem L2 PL JUG
theorem dip_ok {k : Nat} {b : D} {many : Int} {R : D → En → Prop} (h : Jug k b) (hk : k < 2 ^ 40) (hm : 0 < many) (hm2 : many < 2 ^ 80)
    (kk : ∀ v b', Jug (k + 1) b' → 0 ≤ v → v < many → R (.int v) [some b', some (.int many)]) : F_law_dip [b, .int many] R := JUG.dip_ok h hk hm hm2 kk
def tapeD (beads : List (Int × Int)) (looks : List (Int × Int × Int × Int)) : D := .tup [.lst false (doorsD beads), .lst false (looksD looks)]
@[simp] theorem fz_tape (a b) : (tapeD a b).fz = true := by simp [tapeD]
@[simp] theorem frz_tape (a b) : (tapeD a b).frz = tapeD a b := by simp [tapeD]
@[simp ↓] theorem tape_0 {a b} {R : D → Prop} : rdIx (tapeD a b) (.sc (.int 0)) R = R (.lst false (doorsD a)) := by simp [tapeD]
@[simp ↓] theorem tape_1 {a b} {R : D → Prop} : rdIx (tapeD a b) (.sc (.int 1)) R = R (.lst false (looksD b)) := by simp [tapeD]
theorem doors_getD {ds : List (Int × Int)} {i : Int} (h0 : 0 ≤ i) (h : i < ds.length) : L2.atI (doorsD ds) i = some (pairD (ds.getD i.toNat (0, 0))) := by
  obtain ⟨p, _, e, e2⟩ := doors_get h0 h
  rw [e2, List.getD_eq_getElem?_getD, e]; rfl
theorem getD_ok {ds : List (Int × Int)} {i : Int} (h0 : 0 ≤ i) (h : i < ds.length) : ds.getD i.toNat (0, 0) ∈ ds := by
  simp [List.getD_eq_getElem?_getD, List.getElem?_eq_getElem (show i.toNat < ds.length by omega)]
/-! the judge -/
def mv (here : List Int) (a b : Nat) : List Int := (here.set a (here.getD a 0 - 1)).set b (here.getD b 0 + 1)
def stepO (ds : List (Int × Int)) (o : Option (List Int × List (List Int))) (q : (Int × Int) × Int) : Option (List Int × List (List Int)) :=
  o.bind fun s => if (q.2 = 0 ∨ q.2 = 1) ∧ (q.1.2 = -1 ∨ q.1.2 = q.2) then
    let p := ds.getD q.1.1.toNat (0, 0)
    let h := if q.2 = 0 then mv s.1 p.1.toNat p.2.toNat else mv s.1 p.2.toNat p.1.toNat
    if h.any (fun c => decide (c < 0)) then none else some (h, s.2 ++ [h])
  else none
def run (ds : List (Int × Int)) (cs : List Int) (l : List ((Int × Int) × Int)) : Option (List Int × List (List Int)) := l.foldl (stepO ds) (some (cs, [cs]))
theorem run_none {ds} : ∀ l : List ((Int × Int) × Int), l.foldl (stepO ds) none = none
  | [] => rfl
  | _ :: l => run_none l
theorem run_snoc {ds cs l x} : run ds cs (l ++ [x]) = stepO ds (run ds cs l) x := by
  unfold run; rw [List.foldl_append]; rfl
theorem run_dead {ds cs done x rest} (h : run ds cs (done ++ [x]) = none) : run ds cs (done ++ x :: rest) = none := by
  have : done ++ x :: rest = (done ++ [x]) ++ rest := by simp
  rw [this]
  unfold run at h ⊢
  rw [List.foldl_append, h]
  exact run_none _
def seen (rows : List (List Int)) (q : Int × Int × Int × Int) : Bool := decide (q.2.2.1 ≤ ((rows.getD q.1.toNat []).getD q.2.1.toNat 0)) && decide (((rows.getD q.1.toNat []).getD q.2.1.toNat 0) ≤ q.2.2.2)
def judge (ds : List (Int × Int)) (cs : List Int) (beads : List (Int × Int)) (looks : List (Int × Int × Int × Int)) (ways : List Int) : Bool :=
  if ways.length = beads.length then (match run ds cs (beads.zip ways) with
    | none => false
    | some s => looks.all (seen s.2)) else false
/-- what a run holds -/
structure RunI (r : Int) (l : List ((Int × Int) × Int)) (here : List Int) (rows : List (List Int)) : Prop where
  hl : (here.length : Int) = r
  len : rows.length = l.length + 1
  last : rows[l.length]? = some here
  all : ∀ row ∈ rows, (row.length : Int) = r
structure Told (r : Int) (ds : List (Int × Int)) (cs : List Int) (beads : List (Int × Int)) (looks : List (Int × Int × Int × Int)) (ways : List Int) : Prop where
  r1 : 1 ≤ r
  ok : ∀ p ∈ ds, 0 ≤ p.1 ∧ p.1 < r ∧ 0 ≤ p.2 ∧ p.2 < r ∧ p.1 ≠ p.2
  hc : (cs.length : Int) = r
  hb : ∀ q ∈ beads, 0 ≤ q.1 ∧ q.1 < ds.length
  hbl : beads.length ≤ 1000
  hwl : ways.length ≤ 2000
  hq : ∀ q ∈ looks, 0 ≤ q.1 ∧ q.1 < beads.length + 1 ∧ 0 ≤ q.2.1 ∧ q.2.1 < r
  hql : looks.length ≤ 1000
theorem filterMap_if {α β : Type} (c : α → Bool) (f : α → β) (l : List α) : l.filterMap (fun x => if c x = true then some (f x) else none) = (l.filter c).map f := by
  induction l with
  | nil => rfl
  | cons x l ih => by_cases h : c x = true <;> simp [h, ih]
theorem none_left {α : Type} (c : α → Bool) (l : List α) : (l.filter fun q => !c q).isEmpty = l.all c := by
  induction l with
  | nil => rfl
  | cons x l ih =>
    by_cases h : c x = true
    · rw [List.filter_cons_of_neg (by simp [h]), List.all_cons, h, Bool.true_and]; exact ih
    · rw [List.filter_cons_of_pos (by simp [h])]; simp [h]
theorem enumD_map (n : Nat) (xs : List D) : enumD n xs = (List.range xs.length).map fun i => D.tup [.int ((n + i : Nat) : Int), xs.getD i .non] := by
  induction xs generalizing n with
  | nil => rfl
  | cons x xs ih =>
    rw [List.length_cons, List.range_succ_eq_map, List.map_cons, List.map_map]
    show D.tup [.int (n : Int), x] :: enumD (n + 1) xs = _
    rw [ih]
    congr 1
    refine List.map_congr_left fun i _ => ?_
    simp [Nat.add_comm, Nat.add_left_comm]
theorem story_ok {r : Int} {ds : List (Int × Int)} {cs ways : List Int} {beads looks} {R : D → En → Prop} (A : Told r ds cs beads looks ways)
    (k : R (.bl (judge ds cs beads looks ways)) [some (houseD r ds), some (.lst false (dI cs)), some (tapeD beads looks), some (.lst false (dI ways))]) : F_story_right [houseD r ds, .lst false (dI cs), tapeD beads looks, .lst false (dI ways)] R := by
  refine ⟨rfl, ?_⟩
  show wb_story_right [some (houseD r ds), some (.lst false (dI cs)), some (tapeD beads looks), some (.lst false (dI ways)), none, none, none, none, none, none, none, none, none, none, none] _
  unfold wb_story_right
  have gtt : ∀ {gs : WGs} {env : En} {R : En → Prop}, gTp 2 gs (tapeD beads looks) env R = gs [.lst false (doorsD beads), .lst false (looksD looks)] env R := by
    intro gs env R; simp [tapeD]
  obtain ⟨hr1, hok, hc, hb, hbl, hwl, hq, hql⟩ := A
  unfold judge at k
  by_cases hlen : ways.length = beads.length
  · rw [if_pos hlen] at k
    simp [gtt, hlen]
    rw [show doorsD beads = beads.map pairD from rfl, zipD_map]
    refine loopD_all _ _ (fun done env => ∃ here rows o8 o9 o10, run ds cs done = some (here, rows) ∧ RunI r done here rows ∧ env = [some (houseD r ds), some (.lst false (dI cs)), some (tapeD beads looks), some (.lst false (dI ways)), some (.lst false (doorsD beads)), some (.lst false (looksD looks)), some (.lst true (dI here)), some (.lst true (rowsD rows)), o8, o9, o10, none, none, none, none]) ⟨cs, [cs], none, none, none, rfl, ⟨hc, rfl, rfl, by simp [hc]⟩, rfl⟩ ?_ ?_
    · rintro done ⟨⟨door, sn⟩, way⟩ rest e env ⟨here, rows, o8, o9, o10, hrun, hi, rfl⟩ K kk
      have hm := (List.of_mem_zip (e ▸ List.mem_append_right _ (List.mem_cons_self ..) : ((door, sn), way) ∈ beads.zip ways)).1
      obtain ⟨d0, d1⟩ := hb _ hm
      simp only at d0 d1
      have ed := doors_getD d0 d1
      have hp4 := hok _ (getD_ok d0 d1)
      generalize hp : ds.getD door.toNat (0, 0) = p at *
      have hsn : run ds cs (done ++ [((door, sn), way)]) = stepO ds (some (here, rows)) ((door, sn), way) := by rw [run_snoc, hrun]
      have stop : run ds cs (done ++ [((door, sn), way)]) = none → R (.bl false) [some (houseD r ds), some (.lst false (dI cs)), some (tapeD beads looks), some (.lst false (dI ways))] := by
        intro hn
        rw [← e, run_dead hn] at k; exact k
      have hdl : done.length < beads.length := by
        have := congrArg List.length e
        simp at this
        omega
      obtain ⟨hhl, hrl, hlast, hall⟩ := hi
      have f1 := row_facts (here := here) (u := p.1) (w := p.2) (by omega) (by omega) (by omega) (by omega) (by omega)
      have f2 := row_facts (here := here) (u := p.2) (w := p.1) (by omega) (by omega) (by omega) (by omega) (by omega)
      have g1 := row_gets (here := here) (u := p.1) (w := p.2) (by omega) (by omega) (by omega) (by omega) (by omega)
      have g2 := row_gets (here := here) (u := p.2) (w := p.1) (by omega) (by omega) (by omega) (by omega) (by omega)
      have hsz : rows.length < sizeLine := by show _ < 16777216; omega
      have hH : (dI here).length = here.length := dI_length here
      have go : ∀ new : List Int, new.length = here.length → run ds cs (done ++ [((door, sn), way)]) = some (new, rows ++ [new]) → K [some (houseD r ds), some (.lst false (dI cs)), some (tapeD beads looks), some (.lst false (dI ways)), some (.lst false (doorsD beads)), some (.lst false (looksD looks)), some (.lst true (dI new)), some (.lst true (rowsD rows ++ [.lst false (dI new)])), some (.sc (.int door)), some (.sc (.int sn)), some (.sc (.int way)), none, none, none, none] := fun new hn hrn =>
        kk _ ⟨new, rows ++ [new], some (.sc (.int door)), some (.sc (.int sn)), some (.sc (.int way)), hrn, ⟨by omega, by simp [hrl], by simp [hrl], by
          intro row hrow
          rcases List.mem_append.mp hrow with hrow | hrow
          · exact hall row hrow
          · rw [List.mem_singleton.mp hrow]; omega⟩, by simp [rowsD]⟩
      generalize dI here = H at *
      obtain ⟨f11, f12, f13, f14⟩ := f1
      obtain ⟨f21, f22, f23, f24⟩ := f2
      obtain ⟨g11, g12⟩ := g1
      obtain ⟨g21, g22⟩ := g2
      have bad : ¬ ((way = 0 ∨ way = 1) ∧ (sn = -1 ∨ sn = way)) → R (.bl false) [some (houseD r ds), some (.lst false (dI cs)), some (tapeD beads looks), some (.lst false (dI ways))] := fun hb => stop (by rw [hsn]; simp [stepO, hb])
      by_cases hw : way = 0 ∨ way = 1
      · by_cases hs : sn = -1 ∨ sn = way
        · rcases hw with rfl | rfl
          · simp [hs, ed, f11, f21, g11, g12, hH, -List.getD_eq_getElem?_getD]
            rw [(f14 _ _).2.2, frzL_dI]
            have hnl : ((here.set p.1.toNat (here.getD p.1.toNat 0 - 1)).set p.2.toNat (here.getD p.2.toNat 0 + 1)).length = here.length := by simp
            have hst : run ds cs (done ++ [((door, sn), 0)]) = (if (mv here p.1.toNat p.2.toNat).any (fun c => decide (c < 0)) then none else some (mv here p.1.toNat p.2.toNat, rows ++ [mv here p.1.toNat p.2.toNat])) := by
              rw [hsn]; simp only [stepO, Option.bind_some, hp, if_pos, hs, and_self, true_or]
            change run ds cs (done ++ [((door, sn), 0)]) = _ at hst
            rw [show (here.set p.1.toNat (here.getD p.1.toNat 0 - 1)).set p.2.toNat (here.getD p.2.toNat 0 + 1) = mv here p.1.toNat p.2.toNat from rfl] at hnl ⊢
            generalize mv here p.1.toNat p.2.toNat = new at *
            refine ⟨rfl, new, rfl, by omega, fun m hm hmin => ?_⟩
            simp
            split
            · refine stop ?_
              rw [hst, if_pos]
              exact List.any_eq_true.mpr ⟨m, hm, by simpa using ‹m < 0›⟩
            · simp [hsz]
              refine go new hnl ?_
              rw [hst, if_neg]
              intro z
              obtain ⟨c, hc1, hc2⟩ := List.any_eq_true.mp z
              have := hmin c hc1
              have : c < 0 := by simpa using hc2
              omega
          · simp [hs, ed, f11, f21, g21, g22, hH, -List.getD_eq_getElem?_getD]
            rw [(f24 _ _).2.2, frzL_dI]
            have hnl : ((here.set p.2.toNat (here.getD p.2.toNat 0 - 1)).set p.1.toNat (here.getD p.1.toNat 0 + 1)).length = here.length := by simp
            have hst : run ds cs (done ++ [((door, sn), 1)]) = (if (mv here p.2.toNat p.1.toNat).any (fun c => decide (c < 0)) then none else some (mv here p.2.toNat p.1.toNat, rows ++ [mv here p.2.toNat p.1.toNat])) := by
              rw [hsn]; simp only [stepO, Option.bind_some, hp, if_pos, hs, and_self, or_true, show ((1 : Int) = 0) = False by simp, if_false]
            change run ds cs (done ++ [((door, sn), 1)]) = _ at hst
            rw [show (here.set p.2.toNat (here.getD p.2.toNat 0 - 1)).set p.1.toNat (here.getD p.1.toNat 0 + 1) = mv here p.2.toNat p.1.toNat from rfl] at hnl ⊢
            generalize mv here p.2.toNat p.1.toNat = new at *
            refine ⟨rfl, new, rfl, by omega, fun m hm hmin => ?_⟩
            simp
            split
            · refine stop ?_
              rw [hst, if_pos]
              exact List.any_eq_true.mpr ⟨m, hm, by simpa using ‹m < 0›⟩
            · simp [hsz]
              refine go new hnl ?_
              rw [hst, if_neg]
              intro z
              obtain ⟨c, hc1, hc2⟩ := List.any_eq_true.mp z
              have := hmin c hc1
              have : c < 0 := by simpa using hc2
              omega
        · simp [hs, hw]
          exact bad (by simp [hs])
      · simp [hw]
        exact bad (by simp [hw])
    · rintro env ⟨here, rows, o8, o9, o10, hrun, hi, rfl⟩
      rw [hrun] at k
      simp
      have hrl : rows.length = beads.length + 1 := by rw [hi.len]; simp [hlen]
      refine compD_map quadD looks (fun env => ∃ q11 q12 q13 q14, env = [some (houseD r ds), some (.lst false (dI cs)), some (tapeD beads looks), some (.lst false (dI ways)), some (.lst false (doorsD beads)), some (.lst false (looksD looks)), some (.lst true (dI here)), some (.lst true (rowsD rows)), o8, o9, o10, q11, q12, q13, q14]) (fun q => .sc (.bl (seen rows q))) (by show _ ≤ 16777216; omega) ⟨none, none, none, none, rfl⟩ ?_ ?_
      · rintro q hqm env ⟨q11, q12, q13, q14, rfl⟩ K kk
        obtain ⟨a0, a1, a2, a3⟩ := hq q hqm
        have e1 : L2.atI (rowsD rows) q.1 = some (.lst false (dI (rows.getD q.1.toNat []))) := by
          refine atI_of a0 ?_
          simp [rowsD, List.getD_eq_getElem?_getD, List.getElem?_eq_getElem (show q.1.toNat < rows.length by omega)]
        have hrow : rows.getD q.1.toNat [] ∈ rows := by
          simp [List.getD_eq_getElem?_getD, List.getElem?_eq_getElem (show q.1.toNat < rows.length by omega)]
        have e2 := dI_atI (ns := rows.getD q.1.toNat []) (i := q.2.1) a2 (by rw [hi.all _ hrow]; exact a3)
        have fin : ∀ b, b = seen rows q → K (some (.sc (.bl b))) [some (houseD r ds), some (.lst false (dI cs)), some (tapeD beads looks), some (.lst false (dI ways)), some (.lst false (doorsD beads)), some (.lst false (looksD looks)), some (.lst true (dI here)), some (.lst true (rowsD rows)), o8, o9, o10, some (.sc (.int q.1)), some (.sc (.int q.2.1)), some (.sc (.int q.2.2.1)), some (.sc (.int q.2.2.2))] := fun b hb => by
          rw [hb]; exact kk _ ⟨_, _, _, _, rfl⟩
        simp [e1, e2, -List.getD_eq_getElem?_getD]
        split
        · rename_i hh
          exact fin _ (by simp only [seen, hh, decide_true, Bool.true_and])
        · rename_i hh
          exact fin _ (by simp only [seen, hh, decide_false, Bool.false_and])
      · rintro env ⟨q11, q12, q13, q14, rfl⟩
        rw [show looks.map (fun q => D.sc (V.bl (seen rows q))) = (looks.map (seen rows)).map fun n => D.sc (V.bl n) by rw [List.map_map]; rfl, e_all]
        simp
        simpa using k
  · rw [if_neg hlen] at k
    have hlen' : ¬ ((ways.length : Int) = beads.length) := by omega
    simp [gtt, hlen']
    exact k
theorem stands_ok {r : Int} {ds : List (Int × Int)} {cs ways : List Int} {beads looks} {R : D → En → Prop} (A : Told r ds cs beads looks ways)
    (k : R (.bl (judge ds cs beads looks ways)) [some (houseD r ds), some (.lst false (dI cs)), some (tapeD beads looks), some (.lst false (dI ways))]) : F_law_stands [houseD r ds, .lst false (dI cs), tapeD beads looks, .lst false (dI ways)] R := by
  refine ⟨rfl, ?_⟩
  show wb_law_stands [some (houseD r ds), some (.lst false (dI cs)), some (tapeD beads looks), some (.lst false (dI ways)), none, none, none, none, none, none] _
  unfold wb_law_stands
  obtain ⟨hr1, hok, hc, hb, hbl, hwl, hq, hql⟩ := A
  unfold judge at k
  by_cases hlen : ways.length = beads.length
  · rw [if_pos hlen] at k
    simp [hlen]
    rw [enumD_map, len_doors]
    refine loopD_all _ _ (fun done env => ∃ here rows o5 o6 o7 o8, run ds cs ((beads.zip ways).take done.length) = some (here, rows) ∧ RunI r ((beads.zip ways).take done.length) here rows ∧ env = [some (houseD r ds), some (.lst false (dI cs)), some (tapeD beads looks), some (.lst false (dI ways)), some (.lst true (rowsD rows)), o5, o6, o7, o8, none]) ⟨cs, [cs], none, none, none, none, rfl, ⟨hc, rfl, rfl, by simp [hc]⟩, rfl⟩ ?_ ?_
    · rintro done x rest e env ⟨here, rows, o5, o6, o7, o8, hrun, hi, rfl⟩ K kk
      obtain ⟨hx, hxl⟩ := range_done e
      have ebd : beads[x]? = some (beads.getD x (0, 0)) := by simp [List.getD_eq_getElem?_getD, List.getElem?_eq_getElem (show x < beads.length by omega)]
      have ewy : ways[x]? = some (ways.getD x 0) := get_getD (by omega)
      have edo : (doorsD beads).getD x .non = pairD (beads.getD x (0, 0)) := by
        simp [doorsD, List.getD_eq_getElem?_getD, List.getElem?_eq_getElem (show x < beads.length by omega)]
      have eway := dI_atI (ns := ways) (i := (x : Int)) (by omega) (by omega)
      rw [Int.toNat_natCast] at eway
      have hm : beads.getD x (0, 0) ∈ beads := List.mem_of_getElem? ebd
      generalize hbd : beads.getD x (0, 0) = bd at *
      obtain ⟨door, sn⟩ := bd
      generalize hwy : ways.getD x 0 = way at *
      have etake : (beads.zip ways).take (done ++ [x]).length = (beads.zip ways).take done.length ++ [((door, sn), way)] := by
        rw [List.length_append, List.length_singleton, List.take_add_one, ← hx, show (beads.zip ways)[x]? = some ((door, sn), way) from List.getElem?_zip_eq_some.mpr ⟨ebd, ewy⟩]
        rfl
      have esplit : beads.zip ways = ((beads.zip ways).take done.length ++ [((door, sn), way)]) ++ (beads.zip ways).drop (done ++ [x]).length := by
        rw [← etake, List.take_append_drop]
      rw [etake] at kk
      have hll : ((beads.zip ways).take done.length).length = done.length := by simp; omega
      generalize (beads.zip ways).take done.length = l at *
      obtain ⟨d0, d1⟩ := hb _ hm
      simp only at d0 d1
      have ed := doors_getD d0 d1
      have hp4 := hok _ (getD_ok d0 d1)
      generalize hp : ds.getD door.toNat (0, 0) = p at *
      have hsn : run ds cs (l ++ [((door, sn), way)]) = stepO ds (some (here, rows)) ((door, sn), way) := by rw [run_snoc, hrun]
      have stop : run ds cs (l ++ [((door, sn), way)]) = none → R (.bl false) [some (houseD r ds), some (.lst false (dI cs)), some (tapeD beads looks), some (.lst false (dI ways))] := by
        intro hn
        have : run ds cs (beads.zip ways) = none := by
          rw [esplit]
          unfold run at hn ⊢
          rw [List.foldl_append, hn]
          exact run_none _
        rw [this] at k; exact k
      obtain ⟨hhl, hrl, hlast, hall⟩ := hi
      have f1 := row_facts (here := here) (u := p.1) (w := p.2) (by omega) (by omega) (by omega) (by omega) (by omega)
      have f2 := row_facts (here := here) (u := p.2) (w := p.1) (by omega) (by omega) (by omega) (by omega) (by omega)
      have hsz : rows.length < sizeLine := by show _ < 16777216; omega
      have hH : (dI here).length = here.length := dI_length here
      have hrow : L2.atI (rowsD rows) (x : Int) = some (.lst false (dI here)) := by
        refine atI_of (by omega) ?_
        rw [Int.toNat_natCast, hx, ← hll]
        simp [rowsD, hlast]
      have hfz : D.fzL (dI here) = true := fzL_dI here
      have go : ∀ (new : List Int) o8, new.length = here.length → run ds cs (l ++ [((door, sn), way)]) = some (new, rows ++ [new]) → K [some (houseD r ds), some (.lst false (dI cs)), some (tapeD beads looks), some (.lst false (dI ways)), some (.lst true (rowsD rows ++ [.lst false (dI new)])), some (.sc (.int (x : Int))), some (pairD (door, sn)), some (.lst false (dI new)), o8, none] := fun new o8 hn hrn =>
        kk _ ⟨new, rows ++ [new], some (.sc (.int (x : Int))), some (pairD (door, sn)), some (.lst false (dI new)), o8, hrn, ⟨by omega, by simp [hrl], by simp [hrl], by
          intro row hrow
          rcases List.mem_append.mp hrow with hrow | hrow
          · exact hall row hrow
          · rw [List.mem_singleton.mp hrow]; omega⟩, by simp [rowsD]⟩
      generalize dI here = H at *
      obtain ⟨f11, f12, f13, f14⟩ := f1
      obtain ⟨f21, f22, f23, f24⟩ := f2
      have bad : ¬ ((way = 0 ∨ way = 1) ∧ (sn = -1 ∨ sn = way)) → R (.bl false) [some (houseD r ds), some (.lst false (dI cs)), some (tapeD beads looks), some (.lst false (dI ways))] := fun hb => stop (by rw [hsn]; simp [stepO, hb])
      rw [edo]
      by_cases hw : way = 0 ∨ way = 1
      · by_cases hs : sn = -1 ∨ sn = way
        · rcases hw with rfl | rfl
          · simp [eway, hs, ed, hrow, hfz, f11, f12, f13, f21, hH, -List.getD_eq_getElem?_getD]
            rw [(f14 _ _).2.2]
            simp only [frzL_dI]
            have hnl : ((here.set p.1.toNat (here.getD p.1.toNat 0 - 1)).set p.2.toNat (here.getD p.2.toNat 0 + 1)).length = here.length := by simp
            have hst : run ds cs (l ++ [((door, sn), 0)]) = (if (mv here p.1.toNat p.2.toNat).any (fun c => decide (c < 0)) then none else some (mv here p.1.toNat p.2.toNat, rows ++ [mv here p.1.toNat p.2.toNat])) := by
              rw [hsn]; simp only [stepO, Option.bind_some, hp, if_pos, hs, and_self, true_or]
            rw [show (here.set p.1.toNat (here.getD p.1.toNat 0 - 1)).set p.2.toNat (here.getD p.2.toNat 0 + 1) = mv here p.1.toNat p.2.toNat from rfl] at hnl ⊢
            generalize mv here p.1.toNat p.2.toNat = new at *
            refine ⟨rfl, new, rfl, by omega, fun m hm hmin => ?_⟩
            simp
            split
            · refine stop ?_
              rw [hst, if_pos]
              exact List.any_eq_true.mpr ⟨m, hm, by simpa using ‹m < 0›⟩
            · simp [hsz]
              refine go new _ hnl ?_
              rw [hst, if_neg]
              intro z
              obtain ⟨c, hc1, hc2⟩ := List.any_eq_true.mp z
              have := hmin c hc1
              have : c < 0 := by simpa using hc2
              omega
          · simp [eway, hs, ed, hrow, hfz, f11, f21, f22, f23, hH, -List.getD_eq_getElem?_getD]
            rw [(f24 _ _).2.2]
            simp only [frzL_dI]
            have hnl : ((here.set p.2.toNat (here.getD p.2.toNat 0 - 1)).set p.1.toNat (here.getD p.1.toNat 0 + 1)).length = here.length := by simp
            have hst : run ds cs (l ++ [((door, sn), 1)]) = (if (mv here p.2.toNat p.1.toNat).any (fun c => decide (c < 0)) then none else some (mv here p.2.toNat p.1.toNat, rows ++ [mv here p.2.toNat p.1.toNat])) := by
              rw [hsn]; simp only [stepO, Option.bind_some, hp, if_pos, hs, and_self, or_true, show ((1 : Int) = 0) = False by simp, if_false]
            rw [show (here.set p.2.toNat (here.getD p.2.toNat 0 - 1)).set p.1.toNat (here.getD p.1.toNat 0 + 1) = mv here p.2.toNat p.1.toNat from rfl] at hnl ⊢
            generalize mv here p.2.toNat p.1.toNat = new at *
            refine ⟨rfl, new, rfl, by omega, fun m hm hmin => ?_⟩
            simp
            split
            · refine stop ?_
              rw [hst, if_pos]
              exact List.any_eq_true.mpr ⟨m, hm, by simpa using ‹m < 0›⟩
            · simp [hsz]
              refine go new _ hnl ?_
              rw [hst, if_neg]
              intro z
              obtain ⟨c, hc1, hc2⟩ := List.any_eq_true.mp z
              have := hmin c hc1
              have : c < 0 := by simpa using hc2
              omega
        · simp [eway, hs, hw]
          exact bad (by simp [hs])
      · simp [eway, hw]
        exact bad (by simp [hw])
    · rintro env ⟨here, rows, o5, o6, o7, o8, hrun, hi, rfl⟩
      rw [List.length_range, List.take_of_length_le (by simp [hlen])] at hrun hi
      rw [hrun] at k
      simp
      have hrl : rows.length = beads.length + 1 := by rw [hi.len]; simp [hlen]
      refine compD_ind quadD (fun env => ∃ q9, env = [some (houseD r ds), some (.lst false (dI cs)), some (tapeD beads looks), some (.lst false (dI ways)), some (.lst true (rowsD rows)), o5, o6, o7, o8, q9]) (fun q => if (!seen rows q) = true then some (quadD q) else none) looks [] _ (by show _ ≤ 16777216; simp; omega) ⟨none, rfl⟩ ?_ ?_
      · rintro q hqm env ⟨q9, rfl⟩ K kk
        obtain ⟨a0, a1, a2, a3⟩ := hq q hqm
        have e1 : L2.atI (rowsD rows) q.1 = some (.lst false (dI (rows.getD q.1.toNat []))) := by
          refine atI_of a0 ?_
          simp [rowsD, List.getD_eq_getElem?_getD, List.getElem?_eq_getElem (show q.1.toNat < rows.length by omega)]
        have hrow : rows.getD q.1.toNat [] ∈ rows := by
          simp [List.getD_eq_getElem?_getD, List.getElem?_eq_getElem (show q.1.toNat < rows.length by omega)]
        have e2 := dI_atI (ns := rows.getD q.1.toNat []) (i := q.2.1) a2 (by rw [hi.all _ hrow]; exact a3)
        have := kk [some (houseD r ds), some (.lst false (dI cs)), some (tapeD beads looks), some (.lst false (dI ways)), some (.lst true (rowsD rows)), o5, o6, o7, o8, some (quadD q)] ⟨_, rfl⟩
        unfold seen at this
        simp [e1, e2, -List.getD_eq_getElem?_getD]
        by_cases h1 : q.2.2.1 ≤ (rows.getD q.1.toNat []).getD q.2.1.toNat 0
        · by_cases h2 : (rows.getD q.1.toNat []).getD q.2.1.toNat 0 ≤ q.2.2.2
          · simpa [h1, h2, -List.getD_eq_getElem?_getD] using this
          · simpa [h1, h2, -List.getD_eq_getElem?_getD] using this
        · simpa [h1, -List.getD_eq_getElem?_getD] using this
      · rintro env ⟨q9, rfl⟩
        rw [List.nil_append, filterMap_if]
        have hly : ∀ l : List (Int × Int × Int × Int), Ly (.lst true (l.map quadD)) 2 := fun l => .lst (.map (fun q => .tup (.cons .int (.cons .int (.cons .int (.cons .int .nil))))) l)
        refine ⟨(hly _).shp (by decide), ?_⟩
        rw [show ((looks.filter fun q => !seen rows q).map quadD).isEmpty = looks.all (seen rows) by
          rw [List.isEmpty_map]; exact none_left _ _]
        simpa using k
  · rw [if_neg hlen] at k
    have hlen' : ¬ ((ways.length : Int) = beads.length) := by omega
    simp [hlen']
    exact k
@[simp] theorem cutD_dI (ns : List Int) (lo hi : Option Int) : cutD (dI ns) lo hi = dI (cutD ns lo hi) := cutD_map _ _ _ _
@[simp] theorem fzL_append (xs ys : List D) : D.fzL (xs ++ ys) = (D.fzL xs && D.fzL ys) := by
  induction xs with
  | nil => simp
  | cons x xs ih => simp [ih, Bool.and_assoc]
theorem dI_reverse (ns : List Int) : (dI ns).reverse = dI ns.reverse := (List.map_reverse ..).symm
def Tr (n : Nat) (T : Int) (t : List Int) : Prop := t.length ≤ n ∧ ∀ c ∈ t, -T ≤ c ∧ c ≤ T
theorem bent_ok {k n : Nat} {b : D} {T : Int} {t : List Int} {R : D → En → Prop} (h : Jug k b) (hk : k < 2 ^ 30) (ht : Tr n T t) (hn : n ≤ 100) (hT : 10 ^ 19 ≤ T)
    (kk : ∀ t' b', Jug (k + 4) b' → Tr (3 * n + 2) (T + 1) t' → R (.lst true (dI t')) [some b', some (.lst false (dI t))]) : F_law_bent [b, .lst false (dI t)] R := by
  refine ⟨rfl, ?_⟩
  show wb_law_bent [some b, some (.lst false (dI t)), none, none, none, none, none, none] _
  unfold wb_law_bent
  obtain ⟨hl, hc⟩ := ht
  simp
  refine dip_ok h (by omega) (by omega) (by omega) fun a b h a0 a1 => ?_
  simp
  refine dip_ok h (by omega) (by omega) (by omega) fun to b h a2 a3 => ?_
  simp
  refine dip_ok h (by omega) (by decide) (by decide) fun kind b h a4 a5 => ?_
  simp
  refine ⟨powOk (n := 4) (by decide) (by decide) (by decide), dip_ok h (by omega) (by decide) (by decide) fun ov b h a6 a7 => ?_⟩
  simp
  refine atI_exI (ns := [0, 1, 2, -1, 10000000000000000000, -2]) rfl a6 a7 fun odd _ hodd => ?_
  replace hodd : -T ≤ odd ∧ odd ≤ T := by simp at hodd; omega
  have hcut : ∀ lo hi, (cutD t lo hi).length ≤ n ∧ ∀ c ∈ cutD t lo hi, -T ≤ c ∧ c ≤ T := fun lo hi => ⟨Nat.le_trans (cutD_len t lo hi) hl, fun c hcm => hc c (cutD_mem hcm)⟩
  have three : ∀ x y z : List Int, x.length ≤ n → y.length ≤ n + 1 → z.length ≤ n → x.length + y.length + z.length ≤ 3 * n + 2 → (∀ c ∈ x, -T ≤ c ∧ c ≤ T) → (∀ c ∈ y, -T ≤ c ∧ c ≤ T) → (∀ c ∈ z, -T ≤ c ∧ c ≤ T) → Tr (3 * n + 2) (T + 1) (x ++ y ++ z) := by
    intro x y z _ _ _ hl hx hy hz
    refine ⟨by simp; omega, fun c hcm => ?_⟩
    rcases List.mem_append.mp hcm with hcm | hcm
    · rcases List.mem_append.mp hcm with hcm | hcm
      · have := hx c hcm; omega
      · have := hy c hcm; omega
    · have := hz c hcm; omega
  have szl : ∀ m : Nat, m ≤ 1000 → m ≤ sizeLine := fun m hm => by show _ ≤ 16777216; omega
  have c1 := hcut none (some a)
  have c2 := hcut (some a) none
  have c3 := hcut (some (a + 1)) none
  have c4 := hcut (some a) (some (a + 2))
  have c5 := hcut (some (a + 2)) none
  simp
  split
  · refine ⟨(by show _ ≤ 16777216; (try simp); omega), (by show _ ≤ 16777216; (try simp); omega), ?_⟩
    have := kk (cutD t none (some a) ++ [odd] ++ cutD t (some a) none) b h (three _ _ _ c1.1 (by simp) c2.1 (by simp; omega) c1.2 (by simpa using hodd) c2.2)
    simpa [dI] using this
  split
  · refine ⟨(by show _ ≤ 16777216; (try simp); omega), ?_⟩
    have := kk (cutD t none (some a) ++ [] ++ cutD t (some (a + 1)) none) b h (three _ _ _ c1.1 (by simp) c3.1 (by simp; omega) c1.2 (by simp) c3.2)
    simpa [dI] using this
  split
  · refine ⟨(by show _ ≤ 16777216; (try simp); omega), (by show _ ≤ 16777216; (try simp); omega), ?_⟩
    have := kk (cutD t none (some a) ++ [odd] ++ cutD t (some (a + 1)) none) b h (three _ _ _ c1.1 (by simp) c3.1 (by simp; omega) c1.2 (by simpa using hodd) c3.2)
    simpa [dI] using this
  split
  · rw [dI_reverse]
    have hrv : (dI (cutD t (some a) (some (a + 2))).reverse).length = (cutD t (some a) (some (a + 2))).length := by simp
    refine ⟨fzL_dI _, by show _ ≤ 16777216; omega, fzL_dI _, by show _ ≤ 16777216; omega, ?_⟩
    have := kk (cutD t none (some a) ++ (cutD t (some a) (some (a + 2))).reverse ++ cutD t (some (a + 2)) none) b h (three _ _ _ c1.1 (by simp; omega) c5.1 (by simp; omega) c1.2 (fun c hcm => c4.2 c (List.mem_reverse.mp hcm)) c5.2)
    simpa [dI] using this
  split
  · refine compD_map (fun n => D.sc (V.int n)) t (fun env => ∃ o, env = [some b, some (.lst false (dI t)), some (.int a), some (.int to), some (.int kind), some (.int odd), o, none]) (fun c => .sc (.int (1 - c))) (szl _ (by omega)) ⟨_, rfl⟩ ?_ ?_
    · rintro c hcm env ⟨o, rfl⟩ K k2
      simp
      exact k2 _ ⟨_, rfl⟩
    · rintro env ⟨o, rfl⟩
      have := kk (t.map fun c => 1 - c) b h ⟨by simp; omega, fun c hcm => by
        obtain ⟨z, hz, rfl⟩ := List.mem_map.mp hcm
        have := hc z hz; omega⟩
      rw [show t.map (fun c => D.sc (V.int (1 - c))) = dI (t.map fun c => 1 - c) by simp [dI]]
      exact this
  refine ⟨by omega, ?_⟩
  unfold rng
  refine compD_inv _ (fun done acc env => ∃ o t', acc = dI t' ∧ t'.length = done.length ∧ (∀ c ∈ t', -(T + 1) ≤ c ∧ c ≤ T + 1) ∧ env = [some b, some (.lst false (dI t)), some (.int a), some (.int to), some (.int kind), some (.int odd), none, o]) (List.range t.length) ?_ ?_ ?_ ?_ _ [] _ _ rfl ⟨_, [], rfl, rfl, by simp, rfl⟩
  · exact szl _ (by simp; omega)
  · rintro done acc env ⟨o, t', rfl, hl, _⟩; simp [hl]
  · rintro done x rest e acc env ⟨o, t', rfl, hl2, ht', rfl⟩ K kn ks
    have hx := range_done e
    have ex := dI_atI (ns := t) (i := (x : Int)) (by omega) (by omega)
    rw [Int.toNat_natCast] at ex
    have hxb := hc _ (getD_mem (ns := t) (i := x) (by omega))
    simp [-List.getD_eq_getElem?_getD]
    refine atI_exI (ns := [a, to]) rfl (Int.emod_nonneg _ (by decide)) (by have := Int.emod_lt_of_pos kind (b := 2) (by decide); simpa using this) fun w _ _ => ?_
    have fin : ∀ c : Int, -(T + 1) ≤ c ∧ c ≤ T + 1 → K (some (.sc (.int c))) [some b, some (.lst false (dI t)), some (.int a), some (.int to), some (.int kind), some (.int odd), none, some (.int (x : Int))] := fun c hcb =>
      ks _ _ ⟨_, t' ++ [c], by simp [dI], by simp [hl2], by
        intro z hz
        rcases List.mem_append.mp hz with hz | hz
        · exact ht' z hz
        · rw [List.mem_singleton.mp hz]; exact hcb, rfl⟩
    simp [ex, -List.getD_eq_getElem?_getD]
    split
    · exact fin _ (by omega)
    · exact fin _ (by omega)
  · rintro acc env ⟨o, t', rfl, hl2, ht', rfl⟩
    simp at hl2
    simp
    exact kk t' b h ⟨by omega, ht'⟩
theorem pl_tr {r : Int} {beads looks} {t : List Int} {o : Bool}
    (hb : ∀ q ∈ beads, q.1.natAbs ≤ 1000 ∧ q.2.natAbs ≤ 1000) (hbl : beads.length ≤ 1000) (hr : r ≤ 1000) (hq : ∀ q ∈ looks, LookI r 1000 (2 * 10 ^ 20) q) (hql : looks.length ≤ 1000) (ht : Tr 1000 (10 ^ 21) t) : Pl (.lst o [tapeD beads looks, .lst false (dI t)]) 9 20000 := by
  have e2 : Pl (.lst false (dI t)) 8 1001 := (Pl.lstA (k := 0) (n := 1) (m := 1000) (fun x hx => by
    obtain ⟨p, hp, rfl⟩ := List.mem_map.mp hx
    have := ht.2 p hp
    exact Pl.int (by omega)) (by have := ht.1; simp; omega)).mono (by omega) (by omega)
  have e3 : Pl (tapeD beads looks) 8 10000 := (Pl.tup (.cons (k := 7) (n := 3001) ((Pl.lstA (k := 1) (n := 3) (m := 1000) (fun x hx => by
    obtain ⟨p, hp, rfl⟩ := List.mem_map.mp hx
    have := hb p hp
    exact pl_pair ⟨by omega, by omega⟩) (by simp; omega)).mono (by omega) (by omega)) (.cons (k := 7) (n := 5001) (m := 0) ((Pl.lstA (k := 1) (n := 5) (m := 1000) (fun x hx => by
    obtain ⟨q, hp, rfl⟩ := List.mem_map.mp hx
    have := hq q hp
    simp only [LookI] at this
    exact .tup (.cons (.int (by omega)) (.cons (.int (by omega)) (.cons (.int (by omega)) (.cons (.int (by omega)) .nil))))) (by simp; omega)).mono (by omega) (by omega)) .nil))).mono (by omega) (by omega)
  exact (Pl.lst (.cons e3 (.cons e2 .nil))).mono (by omega) (by omega)
theorem right_ok {r : Int} {ds : List (Int × Int)} {cs ways : List Int} {beads looks} {R : D → En → Prop} (A : Told r ds cs beads looks ways) (hpl : ∀ o, Pl (.lst o [tapeD beads looks, .lst false (dI ways)]) 9 20000)
    (k : R (.bl true) [some (houseD r ds), some (.lst false (dI cs)), some (tapeD beads looks), some (.lst false (dI ways))]) : F_law_right [houseD r ds, .lst false (dI cs), tapeD beads looks, .lst false (dI ways)] R := by
  refine ⟨rfl, ?_⟩
  show wb_law_right [some (houseD r ds), some (.lst false (dI cs)), some (tapeD beads looks), some (.lst false (dI ways)), none, none, none, none, none] _
  unfold wb_law_right
  simp
  refine (hpl true).repr rfl (by decide) (by decide) ?_
  simp
  refine stands_ok A ?_
  simp
  refine story_ok A ?_
  simp
  refine story_ok A ?_
  generalize judge ds cs beads looks ways = J
  simp [compD]
  refine (hpl true).repr rfl (by decide) (by decide) ?_
  simp
  exact ⟨(hpl true).shpS, k⟩
theorem law_ok : LawOk 63 F_law := by
  intro ns hl
  refine ⟨rfl, ?_⟩
  show wb_law [some (.obj false .sq (dI ns)), none, none, none, none, none, none, none, none, none, none, none, none, none] _
  unfold wb_law
  simp
  refine ⟨by split <;> omega, by split <;> omega, ?_⟩
  have hlen : (if 1 < (if (ns.length : Int) < 10 then (ns.length : Int) else 10) then (if (ns.length : Int) < 10 then (ns.length : Int) else 10) else 1).toNat ≤ 63 := by split <;> split <;> omega
  generalize (if 1 < (if (ns.length : Int) < 10 then (ns.length : Int) else 10) then (if (ns.length : Int) < 10 then (ns.length : Int) else 10) else 1).toNat = N at *
  unfold rng
  refine loopD_all _ _ (fun _ env => ∃ q1 q2 q3 q4 q5 q6 q7 q8 q9 q10 q11 q12 q13, env = [some (.obj false .sq (dI ns)), q1, q2, q3, q4, q5, q6, q7, q8, q9, q10, q11, q12, q13]) ⟨_, _, _, _, _, _, _, _, _, _, _, _, _, rfl⟩ ?_ ?_
  · rintro done x rest e env ⟨q1, q2, q3, q4, q5, q6, q7, q8, q9, q10, q11, q12, q13, rfl⟩ K kk
    have hx := range_done e
    simp
    refine jug_ok (by omega) fun b h => ?_
    simp
    refine house_ok h (by omega) (by decide) (by decide) (by decide) (by decide) fun r ds b h hh => ?_
    have hr1 := hh.r1
    have hr2 := hh.r2
    have hdl := hh.len
    simp
    refine folk_ok h (by omega) hh (by decide) fun cs b h hc hc2 => ?_
    simp
    refine gone_ok h (by omega) hh (by decide) hc hc2 (by decide) (by decide) fun moves rows b h hg => ?_
    have hgl := hg.len
    have hgm := hg.most
    simp
    refine compD_map pairD moves (fun env => ∃ q12 q13, env = [some (.obj false .sq (dI ns)), some (.int (x : Int)), some b, some (houseD r ds), some (.lst false (dI cs)), some (.lst false (doorsD moves)), some (.lst false (rowsD rows)), q7, q8, q9, q10, q11, q12, q13]) (fun p => .sc (.int p.2)) (by show _ ≤ 16777216; omega) ⟨_, _, rfl⟩ ?_ ?_
    · rintro p hp env ⟨q12, q13, rfl⟩ K2 kk2
      simp
      exact kk2 _ ⟨_, _, rfl⟩
    · rintro env ⟨q12', q13', rfl⟩
      rw [show moves.map (fun p => D.sc (V.int p.2)) = dI (moves.map fun p => p.2) by simp [dI]]
      have htr : Tr 12 (10 ^ 20) (moves.map fun p => p.2) := ⟨by simp; omega, fun c hcm => by
        obtain ⟨z, hz, rfl⟩ := List.mem_map.mp hcm
        have := hg.mv z hz; omega⟩
      generalize (moves.map fun p => p.2) = tr at *
      simp
      refine hidden_ok h (by omega) (by omega) fun sel b h hsel => ?_
      have hbd : ∀ q ∈ (moves.zip sel).map hid, 0 ≤ q.1 ∧ q.1 < ds.length ∧ -1 ≤ q.2 ∧ q.2 < 2 := by
        intro q hq
        obtain ⟨z, hz, rfl⟩ := List.mem_map.mp hq
        have := hg.mv z.1 (List.of_mem_zip hz).1
        unfold hid
        split <;> omega
      have hbl : ((moves.zip sel).map hid).length = moves.length := by simp [hsel]
      generalize (moves.zip sel).map hid = beads at *
      simp
      rw [show D.tup [D.obj false Sh.lst (doorsD beads), D.obj false Sh.lst []] = tapeD beads [] from rfl]
      unfold rng
      refine loopD_all _ _ (fun done env => ∃ b looks q9 q10 q11 o12 o13, Jug (3000 + 20 * done.length) b ∧ looks.length = done.length ∧ (∀ q ∈ looks, LookI r rows.length (10 ^ 20) q) ∧ env = [some (.obj false .sq (dI ns)), some (.int (x : Int)), some b, some (houseD r ds), some (.lst false (dI cs)), some (.lst false (doorsD moves)), some (.lst false (rowsD rows)), some (.lst false (dI tr)), some (tapeD beads looks), q9, q10, q11, o12, o13]) ⟨b, [], _, _, _, _, _, h.mono (by simp; omega), rfl, by simp, rfl⟩ ?_ ?_
      · rintro done2 y rest2 e2 env ⟨b, looks, q9, q10, q11, o12, o13, h, hlk, hlq, rfl⟩ K2 kk2
        have hy := range_done e2
        simp
        refine bent_ok h (by omega) htr (by decide) (by decide) fun t1 b h ht1 => ?_
        simp
        refine bent_ok h (by omega) ht1 (by decide) (by decide) fun t2 b h ht2 => ?_
        simp
        have told : ∀ t, t.length ≤ 200 → Told r ds cs beads looks t := fun t ht => ⟨hr1, hh.ok, hc, fun q hq => by have := hbd q hq; omega, by omega, by omega, fun q hq => by
          have := hlq q hq
          simp only [LookI] at this
          omega, by omega⟩
        have hpl : ∀ t, Tr 1000 (10 ^ 21) t → ∀ o, Pl (.lst o [tapeD beads looks, .lst false (dI t)]) 9 20000 := fun t ht o => pl_tr (r := r) (fun q hq => by have := hbd q hq; omega) (by omega) (by omega) (fun q hq => by
          have := hlq q hq
          simp only [LookI] at this ⊢
          omega) (by omega) ht
        have trs : ∀ t ∈ [tr, t1, t2], Tr 1000 (10 ^ 21) t ∧ t.length ≤ 200 := by
          have big : ∀ (n : Nat) (T : Int) (t : List Int), Tr n T t → n ≤ 200 → T ≤ 10 ^ 21 → Tr 1000 (10 ^ 21) t ∧ t.length ≤ 200 := fun n T t ht hn hT => ⟨⟨by have := ht.1; omega, fun c hc => by have := ht.2 c hc; omega⟩, by have := ht.1; omega⟩
          intro t ht
          simp only [List.mem_cons, List.not_mem_nil, or_false] at ht
          rcases ht with rfl | rfl | rfl
          · exact big _ _ _ htr (by decide) (by decide)
          · exact big _ _ _ ht1 (by decide) (by decide)
          · exact big _ _ _ ht2 (by decide) (by decide)
        refine loopD_all (fun t => D.lst false (dI t)) [tr, t1, t2] (fun _ env => ∃ q11, env = [some (.obj false .sq (dI ns)), some (.int (x : Int)), some b, some (houseD r ds), some (.lst false (dI cs)), some (.lst false (doorsD moves)), some (.lst false (rowsD rows)), some (.lst false (dI tr)), some (tapeD beads looks), some (.int (y : Int)), some (.lst false (dI t1)), q11, o12, o13]) ⟨_, rfl⟩ ?_ ?_
        · rintro done3 t rest3 e3 env ⟨q11, rfl⟩ K3 kk3
          have ht := trs t (e3 ▸ List.mem_append_right _ (List.mem_cons_self ..))
          simp
          refine right_ok (told t ht.2) (hpl t ht.1) ?_
          simp
          exact kk3 _ ⟨_, rfl⟩
        · rintro env ⟨q11, rfl⟩
          simp
          refine look_ok h (by omega) hh (by decide) hg (by decide) fun q b h hq => ?_
          simp
          refine ⟨by show _ ≤ 16777216; omega, ?_⟩
          rw [show looksD looks ++ [quadD q] = looksD (looks ++ [q]) by simp [looksD]]
          simp only [frzL_looks]
          refine kk2 _ ⟨b, looks ++ [q], _, _, _, _, _, h.mono (by simp; omega), by simp [hlk], ?_, rfl⟩
          intro z hz
          rcases List.mem_append.mp hz with hz | hz
          · exact hlq z hz
          · rw [List.mem_singleton.mp hz]; exact hq
      · rintro env ⟨b, looks, q9, q10, q11, o12, o13, h, hlk, hlq, rfl⟩
        exact kk _ ⟨_, _, _, _, _, _, _, _, _, _, _, _, _, rfl⟩
  · rintro env ⟨q1, q2, q3, q4, q5, q6, q7, q8, q9, q10, q11, q12, q13, rfl⟩
    simp
    refine story_ok (r := 2) (ds := [(0, 1)]) (cs := [1, 0]) (beads := []) (looks := [(0, 0, 1, 1)]) (ways := []) ⟨by decide, by decide, rfl, by decide, by decide, by decide, by decide, by decide⟩ ?_
    have : judge [(0, 1)] [1, 0] [] [(0, 0, 1, 1)] [] = true := by decide
    rw [this]
    simp
end LAW_K42

namespace LAW_K70
open PySem L2 PL JUG
open LAW_K42 (tapeD Told judge)
open LAW_K41 (Asked mostV leastV doors_getD)
theorem dip_ok {k : Nat} {b : D} {many : Int} {R : D → En → Prop} (h : Jug k b) (hk : k < 2 ^ 40) (hm : 0 < many) (hm2 : many < 2 ^ 80)
    (kk : ∀ v b', Jug (k + 1) b' → 0 ≤ v → v < many → R (.int v) [some b', some (.int many)]) : F_law_dip [b, .int many] R := JUG.dip_ok h hk hm hm2 kk
abbrev Beads := List (Int × Int)
abbrev Looks := List (Int × Int × Int × Int)
/-- a stretch -/
def tripD (q : Int × Int × Int) : D := .tup [.int q.1, .int q.2.1, .int q.2.2]
@[simp] theorem fz_trip (q) : (tripD q).fz = true := rfl
@[simp] theorem frz_trip (q) : (tripD q).frz = tripD q := rfl
def tripsD (S : List (Int × Int × Int)) : List D := S.map tripD
@[simp] theorem fzL_trips (S) : D.fzL (tripsD S) = true := fzL_map fz_trip S
@[simp] theorem frzL_trips (S) : D.frzL (tripsD S) = tripsD S := frzL_mapE fz_trip S
@[simp] theorem len_trips (S) : (tripsD S).length = S.length := List.length_map ..
@[simp ↓] theorem trip_0 {q} {R : D → Prop} : rdIx (tripD q) (.sc (.int 0)) R = R (.int q.1) := by simp [tripD]
@[simp ↓] theorem trip_1 {q} {R : D → Prop} : rdIx (tripD q) (.sc (.int 1)) R = R (.int q.2.1) := by simp [tripD]
@[simp ↓] theorem trip_2 {q} {R : D → Prop} : rdIx (tripD q) (.sc (.int 2)) R = R (.int q.2.2) := by simp [tripD]
@[simp ↓] theorem gTrip {q} {gs : WGs} {env : En} {R : En → Prop} : gTp 3 gs (tripD q) env R = gs [.int q.1, .int q.2.1, .int q.2.2] env R := by simp [tripD]
/-- right stretches, one a room at most -/
structure St (r n : Int) (S : List (Int × Int × Int)) : Prop where
  rise : S.Pairwise fun p q => p.1 < q.1
  ok : ∀ q ∈ S, 0 ≤ q.1 ∧ q.1 < r ∧ 1 ≤ q.2.1 ∧ q.2.1 ≤ q.2.2 ∧ q.2.2 ≤ n
  len : S.length ≤ 200
theorem alike_ii (a b : Int) : PySem.W.alike (.int a) (.int b) = true := rfl
theorem lt_int {a b : Int} (h : a < b) : PySem.W.dataLt (.int a) (.int b) = true := by
  show PyProof.Rows.lexLt PyProof.Rows.itemOrd [.inl a] [.inl b] = true
  unfold PyProof.Rows.lexLt
  rw [show PyProof.Rows.itemOrd.blt (.inl a) (.inl b) = true from decide_eq_true h]; rfl
theorem dLt_trip {p q : Int × Int × Int} (h : p.1 < q.1) : dLt (tripD p) (tripD q) = true := by
  show PySem.W.dataLt (.tuple [.int p.1, .int p.2.1, .int p.2.2]) (.tuple [.int q.1, .int q.2.1, .int q.2.2]) = true
  rw [PySem.W.dataLt_tuple, PySem.W.dataLt_cons (alike_ii _ _), if_neg]
  · exact lt_int h
  · show ¬ (p.1 == q.1) = true
    simp; omega
theorem most_ok {r : Int} {ds : List (Int × Int)} {cs : List Int} {beads looks room moment} {R : D → En → Prop} (A : Asked r ds cs beads looks) (r0 : 0 ≤ room) (r1 : room < r)
    (k : R (.int (mostV ds cs beads looks room moment)) [some (houseD r ds), some (.lst false (dI cs)), some (tapeD beads looks), some (.int room), some (.int moment)]) :
    F_most_out [houseD r ds, .lst false (dI cs), tapeD beads looks, .int room, .int moment] R := LAW_K41.most_ok A r0 r1 k
theorem least_ok {r : Int} {ds : List (Int × Int)} {cs : List Int} {beads looks room moment} {R : D → En → Prop} (A : Asked r ds cs beads looks) (r0 : 0 ≤ room) (r1 : room < r)
    (k : R (.int (leastV ds cs beads looks room moment)) [some (houseD r ds), some (.lst false (dI cs)), some (tapeD beads looks), some (.int room), some (.int moment)]) :
    F_least_out [houseD r ds, .lst false (dI cs), tapeD beads looks, .int room, .int moment] R := LAW_K41.least_ok A r0 r1 k
theorem outs_ok {r : Int} {ds : List (Int × Int)} {cs : List Int} {beads looks room moment} {R : D → En → Prop} (A : Asked r ds cs beads looks) (r0 : 0 ≤ room) (r1 : room < r)
    (k : R (.lst true [.int (leastV ds cs beads looks room moment), .int (mostV ds cs beads looks room moment)]) [some (houseD r ds), some (.lst false (dI cs)), some (tapeD beads looks), some (.int room), some (.int moment)]) :
    F_law_outs [houseD r ds, .lst false (dI cs), tapeD beads looks, .int room, .int moment] R := LAW_K41.outs_ok A r0 r1 k
theorem story_ok {r : Int} {ds : List (Int × Int)} {cs ways : List Int} {beads looks} {R : D → En → Prop} (A : Told r ds cs beads looks ways)
    (k : R (.bl (judge ds cs beads looks ways)) [some (houseD r ds), some (.lst false (dI cs)), some (tapeD beads looks), some (.lst false (dI ways))]) : F_story_right [houseD r ds, .lst false (dI cs), tapeD beads looks, .lst false (dI ways)] R := LAW_K42.story_ok A k
theorem stands_ok {r : Int} {ds : List (Int × Int)} {cs ways : List Int} {beads looks} {R : D → En → Prop} (A : Told r ds cs beads looks ways)
    (k : R (.bl (judge ds cs beads looks ways)) [some (houseD r ds), some (.lst false (dI cs)), some (tapeD beads looks), some (.lst false (dI ways))]) : F_law_stands [houseD r ds, .lst false (dI cs), tapeD beads looks, .lst false (dI ways)] R := LAW_K42.stands_ok A k
/-! the rooms that a bead may have left -/
def doorOf (ds : List (Int × Int)) (bd : Int × Int) : Int × Int := ds.getD bd.1.toNat (0, 0)
def mayL (ds : List (Int × Int)) (bd : Int × Int) : List Int := if bd.2 = -1 then [(doorOf ds bd).1, (doorOf ds bd).2] else [if bd.2 = 0 then (doorOf ds bd).1 else (doorOf ds bd).2]
theorem may_ok {r : Int} {ds : List (Int × Int)} {bd : Int × Int} {R : D → En → Prop} (h0 : 0 ≤ bd.1) (h1 : bd.1 < ds.length) (hw : -1 ≤ bd.2 ∧ bd.2 < 2) (k : ∀ o, R (.lst o (dI (mayL ds bd))) [some (houseD r ds), some (pairD bd)]) : F_may_leave [houseD r ds, pairD bd] R := by
  refine ⟨rfl, ?_⟩
  show wb_may_leave [some (houseD r ds), some (pairD bd), none, none, none] _
  have e := doors_getD h0 h1
  unfold mayL doorOf at k
  generalize ds.getD bd.1.toNat (0, 0) = p at *
  obtain ⟨d, w⟩ := bd
  simp only at h0 h1 hw e k
  unfold wb_may_leave
  simp [pairD, houseD, e]
  by_cases hm : w = -1
  · subst hm
    simp
    exact k false
  · rcases (show w = 0 ∨ w = 1 by omega) with rfl | rfl
    · simp
      exact k true
    · simp
      exact k true
/-! stretches about a moment -/
def inSome (S : List (Int × Int × Int)) (room m : Int) : Bool := S.any fun q => decide (q.1 = room) && (decide (q.2.1 ≤ m) && decide (m ≤ q.2.2))
theorem in_some_ok {S : List (Int × Int × Int)} {room m : Int} {R : D → En → Prop} (hl : S.length ≤ 200) (k : R (.bl (inSome S room m)) [some (.lst false (tripsD S)), some (.int room), some (.int m)]) : F_in_some [.lst false (tripsD S), .int room, .int m] R := by
  refine ⟨rfl, ?_⟩
  show wb_in_some [some (.lst false (tripsD S)), some (.int room), some (.int m), none, none, none] _
  unfold wb_in_some
  simp
  refine compD_map tripD S (fun env => ∃ q3 q4 q5, env = [some (.lst false (tripsD S)), some (.int room), some (.int m), q3, q4, q5]) (fun q => .sc (.bl (decide (q.1 = room) && (decide (q.2.1 ≤ m) && decide (m ≤ q.2.2))))) (by show _ ≤ 16777216; omega) ⟨_, _, _, rfl⟩ ?_ ?_
  · rintro q hq env ⟨q3, q4, q5, rfl⟩ K kk
    simp
    by_cases h1 : q.1 = room <;> by_cases h2 : q.2.1 ≤ m <;> simp [h1, h2] at kk ⊢ <;> exact kk _ _ _ _ rfl
  · rintro env ⟨q3, q4, q5, rfl⟩
    rw [show S.map (fun q => D.sc (V.bl (decide (q.1 = room) && (decide (q.2.1 ≤ m) && decide (m ≤ q.2.2))))) = (S.map fun q => decide (q.1 = room) && (decide (q.2.1 ≤ m) && decide (m ≤ q.2.2))).map fun n => D.sc (V.bl n) by rw [List.map_map]; rfl, e_any]
    unfold inSome at k
    rw [List.any_map]
    simp
    exact k
def endsL (S : List (Int × Int × Int)) : List (Int × Int) := S.map (fun q => (q.1, q.2.1 - 1)) ++ S.map fun q => (q.1, q.2.2)
theorem ends_of_ok {S : List (Int × Int × Int)} {R : D → En → Prop} (hl : S.length ≤ 200) (k : R (.lst true (doorsD (endsL S))) [some (.lst false (tripsD S))]) : F_ends_of [.lst false (tripsD S)] R := by
  refine ⟨rfl, ?_⟩
  show wb_ends_of [some (.lst false (tripsD S)), none, none, none] _
  unfold wb_ends_of
  simp
  refine compD_map tripD S (fun env => ∃ q1 q2 q3, env = [some (.lst false (tripsD S)), q1, q2, q3]) (fun q => pairD (q.1, q.2.1 - 1)) (by show _ ≤ 16777216; omega) ⟨_, _, _, rfl⟩ ?_ ?_
  · rintro q hq env ⟨q1, q2, q3, rfl⟩ K kk
    simp
    exact kk _ ⟨_, _, _, rfl⟩
  rintro env ⟨q1, q2, q3, rfl⟩
  simp
  refine compD_map tripD S (fun env => ∃ q1 q2 q3, env = [some (.lst false (tripsD S)), q1, q2, q3]) (fun q => pairD (q.1, q.2.2)) (by show _ ≤ 16777216; omega) ⟨_, _, _, rfl⟩ ?_ ?_
  · rintro q hq env ⟨q1, q2, q3, rfl⟩ K kk
    simp
    exact kk _ ⟨_, _, _, rfl⟩
  rintro env ⟨q1, q2, q3, rfl⟩
  simp
  rw [show S.map (fun q => pairD (q.1, q.2.1 - 1)) = doorsD (S.map fun q => (q.1, q.2.1 - 1)) by unfold doorsD; rw [List.map_map]; rfl, show S.map (fun q => pairD (q.1, q.2.2)) = doorsD (S.map fun q => (q.1, q.2.2)) by unfold doorsD; rw [List.map_map]; rfl]
  refine ⟨fzL_doors _, fzL_doors _, by show _ ≤ 16777216; omega, ?_⟩
  rw [show doorsD (S.map fun q => (q.1, q.2.1 - 1)) ++ doorsD (S.map fun q => (q.1, q.2.2)) = doorsD (endsL S) by simp [doorsD, endsL]]
  exact k
/-! right stretches -/
theorem zip_next (S : List (Int × Int × Int)) : zipD (tripsD S) (tripsD (S.drop 1)) = (S.zip (S.drop 1)).map fun p => D.tup [tripD p.1, tripD p.2] := zipD_map _ _ _ _
theorem next_lt {S : List (Int × Int × Int)} (h : S.Pairwise fun p q => p.1 < q.1) : ∀ p ∈ S.zip (S.drop 1), p.1.1 < p.2.1 := by
  induction S with
  | nil => intro p hp; simp at hp
  | cons a S ih =>
    intro p hp
    cases S with
    | nil => simp at hp
    | cons b S =>
      rw [List.drop_one, List.tail_cons, List.zip_cons_cons] at hp
      rcases List.mem_cons.mp hp with rfl | hp
      · exact (List.pairwise_cons.mp h).1 b (List.mem_cons_self ..)
      · exact ih (List.pairwise_cons.mp h).2 p (by rw [List.drop_one, List.tail_cons]; exact hp)
theorem cut1 {α : Type} (S : List α) : cutD S (some 1) none = S.drop 1 := by
  unfold cutD
  rw [show HT.sIx S.length S.length none = S.length from rfl, show HT.sIx S.length 0 (some 1) = min 1 S.length from rfl]
  cases S with
  | nil => rfl
  | cons a S => simp [show min 1 (S.length + 1) = 1 by omega]
theorem ly_trip (q) : Ly (tripD q) 1 := .tup (.cons .int (.cons .int (.cons .int .nil)))
theorem stretches_ok {r : Int} {ds : List (Int × Int)} {beads looks} {S : List (Int × Int × Int)} {R : D → En → Prop} (hS : St r beads.length S)
    (k : R (.bl true) [some (houseD r ds), some (tapeD beads looks), some (.lst false (tripsD S))]) : F_are_stretches [houseD r ds, tapeD beads looks, .lst false (tripsD S)] R := by
  refine ⟨rfl, ?_⟩
  show wb_are_stretches [some (houseD r ds), some (tapeD beads looks), some (.lst false (tripsD S)), none, none, none, none, none] _
  have hl := hS.len
  unfold wb_are_stretches
  simp
  refine loopD_all tripD S (fun _ env => ∃ q3 q4 q5, env = [some (houseD r ds), some (tapeD beads looks), some (.lst false (tripsD S)), q3, q4, q5, none, none]) ⟨_, _, _, rfl⟩ ?_ ?_
  · rintro done q rest e env ⟨q3, q4, q5, rfl⟩ K kk
    obtain ⟨h0, h1, h2, h3, h4⟩ := hS.ok q (by rw [← e]; simp)
    simp [houseD]
    simp [h0, h1, h2, h3, h4, show ¬ r ≤ q.1 by omega, show ¬ (beads.length : Int) < q.2.2 by omega]
    exact kk _ ⟨_, _, _, rfl⟩
  · rintro env ⟨q3, q4, q5, rfl⟩
    simp
    rw [show cutD (tripsD S) (some 1) none = tripsD (S.drop 1) by
      rw [show tripsD S = S.map tripD from rfl, cutD_map]
      rw [show cutD S (some 1) none = S.drop 1 from cut1 S]; rfl]
    simp [-List.drop_one]
    rw [zip_next]
    refine loopD_all _ _ (fun _ env => ∃ q6 q7, env = [some (houseD r ds), some (tapeD beads looks), some (.lst false (tripsD S)), q3, q4, q5, q6, q7]) ⟨_, _, rfl⟩ ?_ ?_
    · rintro done p rest e env ⟨q6, q7, rfl⟩ K kk
      have hp := next_lt hS.rise p (by rw [← e]; simp)
      have hd := dLt_trip hp
      simp
      refine ⟨(ly_trip _).shp (by decide), (ly_trip _).shp (by decide), rfl, (fun z => nomatch z), by show min _ _ ≤ 60; exact Nat.le_trans (Nat.min_le_left _ _) (Nat.le_trans (ly_trip p.1).dep (by decide)), ?_⟩
      simp [hd]
      rw [if_neg (by omega)]
      exact kk _ ⟨_, _, rfl⟩
    · rintro env ⟨q6, q7, rfl⟩
      simp
      exact k
theorem sort_rise {S : List (Int × Int × Int)} (h : S.Pairwise fun p q => p.1 < q.1) : sortD (tripsD S) = tripsD S := by
  unfold sortD
  refine List.mergeSort_of_pairwise ?_
  unfold tripsD
  rw [List.pairwise_map]
  refine h.imp fun {p q} hpq => ?_
  rw [PySem.W.dataLe_eq]
  have := dLt_trip hpq
  have n : dLt (tripD q) (tripD p) = false := by
    rw [← Bool.not_eq_true]
    intro z
    have := dLt_trans this z
    rw [dLt_irrefl] at this
    cases this
  simpa [dLt] using n
theorem ord_trips {S : List (Int × Int × Int)} (hl : S.length ≤ 200) : OrdL (tripsD S) := by
  refine ⟨fzL_trips S, fun x hx => ?_, ?_, ?_, fun x hx => ?_, ?_⟩
  · obtain ⟨q, _, rfl⟩ := List.mem_map.mp hx
    exact (ly_trip q).shp (by decide)
  · unfold tripsD
    rw [D.pyL_map, List.map_map]
    exact PySem.W.AllAlike.of fun b b' => rfl
  · unfold tripsD
    rw [D.pyL_map, List.map_map]
    exact PySem.W.Sortable.tuples fun b => ⟨_, _, rfl⟩
  · obtain ⟨q, _, rfl⟩ := List.mem_map.mp hx
    exact Nat.le_trans (ly_trip q).dep (by decide)
  · rw [len_trips]; show _ ≤ 16777216; omega
theorem lstretches_ok {r : Int} {ds : List (Int × Int)} {beads looks} {S : List (Int × Int × Int)} {R : D → En → Prop} (hS : St r beads.length S)
    (k : R (.bl true) [some (houseD r ds), some (tapeD beads looks), some (.lst false (tripsD S))]) : F_law_are_stretches [houseD r ds, tapeD beads looks, .lst false (tripsD S)] R := by
  refine ⟨rfl, ?_⟩
  show wb_law_are_stretches [some (houseD r ds), some (tapeD beads looks), some (.lst false (tripsD S)), none, none, none, none] _
  have hl := hS.len
  unfold wb_law_are_stretches
  simp
  refine compD_ind tripD (fun env => ∃ q5, env = [some (houseD r ds), some (tapeD beads looks), some (.lst false (tripsD S)), some (.int beads.length), none, q5, none]) (fun q => none) S [] _ (by show _ ≤ 16777216; simp; omega) ⟨_, rfl⟩ ?_ ?_
  · rintro q hq env ⟨q5, rfl⟩ K kk
    obtain ⟨h0, h1, h2, h3, h4⟩ := hS.ok q hq
    simp [houseD]
    simp [h0, h1, h2, h3, h4, show ¬ r ≤ q.1 by omega, show ¬ (beads.length : Int) < q.2.2 by omega]
    exact kk _ ⟨_, rfl⟩
  rintro env ⟨q5, rfl⟩
  rw [show S.filterMap (fun _ => (none : Option D)) = [] from List.filterMap_eq_nil_iff.mpr fun _ _ => rfl]
  simp
  have ly : ∀ o, Ly (.obj o .lst (tripsD S)) 2 := fun o => .lst (.map ly_trip S)
  rw [sort_rise hS.rise]
  refine ⟨ord_trips hl, (ly false).shp (by decide), (ly true).shp (by decide), ?_⟩
  rw [show deq (D.lst false (tripsD S)) (D.lst true (tripsD S)) = true from (ly false).deq_self, if_pos rfl]
  refine ⟨by omega, ?_⟩
  unfold rng
  refine compD_ind _ (fun env => ∃ q6, env = [some (houseD r ds), some (tapeD beads looks), some (.lst false (tripsD S)), some (.int beads.length), some (.lst false []), none, q6]) (fun i => none) (List.range (S.length - 1)) [] _ (by show _ ≤ 16777216; simp; omega) ⟨_, rfl⟩ ?_ ?_
  · rintro i hi env ⟨q6, rfl⟩ K kk
    have hi : i < S.length - 1 := by simpa using hi
    have g1 : L2.atI (tripsD S) (1 + (i : Int)) = some (tripD S[i + 1]) := atI_of (by omega) (by simp [tripsD, show (1 + (i : Int)).toNat = i + 1 by omega, List.getElem?_eq_getElem (show i + 1 < S.length by omega)])
    have g2 : L2.atI (tripsD S) (1 + (i : Int) - 1) = some (tripD S[i]) := atI_of (by omega) (by simp [tripsD, show (1 + (i : Int) - 1).toNat = i by omega, List.getElem?_eq_getElem (show i < S.length by omega)])
    have hlt := (List.pairwise_iff_getElem.mp hS.rise) i (i + 1) (by omega) (by omega) (by omega)
    simp [g1, g2]
    rw [if_neg (by omega)]
    exact kk _ ⟨_, rfl⟩
  · rintro env ⟨q6, rfl⟩
    rw [show (List.range (S.length - 1)).filterMap (fun _ => (none : Option D)) = [] from List.filterMap_eq_nil_iff.mpr fun _ _ => rfl]
    simp
    exact k
/-! papers of looks -/
theorem sl_0 {q : Int × Int × Int × Int} {R : D → Prop} : rdSl (quadD q) none (some 2) R = R (.tup [.int q.1, .int q.2.1]) := LAW_K41.sl_quad
theorem sl_2 {q : Int × Int × Int × Int} {R : D → Prop} : rdSl (quadD q) (some 2) none R = R (pairD (q.2.2.1, q.2.2.2)) := by
  have e : cutD [D.sc (V.int q.1), D.sc (V.int q.2.1), D.sc (V.int q.2.2.1), D.sc (V.int q.2.2.2)] (some 2) none = [.int q.2.2.1, .int q.2.2.2] := rfl
  show (D.fzL _ = true ∧ ¬ (HT.sIx 4 0 (some 2) = 0 ∧ HT.sIx 4 4 none = 4) ∧ R (.tup (cutD _ (some 2) none))) = _
  rw [e]
  have : ¬ (HT.sIx 4 0 (some 2) = 0 ∧ HT.sIx 4 4 none = 4) := by decide
  simp [this, pairD]
/-- a look that is not so at first -/
def offAt (c : Int) (q : Int × Int × Int × Int) : Bool := !(decide (q.2.2.1 ≤ c) && decide (c ≤ q.2.2.2))
def lookV (ds : List (Int × Int)) (cs : List Int) (beads : Beads) (looks : Looks) (moment room : Int) : Bool :=
  if moment = 0 then (looks.filter (LAW_K41.atM room 0)).any (offAt (cs.getD room.toNat 0)) else decide (mostV ds cs beads looks room moment < leastV ds cs beads looks room moment)
theorem deq_p2 {a b c d : Int} : deq (.tup [.sc (.int a), .sc (.int b)]) (.tup [.sc (.int c), .sc (.int d)]) = (decide (a = c) && decide (b = d)) := by
  show ((a == c) && ((b == d) && true)) = _
  rw [Bool.and_true]
  simp [Bool.beq_eq_decide_eq]
theorem look_wrong_ok {r : Int} {ds : List (Int × Int)} {cs : List Int} {beads looks} {moment room : Int} {R : D → En → Prop} (A : Asked r ds cs beads looks) (r0 : 0 ≤ room) (r1 : room < r)
    (k : R (.bl (lookV ds cs beads looks moment room)) [some (houseD r ds), some (.lst false (dI cs)), some (tapeD beads looks), some (.int moment), some (.int room)]) : F_look_wrong [houseD r ds, .lst false (dI cs), tapeD beads looks, .int moment, .int room] R := by
  refine ⟨rfl, ?_⟩
  show wb_look_wrong [some (houseD r ds), some (.lst false (dI cs)), some (tapeD beads looks), some (.int moment), some (.int room), none, none, none, none] _
  unfold wb_look_wrong
  have hk := A.hk
  have hc := A.hc
  unfold lookV at k
  by_cases h0 : moment = 0
  · subst h0
    rw [if_pos rfl] at k
    have ea := dI_atI (ns := cs) (i := room) r0 (by omega)
    generalize cs.getD room.toNat 0 = c at *
    simp
    refine compD_ind quadD (fun env => ∃ q6, env = [some (houseD r ds), some (.lst false (dI cs)), some (tapeD beads looks), some (.int 0), some (.int room), none, q6, none, none]) (fun q => if LAW_K41.atM room 0 q = true then some (pairD (q.2.2.1, q.2.2.2)) else none) looks [] _ (by show _ ≤ 16777216; simp; omega) ⟨_, rfl⟩ ?_ ?_
    · rintro q hq env ⟨q6, rfl⟩ K kk
      simp [sl_0, sl_2]
      refine ⟨(ly_pair (q.1, q.2.1)).shp (by decide), (ly_pair (0, room)).shp (by decide), ?_⟩
      rw [deq_p2]
      by_cases h1 : q.1 = 0 <;> by_cases h2 : q.2.1 = room <;> simp [LAW_K41.atM, h1, h2] at kk ⊢ <;> exact kk _
    · rintro env ⟨q6, rfl⟩
      rw [List.nil_append, LAW_K41.filterMap_if]
      have hl : (looks.filter (LAW_K41.atM room 0)).length ≤ looks.length := List.length_filter_le ..
      generalize looks.filter (LAW_K41.atM room 0) = ls at *
      rw [show ls.map (fun q => pairD (q.2.2.1, q.2.2.2)) = doorsD (ls.map fun q => (q.2.2.1, q.2.2.2)) by unfold doorsD; rw [List.map_map]; rfl]
      simp
      rw [show doorsD (ls.map fun q => (q.2.2.1, q.2.2.2)) = ls.map (fun q => pairD (q.2.2.1, q.2.2.2)) by unfold doorsD; rw [List.map_map]; rfl]
      refine compD_map (fun q : Int × Int × Int × Int => pairD (q.2.2.1, q.2.2.2)) ls (fun env => ∃ q5 q6 q7 q8, env = [some (houseD r ds), some (.lst false (dI cs)), some (tapeD beads looks), some (.int 0), some (.int room), q5, q6, q7, q8]) (fun q => .sc (.bl (offAt c q))) (by show _ ≤ 16777216; omega) ⟨_, _, _, _, rfl⟩ ?_ ?_
      · rintro q hq env ⟨q5, q6, q7, q8, rfl⟩ K kk
        simp [pairD, ea]
        by_cases h1 : q.2.2.1 ≤ c <;> simp [h1, offAt] at kk ⊢ <;> exact kk _ _ _ _ _ rfl
      · rintro env ⟨q5, q6, q7, q8, rfl⟩
        rw [show ls.map (fun q => D.sc (V.bl (offAt c q))) = (ls.map (offAt c)).map fun n => D.sc (V.bl n) by rw [List.map_map]; rfl, e_any, List.any_map]
        simp
        exact k
  · rw [if_neg h0] at k
    simp [h0]
    refine least_ok A r0 r1 ?_
    simp
    refine most_ok A r0 r1 ?_
    simp
    exact k
theorem looked_wrong_ok {r : Int} {ds : List (Int × Int)} {cs : List Int} {beads looks} {moment room : Int} {R : D → En → Prop} (A : Asked r ds cs beads looks) (r0 : 0 ≤ room) (r1 : room < r) (m0 : 0 ≤ moment) (m1 : moment ≤ beads.length)
    (k : R (.bl (lookV ds cs beads looks moment room)) [some (houseD r ds), some (.lst false (dI cs)), some (tapeD beads looks), some (.int moment), some (.int room)]) : F_law_looked_wrong [houseD r ds, .lst false (dI cs), tapeD beads looks, .int moment, .int room] R := by
  refine ⟨rfl, ?_⟩
  show wb_law_looked_wrong [some (houseD r ds), some (.lst false (dI cs)), some (tapeD beads looks), some (.int moment), some (.int room), none, none, none] _
  unfold wb_law_looked_wrong
  have hk := A.hk
  have hc := A.hc
  simp [houseD, r0, r1, m0, m1]
  have ea := dI_atI (ns := cs) (i := room) r0 (by omega)
  refine compD_ind quadD (fun env => ∃ q7, env = [some (houseD r ds), some (.lst false (dI cs)), some (tapeD beads looks), some (.int moment), some (.int room), none, none, q7]) (fun q => if (LAW_K41.atM room 0 q && offAt (cs.getD room.toNat 0) q) = true then some (quadD q) else none) looks [] _ (by show _ ≤ 16777216; simp; omega) ⟨_, rfl⟩ ?_ ?_
  · rintro q hq env ⟨q7, rfl⟩ K kk
    generalize cs.getD room.toNat 0 = c at *
    simp [sl_0]
    refine ⟨(ly_pair (q.1, q.2.1)).shp (by decide), (ly_pair (0, room)).shp (by decide), ?_⟩
    rw [deq_p2]
    by_cases h1 : q.1 = 0 <;> by_cases h2 : q.2.1 = room <;> simp [LAW_K41.atM, h1, h2, ea] at kk ⊢
    · by_cases h3 : q.2.2.1 ≤ c <;> by_cases h4 : c ≤ q.2.2.2 <;> simp [h3, h4, offAt, show (q.2.2.2 < c) ↔ ¬ c ≤ q.2.2.2 by omega] at kk ⊢ <;> exact kk _
    all_goals exact kk _
  · rintro env ⟨q7, rfl⟩
    rw [List.nil_append, LAW_K41.filterMap_if, show looks.filter (fun q => LAW_K41.atM room 0 q && offAt (cs.getD room.toNat 0) q) = (looks.filter (LAW_K41.atM room 0)).filter (offAt (cs.getD room.toNat 0)) by rw [List.filter_filter]; exact List.filter_congr fun q _ => Bool.and_comm ..]
    unfold lookV at k
    have hl : (looks.filter (LAW_K41.atM room 0)).length ≤ looks.length := List.length_filter_le ..
    generalize cs.getD room.toNat 0 = c at *
    generalize looks.filter (LAW_K41.atM room 0) = ls at *
    rw [show (ls.filter (offAt c)).map quadD = looksD (ls.filter (offAt c)) from rfl]
    have ly : Ly (.obj false .lst (looksD (ls.filter (offAt c)))) 2 := .lst (.map (fun q => .tup (.cons .int (.cons .int (.cons .int (.cons .int .nil))))) _)
    have emp : (looksD (ls.filter (offAt c))).isEmpty = !ls.any (offAt c) := by
      rw [Bool.eq_iff_iff]
      simp [looksD]
    simp
    refine outs_ok A r0 r1 ?_
    simp
    by_cases h0 : moment = 0
    · subst h0
      simp [mostV, leastV, emp] at k ⊢
      exact ⟨ly.shp (by decide), k⟩
    · rw [if_neg h0] at k
      by_cases h1 : mostV ds cs beads looks room moment < leastV ds cs beads looks room moment <;> simp [h0, h1] at k ⊢ <;> exact k
/-! sheets of stretches -/
theorem inSome_over {S : List (Int × Int × Int)} {room m : Int} : inSome S room m = decide (room ∈ (S.filter fun q => decide (q.2.1 ≤ m) && decide (m ≤ q.2.2)).map fun q => q.1) := by
  unfold inSome
  rw [Bool.eq_iff_iff]
  simp only [List.any_eq_true, decide_eq_true_iff, List.mem_map, List.mem_filter, Bool.and_eq_true]
  constructor
  · rintro ⟨q, hq, h1, h2, h3⟩; exact ⟨q, ⟨hq, h2, h3⟩, h1⟩
  · rintro ⟨q, ⟨hq, h2, h3⟩, h1⟩; exact ⟨q, hq, h1, h2, h3⟩
/-- which of a bead's rooms have a stretch with it -/
def hitL (ds : List (Int × Int)) (S : List (Int × Int × Int)) (i : Nat) (bd : Int × Int) : List Bool := (mayL ds bd).map fun room => inSome S room ((i : Int) + 1)
def hitsL (ds : List (Int × Int)) (S : List (Int × Int × Int)) (beads : Beads) (n : Nat) : List (List Bool) := (List.range n).map fun i => hitL ds S i (beads.getD i (0, 0))
def boolsD (o : Bool) (l : List Bool) : D := .lst o (l.map fun b => D.sc (V.bl b))
@[simp] theorem fz_bools (l : List Bool) : (boolsD false l).fz = true := by
  simp only [boolsD, fz_frzn]
  exact fzL_map (fun b => rfl) l
@[simp] theorem frz_bools (o : Bool) (l : List Bool) : (boolsD o l).frz = boolsD false l := by
  show D.obj false .lst (D.frzL _) = _
  rw [frzL_mapE (fun b => rfl)]; rfl
def hitsD (H : List (List Bool)) : List D := H.map (boolsD false)
@[simp] theorem fzL_hits (H) : D.fzL (hitsD H) = true := fzL_map fz_bools H
@[simp] theorem frzL_hits (H) : D.frzL (hitsD H) = hitsD H := frzL_mapE fz_bools H
@[simp] theorem len_hits (H) : (hitsD H).length = H.length := List.length_map ..
def sumTop (ds : List (Int × Int)) (cs : List Int) (beads : Beads) (looks : Looks) (S : List (Int × Int × Int)) : Int := (S.map fun q => mostV ds cs beads looks q.1 q.2.2 - leastV ds cs beads looks q.1 (q.2.1 - 1)).sum
def sumNeed (ds : List (Int × Int)) (cs : List Int) (beads : Beads) (looks : Looks) (S : List (Int × Int × Int)) : Int := (S.map fun q => leastV ds cs beads looks q.1 q.2.2 - mostV ds cs beads looks q.1 (q.2.1 - 1)).sum
def sheetV (w : String) (ds : List (Int × Int)) (cs : List Int) (beads : Beads) (looks : Looks) (S : List (Int × Int × Int)) : Bool :=
  if w = "many" then decide (sumTop ds cs beads looks S < (((hitsL ds S beads beads.length).filter fun l => l.all id).length : Nat)) else decide (((((hitsL ds S beads beads.length).filter fun l => l.any id).length : Nat) : Int) < sumNeed ds cs beads looks S)
theorem paper_look_ok {r : Int} {ds : List (Int × Int)} {cs : List Int} {beads looks} {moment room : Int} {R : D → En → Prop} (A : Asked r ds cs beads looks) (r0 : 0 ≤ room) (r1 : room < r) (m0 : 0 ≤ moment) (m1 : moment ≤ beads.length)
    (k : R (.bl (lookV ds cs beads looks moment room)) [some (houseD r ds), some (.lst false (dI cs)), some (tapeD beads looks), some (.tup [.str "look", .int moment, .int room])]) : F_paper_right [houseD r ds, .lst false (dI cs), tapeD beads looks, .tup [.str "look", .int moment, .int room]] R := by
  refine ⟨rfl, ?_⟩
  show wb_paper_right [some (houseD r ds), some (.lst false (dI cs)), some (tapeD beads looks), some (.tup [.str "look", .int moment, .int room]), none, none, none, none, none, none, none, none, none, none, none, none, none, none] _
  unfold wb_paper_right
  simp [houseD, r0, r1, m0, m1, show ¬ (beads.length : Int) < moment by omega, show ¬ r ≤ room by omega]
  refine look_wrong_ok A r0 r1 ?_
  simp
  exact k
structure BeadsOk (ds : List (Int × Int)) (beads : Beads) : Prop where
  hw : ∀ q ∈ beads, -1 ≤ q.2 ∧ q.2 < 2
theorem seeO {o : Option D} {env : En} : seeE (o :: env) = o.map D.frz :: seeE env := rfl
theorem bead_at {beads : Beads} {i : Nat} (h : i < beads.length) : (doorsD beads).getD i .non = pairD (beads.getD i (0, 0)) ∧ beads.getD i (0, 0) ∈ beads := by
  simp [doorsD, List.getD_eq_getElem?_getD, List.getElem?_eq_getElem h]
theorem paper_sheet_ok {r : Int} {ds : List (Int × Int)} {cs : List Int} {beads looks} {S : List (Int × Int × Int)} {w : String} {R : D → En → Prop} (A : Asked r ds cs beads looks) (hB : ∀ q ∈ beads, -1 ≤ q.2 ∧ q.2 < 2) (hS : St r beads.length S) (hw : w = "many" ∨ w = "few")
    (k : R (.bl (sheetV w ds cs beads looks S)) [some (houseD r ds), some (.lst false (dI cs)), some (tapeD beads looks), some (.tup [.str w, .lst false (tripsD S)])]) : F_paper_right [houseD r ds, .lst false (dI cs), tapeD beads looks, .tup [.str w, .lst false (tripsD S)]] R := by
  refine ⟨rfl, ?_⟩
  show wb_paper_right [some (houseD r ds), some (.lst false (dI cs)), some (tapeD beads looks), some (.tup [.str w, .lst false (tripsD S)]), none, none, none, none, none, none, none, none, none, none, none, none, none, none] _
  have hl := hS.len
  have hbl := A.hl
  have hb := A.hb
  have hnl : ¬ (w = "look") := by rcases hw with rfl | rfl <;> decide
  unfold wb_paper_right
  simp
  refine ⟨hnl, stretches_ok hS ?_⟩
  simp
  rw [LAW_K42.enumD_map, len_doors]
  refine loopD_all _ _ (fun done env => ∃ q6 q9 q10, env = [some (houseD r ds), some (.lst false (dI cs)), some (tapeD beads looks), some (.tup [.str w, .lst false (tripsD S)]), some (.str w), none, q6, some (.lst false (tripsD S)), some (.lst true (hitsD (hitsL ds S beads done.length))), q9, q10, none, none, none, none, none, none, none]) ⟨_, _, _, rfl⟩ ?_ ?_
  · rintro done i rest e env ⟨q6, q9, q10, rfl⟩ K kk
    obtain ⟨hi, hi2⟩ := range_done e
    obtain ⟨g1, g2⟩ := bead_at (beads := beads) (i := i) (by omega)
    have hb1 := hb _ g2
    have hb2 := hB _ g2
    rw [g1]
    have hml : (mayL ds (beads.getD i (0, 0))).length ≤ 2 := by unfold mayL; split <;> simp
    have hH : (hitsL ds S beads done.length).length = done.length := by simp [hitsL]
    have nxt : hitsL ds S beads (done.length + 1) = hitsL ds S beads done.length ++ [hitL ds S i (beads.getD i (0, 0))] := by
      unfold hitsL
      rw [List.range_succ, List.map_append, List.map_singleton, hi]
    rw [List.length_append, List.length_singleton, nxt] at kk
    unfold hitL at kk
    generalize hitsL ds S beads done.length = H at *
    generalize beads.getD i (0, 0) = bd at *
    simp
    refine may_ok hb1.1 hb1.2 hb2 fun o => ?_
    generalize mayL ds bd = M at *
    simp
    cases o
    all_goals
      refine compD_map (fun n => D.sc (V.int n)) M (fun env => ∃ q6, env = [some (houseD r ds), some (.lst false (dI cs)), some (tapeD beads looks), some (.tup [.str w, .lst false (tripsD S)]), some (.str w), none, q6, some (.lst false (tripsD S)), some (.lst true (hitsD H)), some (.int i), some (pairD bd), none, none, none, none, none, none, none]) (fun room => .sc (.bl (inSome S room ((i : Int) + 1)))) (by show _ ≤ 16777216; omega) ⟨_, rfl⟩ ?_ ?_
      · rintro room hroom env ⟨q6, rfl⟩ K kk
        simp
        refine in_some_ok hl ?_
        simp
        exact kk _ ⟨_, rfl⟩
      · rintro env ⟨q6, rfl⟩
        simp
        refine ⟨by show _ < 16777216; omega, ?_⟩
        rw [show (D.obj false Sh.lst (D.frzL (M.map fun room => D.sc (V.bl (inSome S room ((i : Int) + 1)))))) = boolsD false (M.map fun room => inSome S room ((i : Int) + 1)) by
          rw [frzL_mapE (fun room => rfl)]; unfold boolsD; rw [List.map_map]; rfl]
        rw [show hitsD H ++ [boolsD false (M.map fun room => inSome S room ((i : Int) + 1))] = hitsD (H ++ [M.map fun room => inSome S room ((i : Int) + 1)]) by simp [hitsD]]
        exact kk _ ⟨_, _, _, rfl⟩
  rintro env ⟨q6, q9, q10, rfl⟩
  rw [List.length_range]
  simp
  refine ends_of_ok hl ?_
  simp
  have hE : ∀ p ∈ endsL S, 0 ≤ p.1 ∧ p.1 < r := by
    intro p hp
    rcases List.mem_append.mp hp with hp | hp <;> (obtain ⟨q, hq, rfl⟩ := List.mem_map.mp hp; exact ⟨(hS.ok q hq).1, (hS.ok q hq).2.1⟩)
  have hEl : (endsL S).length ≤ 400 := by unfold endsL; simp; omega
  have m1 : ∀ q ∈ S, (q.1, q.2.1 - 1) ∈ endsL S := fun q hq => List.mem_append_left _ (List.mem_map.mpr ⟨q, hq, rfl⟩)
  have m2 : ∀ q ∈ S, (q.1, q.2.2) ∈ endsL S := fun q hq => List.mem_append_right _ (List.mem_map.mpr ⟨q, hq, rfl⟩)
  have hHl : (hitsL ds S beads beads.length).length ≤ 1000 := by unfold hitsL; simp; omega
  unfold sheetV at k
  generalize hitsL ds S beads beads.length = H at *
  refine dcompT_all pairD (fun env => ∃ q5 q6, env = [some (houseD r ds), some (.lst false (dI cs)), some (tapeD beads looks), some (.tup [.str w, .lst false (tripsD S)]), some (.str w), q5, q6, some (.lst false (tripsD S)), some (.lst true (hitsD H)), q9, q10, none, none, none, none, none, none, none]) (fun p => [.inl p.1, .inl p.2]) (fun p => .int (mostV ds cs beads looks p.1 p.2)) (endsL S) [] _ (by show _ ≤ 16777216; simp; omega) ⟨_, _, rfl⟩ ?_ ?_
  · rintro p hp env ⟨q5, q6, rfl⟩ Kc Kn kk
    simp [pairD]
    refine ⟨[.inl p.1, .inl p.2], rfl, by show 2 ≤ 16777216; decide, most_ok A (hE p hp).1 (hE p hp).2 ?_⟩
    simp
    exact kk _ ⟨_, _, rfl⟩
  rintro env ⟨q5, q6', rfl⟩
  have get1 : ∀ p ∈ endsL S, valV (putAll (fun p : Int × Int => [.inl p.1, .inl p.2]) (fun p => V.int (mostV ds cs beads looks p.1 p.2)) (endsL S) []) [.inl p.1, .inl p.2] = some (.int (mostV ds cs beads looks p.1 p.2)) := fun p hp =>
    putAll_get (G := fun k => match k with | [.inl a, .inl b] => .int (mostV ds cs beads looks a b) | _ => .non) (kf := fun p : Int × Int => [.inl p.1, .inl p.2]) (fun _ _ => rfl) hp
  generalize putAll (fun p : Int × Int => [.inl p.1, .inl p.2]) (fun p => V.int (mostV ds cs beads looks p.1 p.2)) (endsL S) [] = M1 at *
  simp
  refine ends_of_ok hl ?_
  simp
  refine dcompT_all pairD (fun env => ∃ q5 q6, env = [some (houseD r ds), some (.lst false (dI cs)), some (tapeD beads looks), some (.tup [.str w, .lst false (tripsD S)]), some (.str w), q5, q6, some (.lst false (tripsD S)), some (.lst true (hitsD H)), q9, q10, some (dctD false M1), none, none, none, none, none, none]) (fun p => [.inl p.1, .inl p.2]) (fun p => .int (leastV ds cs beads looks p.1 p.2)) (endsL S) [] _ (by show _ ≤ 16777216; simp; omega) ⟨_, _, rfl⟩ ?_ ?_
  · rintro p hp env ⟨q5, q6, rfl⟩ Kc Kn kk
    simp [pairD]
    refine ⟨[.inl p.1, .inl p.2], rfl, by show 2 ≤ 16777216; decide, least_ok A (hE p hp).1 (hE p hp).2 ?_⟩
    simp
    exact kk _ ⟨_, _, rfl⟩
  rintro env ⟨q5', q6'', rfl⟩
  have get2 : ∀ p ∈ endsL S, valV (putAll (fun p : Int × Int => [.inl p.1, .inl p.2]) (fun p => V.int (leastV ds cs beads looks p.1 p.2)) (endsL S) []) [.inl p.1, .inl p.2] = some (.int (leastV ds cs beads looks p.1 p.2)) := fun p hp =>
    putAll_get (G := fun k => match k with | [.inl a, .inl b] => .int (leastV ds cs beads looks a b) | _ => .non) (kf := fun p : Int × Int => [.inl p.1, .inl p.2]) (fun _ _ => rfl) hp
  generalize putAll (fun p : Int × Int => [.inl p.1, .inl p.2]) (fun p => V.int (leastV ds cs beads looks p.1 p.2)) (endsL S) [] = M2 at *
  rcases hw with rfl | rfl
  · simp
    refine compD_map tripD S (fun env => ∃ q6 q15 q16, env = [some (houseD r ds), some (.lst false (dI cs)), some (tapeD beads looks), some (.tup [.str "many", .lst false (tripsD S)]), some (.str "many"), none, q6, some (.lst false (tripsD S)), some (.lst true (hitsD H)), q9, q10, some (dctD false M1), some (dctD false M2), none, none, q15, q16, none]) (fun q => .sc (.int (mostV ds cs beads looks q.1 q.2.2 - leastV ds cs beads looks q.1 (q.2.1 - 1)))) (by show _ ≤ 16777216; omega) ⟨_, _, _, rfl⟩ ?_ ?_
    · rintro q hq env ⟨q6, q15, q16, rfl⟩ K kk
      simp
      refine ixDT_of (k := [.inl q.1, .inl q.2.2]) (get1 _ (m2 q hq)) ?_
      simp
      refine ixDT_of (k := [.inl q.1, .inl (q.2.1 - 1)]) (get2 _ (m1 q hq)) ?_
      simp
      exact kk _ ⟨_, _, _, rfl⟩
    rintro env ⟨q6, q15, q16, rfl⟩
    rw [show S.map (fun q => D.sc (V.int (mostV ds cs beads looks q.1 q.2.2 - leastV ds cs beads looks q.1 (q.2.1 - 1)))) = dI (S.map fun q => mostV ds cs beads looks q.1 q.2.2 - leastV ds cs beads looks q.1 (q.2.1 - 1)) by unfold dI; rw [List.map_map]; rfl, e_sum]
    unfold sumTop at k
    generalize (S.map fun q => mostV ds cs beads looks q.1 q.2.2 - leastV ds cs beads looks q.1 (q.2.1 - 1)).sum = top at *
    simp [seeO]
    refine compD_ind (boolsD false) (fun env => ∃ q17 a b c d e f g h i j k m n, env = [some (houseD r ds), some (.lst false (dI cs)), some (tapeD beads looks), some (.tup [.str "many", .lst false (tripsD S)]), a, b, c, d, e, f, g, h, i, j, k, m, n, q17]) (fun l => if l.all id = true then some (boolsD false l) else none) H [] _ (by show _ ≤ 16777216; simp; omega) ⟨_, _, _, _, _, _, _, _, _, _, _, _, _, _, rfl⟩ ?_ ?_
    · rintro l hlm env ⟨q17, a, b, c, d, e, f, g, h, i, j, k, m, n, rfl⟩ K kk
      simp
      rw [show boolsD false l = .obj false .lst (l.map fun n => D.sc (V.bl n)) from rfl, e_all]
      simp
      have k1 := kk _ ⟨some (boolsD false l), a, b, c, d, e, f, g, h, i, j, k, m, n, rfl⟩
      by_cases h1 : false ∈ l <;> simp [h1] at k1 ⊢ <;> exact k1
    · rintro env ⟨q17, a, b, c, d, e, f, g, h, i, j, k2, m, n, rfl⟩
      rw [List.nil_append, LAW_K41.filterMap_if]
      simp [-List.any_eq_true, -List.all_eq_true] at k ⊢
      exact k
  · simp
    refine compD_map tripD S (fun env => ∃ q6 q15 q16, env = [some (houseD r ds), some (.lst false (dI cs)), some (tapeD beads looks), some (.tup [.str "few", .lst false (tripsD S)]), some (.str "few"), none, q6, some (.lst false (tripsD S)), some (.lst true (hitsD H)), q9, q10, some (dctD false M1), some (dctD false M2), none, none, q15, q16, none]) (fun q => .sc (.int (leastV ds cs beads looks q.1 q.2.2 - mostV ds cs beads looks q.1 (q.2.1 - 1)))) (by show _ ≤ 16777216; omega) ⟨_, _, _, rfl⟩ ?_ ?_
    · rintro q hq env ⟨q6, q15, q16, rfl⟩ K kk
      simp
      refine ixDT_of (k := [.inl q.1, .inl q.2.2]) (get2 _ (m2 q hq)) ?_
      simp
      refine ixDT_of (k := [.inl q.1, .inl (q.2.1 - 1)]) (get1 _ (m1 q hq)) ?_
      simp
      exact kk _ ⟨_, _, _, rfl⟩
    rintro env ⟨q6, q15, q16, rfl⟩
    rw [show S.map (fun q => D.sc (V.int (leastV ds cs beads looks q.1 q.2.2 - mostV ds cs beads looks q.1 (q.2.1 - 1)))) = dI (S.map fun q => leastV ds cs beads looks q.1 q.2.2 - mostV ds cs beads looks q.1 (q.2.1 - 1)) by unfold dI; rw [List.map_map]; rfl, e_sum]
    unfold sumNeed at k
    generalize (S.map fun q => leastV ds cs beads looks q.1 q.2.2 - mostV ds cs beads looks q.1 (q.2.1 - 1)).sum = need at *
    simp [seeO]
    refine compD_ind (boolsD false) (fun env => ∃ q17 a b c d e f g h i j k m n, env = [some (houseD r ds), some (.lst false (dI cs)), some (tapeD beads looks), some (.tup [.str "few", .lst false (tripsD S)]), a, b, c, d, e, f, g, h, i, j, k, m, n, q17]) (fun l => if l.any id = true then some (boolsD false l) else none) H [] _ (by show _ ≤ 16777216; simp; omega) ⟨_, _, _, _, _, _, _, _, _, _, _, _, _, _, rfl⟩ ?_ ?_
    · rintro l hlm env ⟨q17, a, b, c, d, e, f, g, h, i, j, k, m, n, rfl⟩ K kk
      simp
      rw [show boolsD false l = .obj false .lst (l.map fun n => D.sc (V.bl n)) from rfl, e_any]
      simp
      have k1 := kk _ ⟨some (boolsD false l), a, b, c, d, e, f, g, h, i, j, k, m, n, rfl⟩
      by_cases h1 : true ∈ l <;> simp [h1] at k1 ⊢ <;> exact k1
    · rintro env ⟨q17, a, b, c, d, e, f, g, h, i, j, k2, m, n, rfl⟩
      rw [List.nil_append, LAW_K41.filterMap_if]
      simp [-List.any_eq_true, -List.all_eq_true] at k ⊢
      exact k
theorem shown_look_ok {r : Int} {ds : List (Int × Int)} {cs : List Int} {beads looks} {moment room : Int} {R : D → En → Prop} (A : Asked r ds cs beads looks) (r0 : 0 ≤ room) (r1 : room < r) (m0 : 0 ≤ moment) (m1 : moment ≤ beads.length)
    (k : R (.bl (lookV ds cs beads looks moment room)) [some (houseD r ds), some (.lst false (dI cs)), some (tapeD beads looks), some (.tup [.str "look", .int moment, .int room])]) : F_law_shown [houseD r ds, .lst false (dI cs), tapeD beads looks, .tup [.str "look", .int moment, .int room]] R := by
  refine ⟨rfl, ?_⟩
  show wb_law_shown [some (houseD r ds), some (.lst false (dI cs)), some (tapeD beads looks), some (.tup [.str "look", .int moment, .int room]), none, none, none, none, none, none, none, none, none, none, none, none, none, none, none] _
  unfold wb_law_shown
  simp
  refine looked_wrong_ok A r0 r1 m0 m1 ?_
  simp
  exact k
def overL (S : List (Int × Int × Int)) (m : Int) : List Int := (S.filter fun q => decide (q.2.1 ≤ m) && decide (m ≤ q.2.2)).map fun q => q.1
theorem hit_all {S : List (Int × Int × Int)} {M : List Int} {m : Int} : ((M.map fun room => inSome S room m).all id) = decide ((M.filter fun v => decide (v ∈ overL S m)) = M) := by
  rw [Bool.eq_iff_iff, decide_eq_true_iff, List.filter_eq_self]
  simp only [List.all_map, List.all_eq_true, Function.comp, id, inSome_over]
  exact Iff.rfl
theorem hit_any {S : List (Int × Int × Int)} {M : List Int} {m : Int} : ((M.map fun room => inSome S room m).any id) = !decide ((M.filter fun v => decide (v ∈ overL S m)) = []) := by
  rw [Bool.eq_iff_iff, Bool.not_eq_true', decide_eq_false_iff_not, List.filter_eq_nil_iff]
  simp only [List.any_map, List.any_eq_true, Function.comp, id, inSome_over]
  constructor
  · rintro ⟨v, hv, h⟩ z; exact z v hv h
  · intro h
    refine Classical.byContradiction fun z => h fun v hv w => z ⟨v, hv, w⟩
theorem fi (c : Int → Bool) (l : List Int) : l.filterMap (fun v => if c v = true then some (D.sc (V.int v)) else none) = dI (l.filter c) := LAW_K41.filterMap_if c (fun v => D.sc (V.int v)) l
theorem cnt_snoc {α : Type} (c : α → Bool) (l : List α) (x : α) : ((l ++ [x]).filter c).length = (l.filter c).length + if c x = true then 1 else 0 := by
  rw [List.filter_append, List.length_append]
  by_cases h : c x = true <;> simp [h]
theorem shown_sheet_ok {r : Int} {ds : List (Int × Int)} {cs : List Int} {beads looks} {S : List (Int × Int × Int)} {w : String} {R : D → En → Prop} (A : Asked r ds cs beads looks) (hB : ∀ q ∈ beads, -1 ≤ q.2 ∧ q.2 < 2) (hS : St r beads.length S) (hw : w = "many" ∨ w = "few")
    (k : R (.bl (sheetV w ds cs beads looks S)) [some (houseD r ds), some (.lst false (dI cs)), some (tapeD beads looks), some (.tup [.str w, .lst false (tripsD S)])]) : F_law_shown [houseD r ds, .lst false (dI cs), tapeD beads looks, .tup [.str w, .lst false (tripsD S)]] R := by
  refine ⟨rfl, ?_⟩
  show wb_law_shown [some (houseD r ds), some (.lst false (dI cs)), some (tapeD beads looks), some (.tup [.str w, .lst false (tripsD S)]), none, none, none, none, none, none, none, none, none, none, none, none, none, none, none] _
  have hl := hS.len
  have hbl := A.hl
  have hb := A.hb
  have hnl : ¬ (w = "look") := by rcases hw with rfl | rfl <;> decide
  unfold wb_law_shown
  simp [hnl]
  refine lstretches_ok hS ?_
  simp
  rw [LAW_K42.enumD_map, len_doors]
  refine loopD_all _ _ (fun done env => ∃ q8 q9 q10 q11 q12 q13 q18, env = [some (houseD r ds), some (.lst false (dI cs)), some (tapeD beads looks), some (.tup [.str w, .lst false (tripsD S)]),
    some (.int (((hitsL ds S beads done.length).filter fun l => l.all id).length : Nat)), some (.int (((hitsL ds S beads done.length).filter fun l => l.any id).length : Nat)), some (.int 0), some (.int 0), q8, q9, q10, q11, q12, q13, none, none, none, none, q18]) ⟨_, _, _, _, _, _, _, rfl⟩ ?_ ?_
  · rintro done i rest e env ⟨q8, q9, q10, q11, q12, q13, q18, rfl⟩ K kk
    obtain ⟨hi, hi2⟩ := range_done e
    obtain ⟨g1, g2⟩ := bead_at (beads := beads) (i := i) (by omega)
    have hb1 := hb _ g2
    have hb2 := hB _ g2
    have gd := doors_getD hb1.1 hb1.2
    rw [g1]
    have hml : (mayL ds (beads.getD i (0, 0))).length ≤ 2 := by unfold mayL; split <;> simp
    have nxt : hitsL ds S beads (done.length + 1) = hitsL ds S beads done.length ++ [hitL ds S i (beads.getD i (0, 0))] := by
      unfold hitsL
      rw [List.range_succ, List.map_append, List.map_singleton, hi]
    rw [List.length_append, List.length_singleton, nxt, cnt_snoc, cnt_snoc] at kk
    unfold hitL at kk
    rw [hit_all, hit_any] at kk
    generalize ((hitsL ds S beads done.length).filter fun l => l.all id).length = nb at *
    generalize ((hitsL ds S beads done.length).filter fun l => l.any id).length = nl at *
    have may : ∃ M, M = mayL ds (beads.getD i (0, 0)) := ⟨_, rfl⟩
    obtain ⟨M, hM⟩ := may
    rw [← hM] at kk hml
    unfold mayL doorOf at hM
    generalize ds.getD (beads.getD i (0, 0)).1.toNat (0, 0) = p at *
    generalize beads.getD i (0, 0) = bd at *
    obtain ⟨d, way⟩ := bd
    simp only at hb1 hb2 gd hM
    simp [pairD, houseD, gd]
    have hway : way = -1 ∨ way = 0 ∨ way = 1 := by omega
    rcases hway with rfl | rfl | rfl
    case' inl =>
      simp
      rw [show (D.obj false Sh.lst [D.sc (V.int p.1), D.sc (V.int p.2)]) = .lst false (dI M) by rw [hM]; rfl]
      generalize D.tup [D.sc (V.int d), D.sc (V.int (-1))] = BD at *
    case' inr.inl =>
      simp
      rw [show (D.obj false Sh.lst [D.sc (V.int p.1)]) = .lst false (dI M) by rw [hM]; rfl]
      generalize D.tup [D.sc (V.int d), D.sc (V.int (0))] = BD at *
    case' inr.inr =>
      simp
      rw [show (D.obj false Sh.lst [D.sc (V.int p.2)]) = .lst false (dI M) by rw [hM]; rfl]
      generalize D.tup [D.sc (V.int d), D.sc (V.int (1))] = BD at *
    all_goals
      clear hM
      refine compD_ind tripD (fun env => ∃ q18, env = [some (houseD r ds), some (.lst false (dI cs)), some (tapeD beads looks), some (.tup [.str w, .lst false (tripsD S)]), some (.int nb), some (.int nl), some (.int 0), some (.int 0), some (.int i), some BD, some (.lst false (dI M)), q11, q12, q13, none, none, none, none, q18]) (fun q => if (decide (q.2.1 ≤ (i : Int) + 1) && decide ((i : Int) + 1 ≤ q.2.2)) = true then some (D.int q.1) else none) S [] _ (by show _ ≤ 16777216; simp; omega) ⟨_, rfl⟩ ?_ ?_
      · rintro q hq env ⟨q18, rfl⟩ K kk
        simp
        by_cases h1 : q.2.1 ≤ (i : Int) + 1 <;> simp [h1] at kk ⊢
        · by_cases h2 : (i : Int) + 1 ≤ q.2.2 <;> simp [h2] at kk ⊢ <;> exact kk _
        · exact kk _
      rintro env ⟨q18, rfl⟩
      rw [List.nil_append, LAW_K41.filterMap_if, show ((S.filter fun q => decide (q.2.1 ≤ (i : Int) + 1) && decide ((i : Int) + 1 ≤ q.2.2)).map fun q => D.sc (V.int q.1)) = dI (overL S ((i : Int) + 1)) by unfold dI overL; rw [List.map_map]; rfl]
      have lo : (overL S ((i : Int) + 1)).length ≤ 200 := by unfold overL; rw [List.length_map]; exact Nat.le_trans (List.length_filter_le _ _) hl
      generalize overL S ((i : Int) + 1) = OV at *
      simp
      refine compD_ind (fun n => D.sc (V.int n)) (fun env => ∃ q13 q18, env = [some (houseD r ds), some (.lst false (dI cs)), some (tapeD beads looks), some (.tup [.str w, .lst false (tripsD S)]), some (.int nb), some (.int nl), some (.int 0), some (.int 0), some (.int i), some BD, some (.lst false (dI M)), some (.lst false (dI OV)), q12, q13, none, none, none, none, q18]) (fun v => if decide (v ∈ OV) = true then some (D.int v) else none) M [] _ (by show _ ≤ 16777216; simp; omega) ⟨_, _, rfl⟩ ?_ ?_
      · rintro v hv env ⟨q13, q18, rfl⟩ K kk
        simp
        by_cases h2 : v ∈ OV <;> simp [h2] at kk ⊢ <;> exact kk _ _ _ rfl
      rintro env ⟨q13, q18, rfl⟩
      rw [fi, List.nil_append]
      generalize (M.filter fun v => decide (v ∈ OV)) = hit at *
      simp
      have e1 : (nb : Int) + (if hit = M then 1 else 0) = ((nb + if decide (hit = M) = true then 1 else 0 : Nat) : Int) := by
        by_cases z : hit = M <;> simp [z]
      have e2 : (nl : Int) + (if hit = [] then 0 else 1) = ((nl + if (!decide (hit = [])) = true then 1 else 0 : Nat) : Int) := by
        by_cases z : hit = [] <;> simp [z]
      rw [e1, e2]
      exact kk _ ⟨_, _, _, _, _, _, _, rfl⟩
  · rintro env ⟨q8, q9, q10, q11, q12, q13, q18, rfl⟩
    rw [List.length_range]
    unfold sheetV at k
    generalize ((hitsL ds S beads beads.length).filter fun l => l.all id).length = nb at *
    generalize ((hitsL ds S beads beads.length).filter fun l => l.any id).length = nl at *
    simp
    refine loopD_all tripD S (fun done env => ∃ q13 q14 q15 q16 q17, env = [some (houseD r ds), some (.lst false (dI cs)), some (tapeD beads looks), some (.tup [.str w, .lst false (tripsD S)]), some (.int nb), some (.int nl), some (.int (sumNeed ds cs beads looks done)), some (.int (sumTop ds cs beads looks done)),
      q8, q9, q10, q11, q12, q13, q14, q15, q16, q17, q18]) ⟨_, _, _, _, _, rfl⟩ ?_ ?_
    · rintro done q rest e env ⟨q13, q14, q15, q16, q17, rfl⟩ K kk
      have hq := hS.ok q (by rw [← e]; simp)
      have t1 : sumNeed ds cs beads looks (done ++ [q]) = sumNeed ds cs beads looks done + leastV ds cs beads looks q.1 q.2.2 - mostV ds cs beads looks q.1 (q.2.1 - 1) := by unfold sumNeed; rw [List.map_append, List.sum_append]; simp; omega
      have t2 : sumTop ds cs beads looks (done ++ [q]) = sumTop ds cs beads looks done + mostV ds cs beads looks q.1 q.2.2 - leastV ds cs beads looks q.1 (q.2.1 - 1) := by unfold sumTop; rw [List.map_append, List.sum_append]; simp; omega
      rw [t1, t2] at kk
      simp
      refine outs_ok A hq.1 hq.2.1 ?_
      simp
      refine outs_ok A hq.1 hq.2.1 ?_
      simp
      exact kk _ ⟨_, _, _, _, _, rfl⟩
    · rintro env ⟨q13, q14, q15, q16, q17, rfl⟩
      simp
      rcases hw with rfl | rfl
      · simp at k ⊢
        exact k
      · simp at k ⊢
        exact k
theorem late_ok {k : Nat} {b : D} {n : Int} {R : D → En → Prop} (h : Jug k b) (hk : k < 2 ^ 30) (h0 : 1 ≤ n) (h1 : n ≤ 1000) (kk : ∀ v b', Jug (k + 2) b' → 0 ≤ v → v < n → R (.int v) [some b', some (.int n)]) : F_law_late [b, .int n] R := by
  refine ⟨rfl, ?_⟩
  show wb_law_late [some b, some (.int n)] _
  unfold wb_law_late
  simp
  refine dip_ok h (by omega) (by decide) (by decide) fun u b h u0 u1 => ?_
  simp
  refine atI_exI (ns := [5, 40, n]) rfl u0 u1 fun m _ hm => ?_
  replace hm : 1 ≤ m ∧ m ≤ 1000 := by simp at hm; omega
  simp
  refine dip_ok h (by omega) (by omega) (by omega) fun w b h w0 w1 => ?_
  simp
  refine kk _ _ h ?_ ?_ <;> split <;> omega
theorem seen_right_ok {k n : Nat} {b : D} {r : Int} {ds : List (Int × Int)} {mr wide most : Int} {moves : List (Int × Int)} {rows : List (List Int)} {R : D → En → Prop} (h : Jug k b) (hk : k < 2 ^ 30) (hh : HouseI r ds mr wide) (hr : mr ≤ 100) (hg : GoneI r n most moves rows) (hm1 : most ≤ 500)
    (kk : ∀ q b', Jug (k + 6) b' → LookI r rows.length (10 ^ 20) q → R (quadD q) [some b', some (houseD r ds), some (.lst false (rowsD rows))]) : F_law_seen_right [b, houseD r ds, .lst false (rowsD rows)] R := by
  refine ⟨rfl, ?_⟩
  show wb_law_seen_right [some b, some (houseD r ds), some (.lst false (rowsD rows)), none, none, none] _
  have hr1 := hh.r1
  have hr2 := hh.r2
  have hgl := hg.len
  have hgm := hg.most
  unfold wb_law_seen_right
  simp
  refine dip_ok h (by omega) (by omega) (by omega) fun t b h t0 t1 => ?_
  simp [houseD]
  refine dip_ok h (by omega) (by omega) (by omega) fun v b h v0 v1 => ?_
  simp
  refine atI_exM (f := fun row => D.lst false (dI row)) rfl t0 t1 fun row _ hrow => ?_
  have hrw := hg.rows row hrow
  simp
  refine atI_exI rfl v0 (by omega) fun num _ hnum => ?_
  have hnm := hrw.2 num hnum
  simp
  refine dip_ok h (by omega) (by omega) (by omega) fun u b h u0 u1 => ?_
  simp
  refine dip_ok h (by omega) (by omega) (by omega) fun w b h w0 w1 => ?_
  simp
  exact kk (t, v, num - u, num + w) b (h.mono (by omega)) ⟨t0, by simpa using t1, v0, v1, by simp; omega, by simp; omega, by simp; omega, by simp; omega⟩
theorem track_bent_ok {k : Nat} {b : D} {t : List Int} {R : D → En → Prop} (h : Jug k b) (hk : k < 2 ^ 30) (ht : 1 ≤ t.length) (ht2 : t.length ≤ 900) (kk : ∀ t2 b', Jug (k + 3) b' → 1 ≤ t2.length → t2.length ≤ t.length → R (.lst true (dI t2)) [some b', some (.lst false (dI t))]) :
    F_law_track_bent [b, .lst false (dI t)] R := by
  refine ⟨rfl, ?_⟩
  show wb_law_track_bent [some b, some (.lst false (dI t)), none, none, none] _
  unfold wb_law_track_bent
  simp
  refine late_ok h hk (by omega) (by omega) fun at_ b h a0 a1 => ?_
  simp
  refine dip_ok h (by omega) (by omega) (by omega) fun kind b h k0 k1 => ?_
  simp
  have l1 : (cutD t none (some at_)).length = at_.toNat := by
    unfold cutD HT.sIx
    rw [List.length_take, List.length_drop]
    simp only
    split <;> omega
  have l2 : ∀ d : Int, 0 ≤ d → (cutD t (some (at_ + d)) none).length = t.length - (at_ + d).toNat := fun d hd => by
    unfold cutD HT.sIx
    rw [List.length_take, List.length_drop]
    simp only
    split <;> omega
  have l3 : 1 ≤ (cutD t (some at_) (some (at_ + 2))).length ∧ (cutD t (some at_) (some (at_ + 2))).length + at_.toNat + (t.length - (at_ + 2).toNat) = t.length := by
    unfold cutD HT.sIx
    rw [List.length_take, List.length_drop]
    simp only
    split <;> split <;> omega
  have l0 := l2 0 (by decide)
  have l1' := l2 1 (by decide)
  have l2' := l2 2 (by decide)
  rw [Int.add_zero] at l0
  have ea := dI_atI (ns := t) a0 a1
  split
  · refine ⟨_, ea, rfl, ?_⟩
    generalize t.getD at_.toNat 0 = x at *
    simp
    refine ⟨by show _ ≤ 16777216; omega, by show _ ≤ 16777216; omega, ?_⟩
    rw [show dI (cutD t none (some at_)) ++ D.sc (V.int (1 - x)) :: dI (cutD t (some (at_ + 1)) none) = dI (cutD t none (some at_) ++ (1 - x) :: cutD t (some (at_ + 1)) none) by simp [dI]]
    exact kk (cutD t none (some at_) ++ (1 - x) :: cutD t (some (at_ + 1)) none) _ h (by simp; omega) (by simp; omega)
  · split
    · rw [LAW_K42.dI_reverse, ← List.append_assoc, show dI (cutD t none (some at_)) ++ dI (cutD t (some at_) (some (at_ + 2))).reverse ++ dI (cutD t (some (at_ + 2)) none) = dI (cutD t none (some at_) ++ (cutD t (some at_) (some (at_ + 2))).reverse ++ cutD t (some (at_ + 2)) none) by simp [dI]]
      refine ⟨fzL_dI _, by show _ ≤ 16777216; omega, fzL_dI _, by show _ ≤ 16777216; omega, ?_⟩
      exact kk (cutD t none (some at_) ++ (cutD t (some at_) (some (at_ + 2))).reverse ++ cutD t (some (at_ + 2)) none) _ h (by simp; omega) (by simp; omega)
    · refine compD_map _ _ (fun env => ∃ q4, env = [some b, some (.lst false (dI t)), some (.int at_), some (.int kind), q4]) (fun x => .sc (.int (1 - x))) (by show _ ≤ 16777216; omega) ⟨_, rfl⟩ ?_ ?_
      · rintro x hx env ⟨q4, rfl⟩ K kk
        simp
        exact kk _ ⟨_, rfl⟩
      · rintro env ⟨q4, rfl⟩
        rw [show (cutD t (some at_) none).map (fun x => D.sc (V.int (1 - x))) = dI ((cutD t (some at_) none).map fun x => 1 - x) by unfold dI; rw [List.map_map]; rfl]
        refine ⟨fzL_dI _, by rw [dI_length, List.length_map]; show _ ≤ 16777216; omega, ?_⟩
        rw [show dI (cutD t none (some at_)) ++ dI ((cutD t (some at_) none).map fun x => 1 - x) = dI (cutD t none (some at_) ++ (cutD t (some at_) none).map fun x => 1 - x) by simp [dI]]
        have g1 : 1 ≤ (cutD t none (some at_) ++ (cutD t (some at_) none).map fun x => 1 - x).length ∧ (cutD t none (some at_) ++ (cutD t (some at_) none).map fun x => 1 - x).length ≤ t.length := by simp; omega
        generalize (cutD t none (some at_) ++ (cutD t (some at_) none).map fun x => 1 - x) = L at *
        simp
        exact kk L _ h g1.1 g1.2
theorem drawn_ok {k : Nat} {b : D} {r : Int} {ds : List (Int × Int)} {n : Int} {mr wide : Int} {R : D → En → Prop} (h : Jug k b) (hk : k < 2 ^ 29) (hh : HouseI r ds mr wide) (hr : mr ≤ 100) (n0 : 1 ≤ n) (n1 : n ≤ 900) (kk : ∀ S b', Jug (k + 500) b' → St r n S → R (.lst true (tripsD S)) [some b', some (houseD r ds), some (.int n)]) : F_law_drawn [b, houseD r ds, .int n] R := by
  refine ⟨rfl, ?_⟩
  show wb_law_drawn [some b, some (houseD r ds), some (.int n), none, none, none] _
  have hr1 := hh.r1
  have hr2 := hh.r2
  unfold wb_law_drawn
  simp [houseD]
  refine ⟨by omega, by omega, ?_⟩
  unfold rng
  refine loopD_all _ _ (fun done env => ∃ b q4 q5 S, Jug (k + 5 * done.length) b ∧ St r n S ∧ (∀ q ∈ S, q.1 < done.length) ∧ S.length ≤ done.length ∧ env = [some b, some (houseD r ds), some (.int n), some (.lst true (tripsD S)), q4, q5]) ⟨b, _, _, [], h, ⟨.nil, by simp, by simp⟩, by simp, by simp, rfl⟩ ?_ ?_
  · rintro done x rest e env ⟨b, q4, q5, S, h, hS, hro, hl, rfl⟩ K kk
    have hx := range_done e
    simp
    refine dip_ok h (by omega) (by decide) (by decide) fun u b h u0 u1 => ?_
    simp
    split
    · refine dip_ok h (by omega) (by decide) (by decide) fun v b h v0 v1 => ?_
      simp
      refine atI_exI (ns := [1, n]) rfl v0 v1 fun m _ hm => ?_
      replace hm : 1 ≤ m ∧ m ≤ n := by simp at hm; omega
      simp
      refine dip_ok h (by omega) (by omega) (by omega) fun w b h w0 w1 => ?_
      simp
      refine late_ok h (by omega) (by omega) (by omega) fun z b h z0 z1 => ?_
      simp
      refine ⟨by show _ < 16777216; omega, ?_⟩
      rw [show tripsD S ++ [D.tup [D.sc (V.int x), D.sc (V.int (1 + w)), D.sc (V.int (1 + w + z))]] = tripsD (S ++ [((x : Int), 1 + w, 1 + w + z)]) by simp [tripsD, tripD]]
      refine kk _ ⟨b, _, _, S ++ [((x : Int), 1 + w, 1 + w + z)], h.mono (by simp; omega), ⟨?_, ?_, ?_⟩, ?_, ?_, rfl⟩
      · rw [List.pairwise_append]
        refine ⟨hS.rise, by simp, fun p hp q hq => ?_⟩
        rw [List.mem_singleton.mp hq]
        have := hro p hp
        simp only; omega
      · intro q hq
        rcases List.mem_append.mp hq with hq | hq
        · exact hS.ok q hq
        · rw [List.mem_singleton.mp hq]
          simp only; omega
      · simp; omega
      · intro q hq
        rcases List.mem_append.mp hq with hq | hq
        · have := hro q hq; simp; omega
        · rw [List.mem_singleton.mp hq]; simp; omega
      · simp; omega
    · refine kk _ ⟨b, _, _, S, h.mono (by simp; omega), hS, fun q hq => by have := hro q hq; simp; omega, by simp; omega, rfl⟩
  · rintro env ⟨b, q4, q5, S, h, hS, hro, hl, rfl⟩
    rw [List.length_range] at h
    simp
    exact kk S b (h.mono (by omega)) hS
/-- a sheet: of a look, or of stretches -/
abbrev Sheet := (Int × Int) ⊕ (String × List (Int × Int × Int))
def sheetD : Sheet → D
  | .inl p => .tup [.str "look", .int p.1, .int p.2]
  | .inr p => .tup [.str p.1, .lst false (tripsD p.2)]
@[simp] theorem fz_sheet : ∀ s : Sheet, (sheetD s).fz = true
  | .inl _ => rfl
  | .inr p => by simp [sheetD]
@[simp] theorem frz_sheet (s : Sheet) : (sheetD s).frz = sheetD s := D.frz_of_fz (fz_sheet s)
def sheetsD (L : List Sheet) : List D := L.map sheetD
@[simp] theorem fzL_sheets (L) : D.fzL (sheetsD L) = true := fzL_map fz_sheet L
@[simp] theorem frzL_sheets (L) : D.frzL (sheetsD L) = sheetsD L := frzL_mapE fz_sheet L
@[simp] theorem len_sheets (L) : (sheetsD L).length = L.length := List.length_map ..
theorem right_ok {k : Nat} {b : D} {r : Int} {ds : List (Int × Int)} {cs : List Int} {beads looks} {tracks : List (List Int)} {mr wide : Int} {R : D → En → Prop} (h : Jug k b) (hk : k < 2 ^ 28) (hh : HouseI r ds mr wide) (hr : mr ≤ 100) (A : Asked r ds cs beads looks) (hB : ∀ q ∈ beads, -1 ≤ q.2 ∧ q.2 < 2) (hn : 1 ≤ beads.length ∧ beads.length ≤ 900)
    (hQ : ∀ q ∈ looks, 0 ≤ q.1 ∧ q.1 ≤ beads.length ∧ 0 ≤ q.2.1 ∧ q.2.1 < r) (hT : ∀ t ∈ tracks, Told r ds cs beads looks t) (kk : ∀ b', Jug (k + 1000) b' → R (.bl true) [some b', some (houseD r ds), some (.lst false (dI cs)), some (tapeD beads looks), some (.lst false (rowsD tracks))]) :
    F_law_right [b, houseD r ds, .lst false (dI cs), tapeD beads looks, .lst false (rowsD tracks)] R := by
  refine ⟨rfl, ?_⟩
  show wb_law_right [some b, some (houseD r ds), some (.lst false (dI cs)), some (tapeD beads looks), some (.lst false (rowsD tracks)), none, none, none, none, none] _
  have hkl := A.hk
  unfold wb_law_right
  simp
  refine loopD_all (fun t => D.lst false (dI t)) tracks (fun _ env => ∃ q5, env = [some b, some (houseD r ds), some (.lst false (dI cs)), some (tapeD beads looks), some (.lst false (rowsD tracks)), q5, none, none, none, none]) ⟨_, rfl⟩ ?_ ?_
  · rintro done t rest e env ⟨q5, rfl⟩ K kk
    have ht := hT t (by rw [← e]; simp)
    simp
    refine story_ok ht ?_
    simp
    refine stands_ok ht ?_
    generalize judge ds cs beads looks t = J
    simp
    exact kk _ ⟨_, rfl⟩
  rintro env ⟨q5, rfl⟩
  simp
  refine compD_map quadD looks (fun env => ∃ q9, env = [some b, some (houseD r ds), some (.lst false (dI cs)), some (tapeD beads looks), some (.lst false (rowsD tracks)), q5, none, none, none, q9]) (fun q => .tup [.str "look", .int q.1, .int q.2.1]) (by show _ ≤ 16777216; omega) ⟨_, rfl⟩ ?_ ?_
  · rintro q hq env ⟨q9, rfl⟩ K kk
    simp
    exact kk _ ⟨_, rfl⟩
  rintro env ⟨q9, rfl⟩
  rw [show (looks.map fun q => D.tup [D.str "look", D.int q.1, D.int q.2.1]) = sheetsD (looks.map fun q => .inl (q.1, q.2.1)) by unfold sheetsD; rw [List.map_map]; rfl]
  have h0 : ∀ s ∈ (looks.map fun q => (.inl (q.1, q.2.1) : Sheet)), match s with | .inl p => 0 ≤ p.1 ∧ p.1 ≤ beads.length ∧ 0 ≤ p.2 ∧ p.2 < r | .inr p => (p.1 = "many" ∨ p.1 = "few") ∧ St r beads.length p.2 := by
    intro s hs
    obtain ⟨q, hq, rfl⟩ := List.mem_map.mp hs
    exact hQ q hq
  have hl0 : (looks.map fun q => (.inl (q.1, q.2.1) : Sheet)).length ≤ 1000 := by rw [List.length_map]; exact hkl
  generalize (looks.map fun q => (.inl (q.1, q.2.1) : Sheet)) = L0 at *
  simp [loopD]
  refine drawn_ok h (by omega) hh hr (by omega) (by omega) fun S1 b h hS1 => ?_
  simp
  refine ⟨by show _ < 16777216; omega, ?_⟩
  rw [show sheetsD L0 ++ [D.tup [D.sc (V.str (Str.ofString "many")), D.obj false Sh.lst (tripsD S1)]] = sheetsD (L0 ++ [.inr ("many", S1)]) by simp [sheetsD, sheetD]]
  refine drawn_ok h (by omega) hh hr (by omega) (by omega) fun S2 b h hS2 => ?_
  simp
  refine ⟨by show _ < 16777216; omega, ?_⟩
  rw [show sheetsD (L0 ++ [.inr ("many", S1)]) ++ [D.tup [D.sc (V.str (Str.ofString "few")), D.obj false Sh.lst (tripsD S2)]] = sheetsD (L0 ++ [.inr ("many", S1), .inr ("few", S2)]) by simp [sheetsD, sheetD]]
  have h1 : ∀ s ∈ L0 ++ [.inr ("many", S1), .inr ("few", S2)], match s with | .inl p => 0 ≤ p.1 ∧ p.1 ≤ beads.length ∧ 0 ≤ p.2 ∧ p.2 < r | .inr p => (p.1 = "many" ∨ p.1 = "few") ∧ St r beads.length p.2 := by
    intro s hs
    rcases List.mem_append.mp hs with hs | hs
    · exact h0 s hs
    · simp only [List.mem_cons, List.not_mem_nil, or_false] at hs
      rcases hs with rfl | rfl
      · exact ⟨.inl rfl, hS1⟩
      · exact ⟨.inr rfl, hS2⟩
  generalize L0 ++ [.inr ("many", S1), .inr ("few", S2)] = L at *
  simp
  refine loopD_all sheetD L (fun _ env => ∃ q8, env = [some b, some (houseD r ds), some (.lst false (dI cs)), some (tapeD beads looks), some (.lst false (rowsD tracks)), q5, some (.lst false (sheetsD L)), some (.str "few"), q8, none]) ⟨_, rfl⟩ ?_ ?_
  · rintro done s rest e env ⟨q8, rfl⟩ K kk
    have hs := h1 s (by rw [← e]; simp)
    cases s with
    | inl p =>
      simp only [sheetD] at hs ⊢
      simp
      refine paper_look_ok A hs.2.2.1 hs.2.2.2 hs.1 hs.2.1 ?_
      simp
      refine shown_look_ok A hs.2.2.1 hs.2.2.2 hs.1 hs.2.1 ?_
      generalize lookV ds cs beads looks p.1 p.2 = J
      simp
      exact kk _ ⟨_, rfl⟩
    | inr p =>
      obtain ⟨w, S⟩ := p
      simp only [sheetD] at hs ⊢
      simp
      refine paper_sheet_ok A hB hs.2 hs.1 ?_
      simp
      refine shown_sheet_ok A hB hs.2 hs.1 ?_
      generalize sheetV w ds cs beads looks S = J
      simp
      exact kk _ ⟨_, rfl⟩
  · rintro env ⟨q8, rfl⟩
    simp
    exact kk b (h.mono (by omega))
theorem law_ok : LawOk 63 F_law := by
  intro ns hl
  refine ⟨rfl, ?_⟩
  show wb_law [some (.obj false .sq (dI ns)), none, none, none, none, none, none, none, none, none, none, none, none, none, none, none, none] _
  unfold wb_law
  simp
  refine ⟨by split <;> omega, by split <;> omega, ?_⟩
  have hlen : (if 1 < (if (ns.length : Int) < 3 then (ns.length : Int) else 3) then (if (ns.length : Int) < 3 then (ns.length : Int) else 3) else 1).toNat ≤ 63 := by split <;> split <;> omega
  generalize (if 1 < (if (ns.length : Int) < 3 then (ns.length : Int) else 3) then (if (ns.length : Int) < 3 then (ns.length : Int) else 3) else 1).toNat = N at *
  unfold rng
  refine loopD_all _ _ (fun _ env => ∃ q1 q2 q3 q4 q5 q6 q7 q8 q9 q10 q11 q12 q13 q14 q15 q16, env = [some (.obj false .sq (dI ns)), q1, q2, q3, q4, q5, q6, q7, q8, q9, q10, q11, q12, q13, q14, q15, q16]) ⟨_, _, _, _, _, _, _, _, _, _, _, _, _, _, _, _, rfl⟩ ?_ ?_
  · rintro done x rest e env ⟨q1, q2, q3, q4, q5, q6, q7, q8, q9, q10, q11, q12, q13, q14, q15, q16, rfl⟩ K kk
    have hx := range_done e
    simp
    refine jug_ok (by omega) fun b h => ?_
    simp
    refine house_ok h (by omega) (by decide) (by decide) (by decide) (by decide) fun r ds b h hh => ?_
    have hr1 := hh.r1
    have hr2 := hh.r2
    have hdl := hh.len
    simp
    refine folk_ok h (by omega) hh (by decide) fun cs b h hc hc2 => ?_
    simp
    refine gone_ok h (by omega) hh (by decide) hc hc2 (by decide) (by decide) fun moves rows b h hg => ?_
    have hgl := hg.len
    have hgm := hg.most
    simp
    refine dip_ok h (by omega) (by decide) (by decide) fun nl b h nl0 nl1 => ?_
    simp
    refine ⟨by omega, by omega, ?_⟩
    unfold rng
    refine compD_inv _ (fun done acc env => ∃ b looks q10, Jug (3000 + 10 * done.length) b ∧ acc = looksD looks ∧ looks.length = done.length ∧ (∀ q ∈ looks, LookI r rows.length (10 ^ 20) q) ∧ env = [some (.obj false .sq (dI ns)), some (.int (x : Int)), some b, some (houseD r ds), some (.lst false (dI cs)), some (.lst false (doorsD moves)), some (.lst false (rowsD rows)), q7, q8, q9, q10, q11, q12, q13, q14, q15, q16]) (List.range nl.toNat) ?_ ?_ ?_ ?_ _ [] _ _ rfl ⟨b, [], q10, h.mono (by simp), rfl, rfl, by simp, rfl⟩
    · show _ ≤ 16777216; simp; omega
    · rintro done acc env ⟨b, looks, q10, _, rfl, hl, _⟩; simp; omega
    · rintro done y rest2 e2 acc env ⟨b, looks, q10, h, rfl, hlk, hlq, rfl⟩ K kn ks
      have hy := range_done e2
      simp
      refine seen_right_ok h (by omega) hh (by decide) hg (by decide) fun q b h hq => ?_
      simp
      refine ks _ _ ⟨b, looks ++ [q], _, h.mono (by simp; omega), by simp [looksD], by simp [hlk], ?_, rfl⟩
      intro z hz
      rcases List.mem_append.mp hz with hz | hz
      · exact hlq z hz
      · rw [List.mem_singleton.mp hz]; exact hq
    rintro acc env ⟨b, looks, q10', h, rfl, hlk, hlq, rfl⟩
    rw [List.length_range] at hlk h
    simp
    refine hidden_ok h (by omega) (by omega) fun sel b h hsel => ?_
    have hbd : ∀ q ∈ (moves.zip sel).map hid, 0 ≤ q.1 ∧ q.1 < ds.length ∧ -1 ≤ q.2 ∧ q.2 < 2 := by
      intro q hq
      obtain ⟨z, hz, rfl⟩ := List.mem_map.mp hq
      have := hg.mv z.1 (List.of_mem_zip hz).1
      unfold hid
      split <;> omega
    have hbl : ((moves.zip sel).map hid).length = moves.length := by simp [hsel]
    generalize (moves.zip sel).map hid = beads at *
    simp
    refine compD_map pairD moves (fun env => ∃ q10 q14 q15, env = [some (.obj false .sq (dI ns)), some (.int (x : Int)), some b, some (houseD r ds), some (.lst false (dI cs)), some (.lst false (doorsD moves)), some (.lst false (rowsD rows)), some (.lst false (looksD looks)), some (.lst false (doorsD beads)), q9, q10, q11, q12, q13, q14, q15, q16]) (fun p => .sc (.int p.2)) (by show _ ≤ 16777216; omega) ⟨_, _, _, rfl⟩ ?_ ?_
    · rintro p hp env ⟨q10, q14, q15, rfl⟩ K2 kk2
      simp
      exact kk2 _ ⟨_, _, _, rfl⟩
    rintro env ⟨q10', q14', q15', rfl⟩
    rw [show moves.map (fun p => D.sc (V.int p.2)) = dI (moves.map fun p => p.2) by simp [dI]]
    have htl : (moves.map fun p => p.2).length = moves.length := List.length_map ..
    generalize (moves.map fun p => p.2) = tr at *
    simp
    refine ⟨mulOk_small (.inl (by decide)), by split <;> omega, by split <;> omega, ?_⟩
    refine loopD_all _ _ (fun done env => ∃ b q10 q11 q12 q13 q14 q15 q16, Jug (5000 + 2000 * done.length) b ∧ env = [some (.obj false .sq (dI ns)), some (.int (x : Int)), some b, some (houseD r ds), some (.lst false (dI cs)), some (.lst false (doorsD moves)), some (.lst false (rowsD rows)), some (.lst false (looksD looks)), some (.lst false (doorsD beads)), some (.lst false (dI tr)), q10, q11, q12, q13, q14, q15, q16]) ⟨b, _, _, _, _, _, _, _, h.mono (by simp; omega), rfl⟩ ?_ ?_
    · rintro done2 y rest2 e2 env ⟨b, q10, q11, q12, q13, q14, q15, q16, h, rfl⟩ K2 kk2
      have hy : done2.length < 4 ∧ tr ≠ [] ∧ y = done2.length := by
        by_cases z : tr = []
        · rw [if_pos z] at e2; simp at e2
        · rw [if_neg z] at e2
          have := range_done e2
          exact ⟨by omega, z, this.1⟩
      have htr : 1 ≤ tr.length := by
        have := List.length_pos_iff.mpr hy.2.1
        omega
      simp
      refine track_bent_ok h (by omega) htr (by omega) fun t1 b h a1 a2 => ?_
      simp
      refine track_bent_ok h (by omega) a1 (by omega) fun t2 b h a3 a4 => ?_
      simp
      rw [show [D.obj false Sh.lst (dI tr), D.obj false Sh.lst (dI t1), D.obj false Sh.lst (dI t2)] = rowsD [tr, t1, t2] from rfl]
      refine dip_ok h (by omega) (by decide) (by decide) fun nn b h nn0 nn1 => ?_
      simp
      have hm : 0 ≤ nn * ((y : Int) / 2) ∧ nn * ((y : Int) / 2) ≤ 6 := by
        have h1 : 0 ≤ (y : Int) / 2 ∧ (y : Int) / 2 ≤ 2 := by omega
        generalize (y : Int) / 2 = z at *
        have : nn = 0 ∨ nn = 1 ∨ nn = 2 := by omega
        rcases this with rfl | rfl | rfl <;> omega
      refine ⟨divOk (by decide) (by decide), mulOk_small (.inl (by omega)), by omega, by omega, ?_⟩
      generalize nn * ((y : Int) / 2) = nk at *
      unfold rng
      refine compD_inv _ (fun done acc env => ∃ b near q16, Jug (5000 + 2000 * done2.length + 10 + 10 * done.length) b ∧ acc = looksD near ∧ near.length = done.length ∧ (∀ q ∈ near, LookI r rows.length (10 ^ 20) q) ∧ env = [some (.obj false .sq (dI ns)), some (.int (x : Int)), some b, some (houseD r ds), some (.lst false (dI cs)), some (.lst false (doorsD moves)), some (.lst false (rowsD rows)), some (.lst false (looksD looks)), some (.lst false (doorsD beads)), some (.lst false (dI tr)), some (.int y), some (.lst false (dI t1)), some (.lst false (rowsD [tr, t1, t2])), q13, q14, q15, q16]) (List.range nk.toNat) ?_ ?_ ?_ ?_ _ [] _ _ rfl ⟨b, [], q16, h.mono (by simp), rfl, rfl, by simp, rfl⟩
      · show _ ≤ 16777216; simp; omega
      · rintro done acc env ⟨b, near, q16, _, rfl, hl, _⟩; simp; omega
      · rintro done z rest3 e3 acc env ⟨b, near, q16, h, rfl, hlk2, hlq2, rfl⟩ K kn ks
        have hz := range_done e3
        simp
        refine look_ok h (by omega) hh (by decide) hg (by decide) fun q b h hq => ?_
        simp
        refine ks _ _ ⟨b, near ++ [q], _, h.mono (by simp; omega), by simp [looksD], by simp [hlk2], ?_, rfl⟩
        intro w hw
        rcases List.mem_append.mp hw with hw | hw
        · exact hlq2 w hw
        · rw [List.mem_singleton.mp hw]; exact hq
      rintro acc env ⟨b, near, q16, h, rfl, hlk2, hlq2, rfl⟩
      rw [List.length_range] at hlk2 h
      have hall : ∀ q ∈ looks ++ near, LookI r rows.length (10 ^ 20) q := by
        intro q hq
        rcases List.mem_append.mp hq with hq | hq
        · exact hlq q hq
        · exact hlq2 q hq
      have hal : (looks ++ near).length ≤ 1000 := by simp; omega
      simp
      refine ⟨by show _ ≤ 16777216; omega, ?_⟩
      rw [show looksD looks ++ looksD near = looksD (looks ++ near) by simp [looksD]]
      generalize looks ++ near = LK at *
      simp
      refine right_ok h (by omega) hh (by decide) ⟨fun q hq => by have := hbd q hq; omega, by omega, hal, hc⟩ (fun q hq => (hbd q hq).2.2) (by omega) (fun q hq => by
        have := hall q hq
        simp only [LookI] at this
        omega) (fun t ht => ?_) fun b h => ?_
      · refine ⟨hr1, hh.ok, hc, fun q hq => by have := hbd q hq; omega, by omega, ?_, fun q hq => by
          have := hall q hq
          simp only [LookI] at this
          omega, hal⟩
        simp only [List.mem_cons, List.not_mem_nil, or_false] at ht
        rcases ht with rfl | rfl | rfl <;> omega
      · simp
        exact kk2 _ ⟨b, _, _, _, _, _, _, _, h.mono (by simp; omega), rfl⟩
    · rintro env ⟨b, q10, q11, q12, q13, q14, q15, q16, h, rfl⟩
      exact kk _ ⟨_, _, _, _, _, _, _, _, _, _, _, _, _, _, _, _, rfl⟩
  · rintro env ⟨q1, q2, q3, q4, q5, q6, q7, q8, q9, q10, q11, q12, q13, q14, q15, q16, rfl⟩
    simp
end LAW_K70


open PySem PySem.W PyProof.Rows in
set_option maxRecDepth 100000 in
set_option maxHeartbeats 0 in
theorem PySem.Challenge.cw_bothdoors_k70_whole_great_tapes_judged_holds : PySem.Challenge.rw_bothdoors_k70_whole_great_tapes_judged.Holds := by
  w_on; o_law; k_head; (case hw => w_witness2)
  k_fill
  refine LAW_K70.walk (l := PySem.Challenge.rw_bothdoors_k70_whole_great_tapes_judged) rfl rfl (fun w h Y => PySem.W.kIn_of Y) ?F LAW_K70.law_ok
  case F =>
    intro w mg fa h KX G hmg
    refine' LAW_K70.all_mk KX G hmg ?a1 ?l1 ?c1 ?k1 ?a2 ?l2 ?c2 ?k2 ?a3 ?l3 ?c3 ?k3 ?a4 ?l4 ?c4 ?k4 ?a5 ?l5 ?c5 ?k5 ?a6 ?l6 ?c6 ?k6 ?a7 ?l7 ?c7 ?k7 ?a8 ?l8 ?c8 ?k8 ?a9 ?l9 ?c9 ?k9 ?a10 ?l10 ?c10 ?k10 ?a11 ?l11 ?c11 ?k11 ?a12 ?l12 ?c12 ?k12 ?a13 ?l13 ?c13 ?k13 ?a14 ?l14 ?c14 ?k14 ?a15 ?l15 ?c15 ?k15 ?a16 ?l16 ?c16 ?k16 ?a17 ?l17 ?c17 ?k17 ?a18 ?l18 ?c18 ?k18 ?a19 ?l19 ?c19 ?k19 ?a20 ?l20 ?c20 ?k20 ?a21 ?l21 ?c21 ?k21 ?a22 ?l22 ?c22 ?k22 ?a23 ?l23 ?c23 ?k23 ?a24 ?l24 ?c24 ?k24 ?a25 ?l25 ?c25 ?k25 ?a26 ?l26 ?c26 ?k26 ?a27 ?l27 ?c27 ?k27 ?a28 ?l28 ?c28 ?k28 ?a29 ?l29 ?c29 ?k29 ?z_all ?z_any ?z_enumerate ?z_int ?z_len ?z_list ?z_max ?z_min ?z_range ?z_sorted ?z_sum ?z_zip ?d_UNSEEN
    (case a1 => k_is)
    (case l1 => k_is)
    (case c1 => k_is)
    (case k1 => k_is)
    (case a2 => k_is)
    (case l2 => k_is)
    (case c2 => k_is)
    (case k2 => k_is)
    (case a3 => k_is)
    (case l3 => k_is)
    (case c3 => k_is)
    (case k3 => k_is)
    (case a4 => k_is)
    (case l4 => k_is)
    (case c4 => k_is)
    (case k4 => k_is)
    (case a5 => k_is)
    (case l5 => k_is)
    (case c5 => k_is)
    (case k5 => k_is)
    (case a6 => k_is)
    (case l6 => k_is)
    (case c6 => k_is)
    (case k6 => k_is)
    (case a7 => k_is)
    (case l7 => k_is)
    (case c7 => k_is)
    (case k7 => k_is)
    (case a8 => k_is)
    (case l8 => k_is)
    (case c8 => k_is)
    (case k8 => k_is)
    (case a9 => k_is)
    (case l9 => k_is)
    (case c9 => k_is)
    (case k9 => k_is)
    (case a10 => k_is)
    (case l10 => k_is)
    (case c10 => k_is)
    (case k10 => k_is)
    (case a11 => k_is)
    (case l11 => k_is)
    (case c11 => k_is)
    (case k11 => k_is)
    (case a12 => k_is)
    (case l12 => k_is)
    (case c12 => k_is)
    (case k12 => k_is)
    (case a13 => k_is)
    (case l13 => k_is)
    (case c13 => k_is)
    (case k13 => k_is)
    (case a14 => k_is)
    (case l14 => k_is)
    (case c14 => k_is)
    (case k14 => k_is)
    (case a15 => k_is)
    (case l15 => k_is)
    (case c15 => k_is)
    (case k15 => k_is)
    (case a16 => k_is)
    (case l16 => k_is)
    (case c16 => k_is)
    (case k16 => k_is)
    (case a17 => k_is)
    (case l17 => k_is)
    (case c17 => k_is)
    (case k17 => k_is)
    (case a18 => k_is)
    (case l18 => k_is)
    (case c18 => k_is)
    (case k18 => k_is)
    (case a19 => k_is)
    (case l19 => k_is)
    (case c19 => k_is)
    (case k19 => k_is)
    (case a20 => k_is)
    (case l20 => k_is)
    (case c20 => k_is)
    (case k20 => k_is)
    (case a21 => k_is)
    (case l21 => k_is)
    (case c21 => k_is)
    (case k21 => k_is)
    (case a22 => k_is)
    (case l22 => k_is)
    (case c22 => k_is)
    (case k22 => k_is)
    (case a23 => k_is)
    (case l23 => k_is)
    (case c23 => k_is)
    (case k23 => k_is)
    (case a24 => k_is)
    (case l24 => k_is)
    (case c24 => k_is)
    (case k24 => k_is)
    (case a25 => k_is)
    (case l25 => k_is)
    (case c25 => k_is)
    (case k25 => k_is)
    (case a26 => k_is)
    (case l26 => k_is)
    (case c26 => k_is)
    (case k26 => k_is)
    (case a27 => k_is)
    (case l27 => k_is)
    (case c27 => k_is)
    (case k27 => k_is)
    (case a28 => k_is)
    (case l28 => k_is)
    (case c28 => k_is)
    (case k28 => k_is)
    (case a29 => k_is)
    (case l29 => k_is)
    (case c29 => k_is)
    (case k29 => k_is)
    (case z_all => k_is)
    (case z_any => k_is)
    (case z_enumerate => k_is)
    (case z_int => k_is)
    (case z_len => k_is)
    (case z_list => k_is)
    (case z_max => k_is)
    (case z_min => k_is)
    (case z_range => k_is)
    (case z_sorted => k_is)
    (case z_sum => k_is)
    (case z_zip => k_is)
    (case d_UNSEEN => k_is)

