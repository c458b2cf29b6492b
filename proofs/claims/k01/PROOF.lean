import PyProof.Rows.All
import Wide.All
import OpenK.AllK
import Wide.FinOn
import HandS.ForMost
import HandS.ForExc
import HandS.Wide
import HandS.IsInst
import HandS.Style
import HandS.Conv
import HandS.SortInts
import HandS.More
import KE.SortData
import KE.DataMinMax
import HandS.TryOnly
import HandS.Flow
import HandS.Deep
import KE.KTupSum
import HandS.SetFor
import HandS.Strs
import HandS.DictComp
import KE.KDictSum
import KE.KDictCopyH
import KE.KDictList
import KE.KDictZip
import HandS.ExcValue
import HandS.Zip
import KE.KDictPairs
import HandS.Dict
import KE.KTryMore
import HandS.ExcIs
import KE.KUnpack
import PyProof.CollectIter
import PyProof.Walks
import HandS.FStr
import PySem.Challenge.RW_bothdoors_k01_houses_as_texts
set_option Elab.async false
set_option linter.all false
set_option maxRecDepth 100000
/-! PLa: data trees with ownership, over the hand layer: D, Rep, freezing, environments. -/
namespace PL
open PySem L2

/-- the kinds of objects that may be changed (sq: a list that is only read, the script or one of the module's; exc: an exception that was caught, of the class of that name) -/
inductive Sh where
  | lst | sq | dK (ks : List Key) | dT (ks : List (List Key)) | ins (C : Addr) (ns : List Str) | exc (nm : Str)
/-- a value as a tree. o = true: an own object, that nothing else reaches; o = false: a frozen one, that is never written any more -/
inductive D where
  | sc (v : V)
  | tup (xs : List D)
  | obj (o : Bool) (sh : Sh) (xs : List D)
namespace D
abbrev non : D := .sc .non
abbrev bl (b : Bool) : D := .sc (.bl b)
abbrev int (i : Int) : D := .sc (.int i)
abbrev str (x : Str) : D := .sc (.str x)
abbrev lst (o : Bool) (xs : List D) : D := .obj o .lst xs
end D

mutual
def D.frz : D → D
  | .sc v => .sc v
  | .tup xs => .tup (D.frzL xs)
  | .obj _ sh xs => .obj false sh (D.frzL xs)
def D.frzL : List D → List D
  | [] => []
  | x :: xs => x.frz :: D.frzL xs
end
mutual
def D.fz : D → Bool
  | .sc _ => true
  | .tup xs => D.fzL xs
  | .obj o _ xs => !o && D.fzL xs
def D.fzL : List D → Bool
  | [] => true
  | x :: xs => x.fz && D.fzL xs
end
mutual
theorem D.frz_of_fz : ∀ {d : D}, d.fz = true → d.frz = d
  | .sc _, _ => rfl
  | .tup xs, h => by simp only [D.fz] at h; simp only [D.frz, D.frzL_of_fzL h]
  | .obj o ks xs, h => by simp only [D.fz, Bool.and_eq_true, Bool.not_eq_true'] at h; simp only [D.frz, D.frzL_of_fzL h.2, h.1]
theorem D.frzL_of_fzL : ∀ {xs : List D}, D.fzL xs = true → D.frzL xs = xs
  | [], _ => rfl
  | x :: xs, h => by simp only [D.fzL, Bool.and_eq_true] at h; simp only [D.frzL, D.frz_of_fz h.1, D.frzL_of_fzL h.2]
end
mutual
theorem D.fz_frz : ∀ d : D, d.frz.fz = true
  | .sc _ => rfl
  | .tup xs => by simp only [D.frz, D.fz, D.fzL_frzL xs]
  | .obj o ks xs => by simp only [D.frz, D.fz, D.fzL_frzL xs]; rfl
theorem D.fzL_frzL : ∀ xs : List D, D.fzL (D.frzL xs) = true
  | [] => rfl
  | x :: xs => by simp only [D.frzL, D.fzL, D.fz_frz x, D.fzL_frzL xs]; rfl
end
theorem D.frzL_map (xs : List D) : D.frzL xs = xs.map D.frz := by
  induction xs with
  | nil => rfl
  | cons x xs ih => simp only [D.frzL, List.map_cons, ih]
theorem D.fzL_all (xs : List D) : D.fzL xs = xs.all D.fz := by
  induction xs with
  | nil => rfl
  | cons x xs ih => simp only [D.fzL, List.all_cons, ih]
theorem D.frzL_length (xs : List D) : (D.frzL xs).length = xs.length := by rw [D.frzL_map, List.length_map]
theorem D.fzL_mem {xs : List D} (h : D.fzL xs = true) {x : D} (hx : x ∈ xs) : x.fz = true := by
  rw [D.fzL_all, List.all_eq_true] at h; exact h x hx
theorem D.fzL_of {xs : List D} (h : ∀ x ∈ xs, x.fz = true) : D.fzL xs = true := by
  rw [D.fzL_all, List.all_eq_true]; exact h

/-- an exception of the class at c lies at a -/
def ExC (c a : Addr) : HO := .ext fun h => ∃ (oe : Obj) (vs : Array Value), h.get? a = some oe ∧ Zc (.ref c) none oe ∧ oe.data = .fields vs
/-- an own object of that kind at p, its items vs -/
def CellO (H : Hp) (sh : Sh) (p : Addr) (vs : List V) : Prop :=
  match sh with
  | .lst => H p = some (.lst vs)
  | .sq => False
  | .dK ks => H p = some (.dK (ks.zip vs)) ∧ ks.length = vs.length
  | .dT ks => H p = some (.dT (ks.zip vs)) ∧ ks.length = vs.length
  | .ins C ns => ∃ dx, H p = some (.ins C dx (ns.zip vs)) ∧ ns.length = vs.length
  | .exc _ => False
/-- a frozen one (a list: perhaps the script, or one of the module's) -/
def CellF (K : PySem.W.Frag) (F : Hp) (sh : Sh) (p : Addr) (vs : List V) : Prop :=
  match sh with
  | .sq => SqL K F p vs
  | .exc nm => vs = [] ∧ ∃ c, PySem.W.nsIn K PySem.mainGlobals nm = some (some (.ref c)) ∧ F p = some (ExC c p)
  | sh => CellO F sh p vs
theorem Same.sqT {K : PySem.W.Frag} {H H' : Hp} {a : Addr} {xs : List V} (e : Same H H') (h : SqT K H a xs) : SqT K H' a xs := by
  rcases h with (h | ⟨o, h⟩) | h
  · exact .inl (.inl (e _ _ h))
  · exact .inl (.inr ⟨o, e _ _ h⟩)
  · exact .inr h
theorem CellO.of_eq {H H' : Hp} {sh : Sh} {p : Addr} {vs : List V} (e : H' p = H p) (h : CellO H sh p vs) : CellO H' sh p vs := by
  cases sh with
  | lst => exact e.trans h
  | sq => exact h.elim
  | dK ks => exact ⟨e.trans h.1, h.2⟩
  | dT ks => exact ⟨e.trans h.1, h.2⟩
  | ins C ns => obtain ⟨dx, h, l⟩ := h; exact ⟨dx, e.trans h, l⟩
  | exc nm => exact h.elim
/-- an object that may change stands there -/
def MuA (H : Hp) (p : Addr) : Prop := ∃ o, H p = some o ∧ Mut (some o)
theorem MuA.there {H : Hp} {p : Addr} (h : MuA H p) : ∃ o, H p = some o := let ⟨o, e, _⟩ := h; ⟨o, e⟩
theorem MuA.of_eq {H H' : Hp} {p : Addr} (h : MuA H p) (e : H' p = H p) : MuA H' p := let ⟨o, z, m⟩ := h; ⟨o, e.trans z, m⟩
theorem CellO.mut {H : Hp} {sh : Sh} {p : Addr} {vs : List V} (h : CellO H sh p vs) : MuA H p := by
  cases sh with
  | lst => exact ⟨_, h, trivial⟩
  | sq => exact h.elim
  | dK ks => exact ⟨_, h.1, trivial⟩
  | dT ks => exact ⟨_, h.1, trivial⟩
  | ins C ns => obtain ⟨dx, h, l⟩ := h; exact ⟨_, h, trivial⟩
  | exc nm => exact h.elim
theorem CellO.there {H : Hp} {sh : Sh} {p : Addr} {vs : List V} (h : CellO H sh p vs) : ∃ o, H p = some o := h.mut.there
theorem CellO.same {H H' : Hp} {sh : Sh} {p : Addr} {vs : List V} (e : Same H H') (h : CellO H sh p vs) : CellO H' sh p vs := by
  obtain ⟨o, z⟩ := h.there
  exact h.of_eq ((e _ _ z).trans z.symm)
theorem CellF.same {K : PySem.W.Frag} {F F' : Hp} {sh : Sh} {p : Addr} {vs : List V} (e : Same F F') (h : CellF K F sh p vs) : CellF K F' sh p vs := by
  cases sh with
  | sq => exact e.seq h
  | lst => exact CellO.same (sh := .lst) e h
  | dK ks => exact CellO.same (sh := .dK ks) e h
  | dT ks => exact CellO.same (sh := .dT ks) e h
  | ins C ns => exact CellO.same (sh := .ins C ns) e h
  | exc nm => obtain ⟨h1, c, h2, h3⟩ := h; exact ⟨h1, c, h2, e _ _ h3⟩
theorem CellF.of {K : PySem.W.Frag} {F : Hp} {sh : Sh} {p : Addr} {vs : List V} (h : CellO F sh p vs) : CellF K F sh p vs := by
  cases sh with
  | sq => exact h.elim
  | lst => exact h
  | dK ks => exact h
  | dT ks => exact h
  | ins C ns => exact h
  | exc nm => exact h.elim

section
variable (K : PySem.W.Frag) (F H : Hp)
mutual
/-- the tree d lies at v: its frozen part in F, its own objects at A in H -/
inductive Rep : D → V → List Addr → Prop
  | sc {v} : Rep (.sc v) v []
  | tup {p vs xs A} : F p = some (.tup vs) → RepL xs vs A → Rep (.tup xs) (.ref p) A
  | own {sh p vs xs A} : CellO H sh p vs → RepL xs vs A → Rep (.obj true sh xs) (.ref p) (p :: A)
  | frz {sh p vs xs} : CellF K F sh p vs → RepL xs vs [] → Rep (.obj false sh xs) (.ref p) []
inductive RepL : List D → List V → List Addr → Prop
  | nil : RepL [] [] []
  | cons {d v A ds vs B} : Rep d v A → RepL ds vs B → RepL (d :: ds) (v :: vs) (A ++ B)
end
end

section
variable {K : PySem.W.Frag} {F F' H H' : Hp}
theorem Rep.ind {P : D → V → List Addr → Prop} {PL : List D → List V → List Addr → Prop}
    (sc : ∀ {v}, P (.sc v) v []) (tup : ∀ {p vs xs A}, F p = some (.tup vs) → RepL K F H xs vs A → PL xs vs A → P (.tup xs) (.ref p) A)
    (own : ∀ {sh p vs xs A}, CellO H sh p vs → RepL K F H xs vs A → PL xs vs A → P (.obj true sh xs) (.ref p) (p :: A))
    (frz : ∀ {sh p vs xs}, CellF K F sh p vs → RepL K F H xs vs [] → PL xs vs [] → P (.obj false sh xs) (.ref p) [])
    (nil : PL [] [] []) (cons : ∀ {d v A ds vs B}, Rep K F H d v A → RepL K F H ds vs B → P d v A → PL ds vs B → PL (d :: ds) (v :: vs) (A ++ B)) :
    (∀ {d v A}, Rep K F H d v A → P d v A) ∧ (∀ {ds vs A}, RepL K F H ds vs A → PL ds vs A) :=
  ⟨fun {d v A} r => Rep.rec (motive_1 := fun d v A _ => P d v A) (motive_2 := fun ds vs A _ => PL ds vs A) sc tup own frz nil cons r,
   fun {ds vs A} r => RepL.rec (motive_1 := fun d v A _ => P d v A) (motive_2 := fun ds vs A _ => PL ds vs A) sc tup own frz nil cons r⟩
theorem Rep.frames (e : Same F F') : (∀ {d v A}, Rep K F H d v A → (∀ a ∈ A, H' a = H a) → Rep K F' H' d v A) ∧ (∀ {ds vs A}, RepL K F H ds vs A → (∀ a ∈ A, H' a = H a) → RepL K F' H' ds vs A) :=
  Rep.ind (P := fun d v A => (∀ a ∈ A, H' a = H a) → Rep K F' H' d v A) (PL := fun ds vs A => (∀ a ∈ A, H' a = H a) → RepL K F' H' ds vs A)
    (fun _ => .sc) (fun h _ ih k => .tup (e _ _ h) (ih k)) (fun h _ ih k => .own (h.of_eq (k _ (List.mem_cons_self ..))) (ih fun a ha => k a (List.mem_cons_of_mem _ ha)))
    (fun h _ ih k => .frz (h.same e) (ih k)) (fun _ => .nil) (fun _ _ i1 i2 k => .cons (i1 fun a ha => k a (List.mem_append_left _ ha)) (i2 fun a ha => k a (List.mem_append_right _ ha)))
theorem Rep.frame {d v A} (r : Rep K F H d v A) (e : Same F F') (k : ∀ a ∈ A, H' a = H a) : Rep K F' H' d v A := (Rep.frames e).1 r k
theorem RepL.frame {d v A} (r : RepL K F H d v A) (e : Same F F') (k : ∀ a ∈ A, H' a = H a) : RepL K F' H' d v A := (Rep.frames e).2 r k
end

/-- the frozen part, with the objects at A -/
def fzAt (F H : Hp) (A : List Addr) : Hp := fun a => if a ∈ A then H a else F a
theorem fzAt_in {F H : Hp} {A : List Addr} {a : Addr} (h : a ∈ A) : fzAt F H A a = H a := if_pos h
theorem fzAt_out {F H : Hp} {A : List Addr} {a : Addr} (h : a ∉ A) : fzAt F H A a = F a := if_neg h
theorem fzAt_same {F H : Hp} {A : List Addr} (h : ∀ a ∈ A, F a = none) : Same F (fzAt F H A) := fun b o e => by
  rw [fzAt_out (fun z => by rw [h b z] at e; cases e)]; exact e
theorem fzAt_sub {F H : Hp} {A : List Addr} (s : Same F H) : Same (fzAt F H A) H := fun b o e => by
  unfold fzAt at e
  split at e
  · exact e
  · exact s _ _ e
section
variable {K : PySem.W.Frag} {F F' H : Hp}
theorem Rep.freezes (e : Same F F') : (∀ {d v A}, Rep K F H d v A → (∀ a ∈ A, F' a = H a) → Rep K F' H d.frz v []) ∧ (∀ {ds vs A}, RepL K F H ds vs A → (∀ a ∈ A, F' a = H a) → RepL K F' H (D.frzL ds) vs []) :=
  Rep.ind (P := fun d v A => (∀ a ∈ A, F' a = H a) → Rep K F' H d.frz v []) (PL := fun ds vs A => (∀ a ∈ A, F' a = H a) → RepL K F' H (D.frzL ds) vs [])
    (fun _ => .sc) (fun h _ ih k => .tup (e _ _ h) (ih k)) (fun h _ ih k => .frz (CellF.of (h.of_eq (k _ (List.mem_cons_self ..)))) (ih fun a ha => k a (List.mem_cons_of_mem _ ha)))
    (fun h _ ih k => .frz (h.same e) (ih k)) (fun _ => .nil) (fun _ _ i1 i2 k => .cons (A := []) (B := []) (i1 fun a ha => k a (List.mem_append_left _ ha)) (i2 fun a ha => k a (List.mem_append_right _ ha)))
theorem Rep.freeze {d v A} (r : Rep K F H d v A) (e : Same F F') (k : ∀ a ∈ A, F' a = H a) : Rep K F' H d.frz v [] := (Rep.freezes e).1 r k
theorem RepL.freeze {d v A} (r : RepL K F H d v A) (e : Same F F') (k : ∀ a ∈ A, F' a = H a) : RepL K F' H (D.frzL d) v [] := (Rep.freezes e).2 r k
/-- every own object stands in the heap -/
theorem Rep.muts : (∀ {d v A}, Rep K F H d v A → ∀ a ∈ A, MuA H a) ∧ (∀ {ds vs A}, RepL K F H ds vs A → ∀ a ∈ A, MuA H a) :=
  Rep.ind (P := fun d v A => ∀ a ∈ A, MuA H a) (PL := fun ds vs A => ∀ a ∈ A, MuA H a)
    (fun a h => nomatch h) (fun _ _ ih => ih) (fun h _ ih a ha => (List.mem_cons.mp ha).elim (fun z => z ▸ h.mut) (ih a)) (fun _ _ ih => ih) (fun a h => nomatch h)
    (fun _ _ i1 i2 a ha => (List.mem_append.mp ha).elim (i1 a) (i2 a))
theorem Rep.mut {d v A} (r : Rep K F H d v A) : ∀ a ∈ A, MuA H a := Rep.muts.1 r
theorem RepL.mut {d v A} (r : RepL K F H d v A) : ∀ a ∈ A, MuA H a := Rep.muts.2 r
theorem Rep.there {d v A} (r : Rep K F H d v A) : ∀ a ∈ A, ∃ o, H a = some o := fun a h => (r.mut a h).there
theorem RepL.there {d v A} (r : RepL K F H d v A) : ∀ a ∈ A, ∃ o, H a = some o := fun a h => (r.mut a h).there
theorem Rep.fzNils : (∀ {d v A}, Rep K F H d v A → d.fz = true → A = []) ∧ (∀ {ds vs A}, RepL K F H ds vs A → D.fzL ds = true → A = []) :=
  Rep.ind (P := fun d v A => d.fz = true → A = []) (PL := fun ds vs A => D.fzL ds = true → A = [])
    (fun _ => rfl) (fun _ _ ih z => ih z) (fun _ _ _ z => by simp [D.fz] at z) (fun _ _ _ _ => rfl) (fun _ => rfl)
    (fun _ _ i1 i2 z => by simp only [D.fzL, Bool.and_eq_true] at z; rw [i1 z.1, i2 z.2]; rfl)
theorem Rep.fzNil {d v A} (r : Rep K F H d v A) (z : d.fz = true) : A = [] := Rep.fzNils.1 r z
theorem RepL.fzNil {d v A} (r : RepL K F H d v A) (z : D.fzL d = true) : A = [] := Rep.fzNils.2 r z
theorem RepL.length {ds vs A} (r : RepL K F H ds vs A) : ds.length = vs.length :=
  (Rep.ind (P := fun d v A => True) (PL := fun ds vs A => ds.length = vs.length) trivial (fun _ _ _ => trivial) (fun _ _ _ => trivial) (fun _ _ _ => trivial) rfl (fun _ _ _ i => by simp only [List.length_cons, i])).2 r
theorem RepL.cons_inv {d ds vs A} (r : RepL K F H (d :: ds) vs A) : ∃ v us A1 A2, vs = v :: us ∧ A = A1 ++ A2 ∧ Rep K F H d v A1 ∧ RepL K F H ds us A2 := by
  cases r with
  | cons r s => exact ⟨_, _, _, _, rfl, rfl, r, s⟩
theorem RepL.nil_inv {vs A} (r : RepL K F H [] vs A) : vs = [] ∧ A = [] := by cases r; exact ⟨rfl, rfl⟩
/-- an item, with the others around it: another tree may be put in its place -/
theorem RepL.get {ds : List D} : ∀ {vs A} {i : Nat} {d}, RepL K F H ds vs A → ds[i]? = some d → ∃ v A1 A0 A2, vs[i]? = some v ∧ A = A1 ++ A0 ++ A2 ∧ Rep K F H d v A0 ∧
    ∀ {F' H' : Hp} {d' v' A0'}, Same F F' → (∀ a ∈ A1 ++ A2, H' a = H a) → Rep K F' H' d' v' A0' → RepL K F' H' (ds.set i d') (vs.set i v') (A1 ++ A0' ++ A2) := by
  induction ds with
  | nil => intro vs A i d r e; simp at e
  | cons x xs ih =>
    intro vs A i d r e
    obtain ⟨v, us, A1, A2, rfl, rfl, r1, r2⟩ := r.cons_inv
    cases i with
    | zero =>
      simp only [List.getElem?_cons_zero, Option.some.injEq] at e; subst e
      refine ⟨v, [], A1, A2, rfl, by simp, r1, fun {F' H' d' v' A0'} s k q => ?_⟩
      simp only [List.set_cons_zero, List.nil_append]
      exact .cons q (r2.frame s fun a ha => k a (by simpa using ha))
    | succ i =>
      simp only [List.getElem?_cons_succ] at e
      obtain ⟨v', B1, B0, B2, h1, h2, h3, h4⟩ := ih r2 e
      refine ⟨v', A1 ++ B1, B0, B2, by simpa using h1, by rw [h2]; simp, h3, fun {F' H' d' v' A0'} s k q => ?_⟩
      have := RepL.cons (r1.frame (H' := H') s fun a ha => k a (by simp [ha])) (h4 s (fun a ha => k a (by
        rcases List.mem_append.mp ha with z | z
        · simp [z]
        · simp [z])) q)
      simpa only [List.set_cons_succ, List.append_assoc] using this
theorem RepL.app {ds : List D} : ∀ {vs A es us B}, RepL K F H ds vs A → RepL K F H es us B → RepL K F H (ds ++ es) (vs ++ us) (A ++ B) := by
  induction ds with
  | nil => intro vs A es us B r s; obtain ⟨rfl, rfl⟩ := r.nil_inv; exact s
  | cons x xs ih =>
    intro vs A es us B r s
    obtain ⟨v, us, A1, A2, rfl, rfl, r1, r2⟩ := r.cons_inv
    have := RepL.cons r1 (ih r2 s)
    simpa only [List.cons_append, List.append_assoc] using this
theorem RepL.one {d v A} (r : Rep K F H d v A) : RepL K F H [d] [v] A := by
  have := RepL.cons r (.nil (K := K) (F := F) (H := H))
  rwa [List.append_nil] at this
theorem RepL.one_inv {d vs A} (r : RepL K F H [d] vs A) : ∃ v, vs = [v] ∧ Rep K F H d v A := by
  obtain ⟨v, us, A1, A2, rfl, rfl, r1, r2⟩ := r.cons_inv
  obtain ⟨rfl, rfl⟩ := r2.nil_inv
  exact ⟨v, rfl, by simpa using r1⟩
/-- a sublist of items -/
theorem RepL.fz_mem {ds : List D} {vs A} (r : RepL K F H ds vs A) (z : D.fzL ds = true) : RepL K F H ds vs [] := by
  have := r.fzNil z; subst this; exact r
theorem RepL.fz_get {ds : List D} {vs : List V} {i : Nat} {d : D} (r : RepL K F H ds vs []) (e : ds[i]? = some d) : ∃ v, vs[i]? = some v ∧ Rep K F H d v [] := by
  obtain ⟨v, A1, A0, A2, h1, h2, h3, _⟩ := r.get e
  have : A0 = [] := by
    have := congrArg List.length h2
    simp only [List.length_nil, List.length_append] at this
    exact List.eq_nil_of_length_eq_zero (by omega)
  subst this
  exact ⟨v, h1, h3⟩
end

/-! ### environments -/
abbrev En := List (Option D)
inductive EnvR (K : PySem.W.Frag) (F H : Hp) : En → St → List (List Addr) → Prop
  | nil : EnvR K F H [] [] []
  | emp {es σ As o} : EnvR K F H es σ As → EnvR K F H (none :: es) (o :: σ) ([] :: As)
  | val {d v A es σ As} : Rep K F H d v A → EnvR K F H es σ As → EnvR K F H (some d :: es) (some v :: σ) (A :: As)
section
variable {K : PySem.W.Frag} {F F' H H' : Hp} {es : En} {σ : St} {As : List (List Addr)}
theorem EnvR.frame (r : EnvR K F H es σ As) (e : Same F F') : (∀ a ∈ As.flatten, H' a = H a) → EnvR K F' H' es σ As := by
  induction r with
  | nil => intro _; exact .nil
  | emp r ih => intro k; exact .emp (ih fun a ha => k a (by simpa using ha))
  | val x r ih => intro k; exact .val (x.frame e fun a ha => k a (by simp [ha])) (ih fun a ha => k a (by rw [List.flatten_cons]; exact List.mem_append_right _ ha))
theorem EnvR.get (r : EnvR K F H es σ As) : ∀ {i : Nat} {d}, es[i]? = some (some d) → ∃ v A, σ[i]? = some (some v) ∧ As[i]? = some A ∧ Rep K F H d v A := by
  induction r with
  | nil => intro i d e; simp at e
  | emp r ih =>
    intro i d e
    cases i with
    | zero => simp at e
    | succ i => exact ih (by simpa using e)
  | val x r ih =>
    intro i d e
    cases i with
    | zero => simp at e; subst e; exact ⟨_, _, rfl, rfl, x⟩
    | succ i => exact ih (by simpa using e)
theorem EnvR.len (r : EnvR K F H es σ As) : es.length = σ.length ∧ es.length = As.length := by
  induction r with
  | nil => exact ⟨rfl, rfl⟩
  | emp r ih => simp [ih.1.symm, ih.2.symm]
  | val x r ih => simp [ih.1.symm, ih.2.symm]
/-- slot i given up -/
theorem EnvR.drop (r : EnvR K F H es σ As) : ∀ (i : Nat), EnvR K F H (es.set i none) σ (As.set i []) := by
  induction r with
  | nil => intro i; exact .nil
  | emp r ih =>
    intro i
    cases i with
    | zero => exact .emp r
    | succ i => exact .emp (ih i)
  | val x r ih =>
    intro i
    cases i with
    | zero => exact .emp r
    | succ i => exact .val x (ih i)
/-- slot i holds another value -/
theorem EnvR.set {d v A} (r : EnvR K F H es σ As) (x : Rep K F H d v A) : ∀ (i : Nat), EnvR K F H (es.set i (some d)) (σ.set i (some v)) (As.set i A) := by
  induction r with
  | nil => intro i; exact .nil
  | emp r ih =>
    intro i
    cases i with
    | zero => exact .val x r
    | succ i => exact .emp (ih i)
  | val y r ih =>
    intro i
    cases i with
    | zero => exact .val x r
    | succ i => exact .val y (ih i)
/-- what slot i holds is told otherwise -/
theorem EnvR.tell {d v A} (r : EnvR K F H es σ As) (x : Rep K F H d v A) : ∀ {i : Nat}, σ[i]? = some (some v) → EnvR K F H (es.set i (some d)) σ (As.set i A) := by
  induction r with
  | nil => intro i _; exact .nil
  | emp r ih =>
    intro i e
    cases i with
    | zero => simp at e; subst e; exact .val x r
    | succ i => exact .emp (ih (by simpa using e))
  | val y r ih =>
    intro i e
    cases i with
    | zero => simp at e; subst e; exact .val x r
    | succ i => exact .val y (ih (by simpa using e))
/-- a slot that is given up may hold anything -/
theorem EnvR.slot {o} (r : EnvR K F H es σ As) : ∀ {i : Nat}, es[i]? = some none → EnvR K F H es (σ.set i o) As := by
  induction r with
  | nil => intro i _; exact .nil
  | emp r ih =>
    intro i e
    cases i with
    | zero => exact .emp r
    | succ i => exact .emp (ih (by simpa using e))
  | val y r ih =>
    intro i e
    cases i with
    | zero => simp at e
    | succ i => exact .val y (ih (by simpa using e))
end
theorem flat_set : ∀ (As : List (List Addr)) (i : Nat) (A : List Addr), i < As.length → (As.set i A).flatten.Perm (A ++ (As.set i []).flatten)
  | [], _, _, h => absurd h (Nat.not_lt_zero _)
  | X :: As, 0, A, _ => by simp
  | X :: As, i + 1, A, h => by
    have ih := flat_set As i A (by simpa using h)
    simp only [List.set_cons_succ, List.flatten_cons]
    refine (List.Perm.append_left X ih).trans ?_
    rw [← List.append_assoc, ← List.append_assoc]
    exact List.Perm.append_right _ List.perm_append_comm
theorem set_self {α : Type} : ∀ (As : List α) (i : Nat) (A : α), As[i]? = some A → As.set i A = As
  | [], _, _, h => rfl
  | X :: As, 0, A, h => by simp at h; subst h; rfl
  | X :: As, i + 1, A, h => by simp only [List.set_cons_succ]; rw [set_self As i A (by simpa using h)]
theorem set_set {α : Type} : ∀ (As : List α) (i : Nat) (A B : α), (As.set i A).set i B = As.set i B
  | [], _, _, _ => rfl
  | X :: As, 0, _, _ => rfl
  | X :: As, i + 1, A, B => by simp only [List.set_cons_succ]; rw [set_set As i A B]
theorem flat_at (As : List (List Addr)) (i : Nat) (A : List Addr) (h : As[i]? = some A) : As.flatten.Perm (A ++ (As.set i []).flatten) := by
  have hl : i < As.length := (List.getElem?_eq_some_iff.mp h).1
  have := flat_set As i A hl
  rwa [set_self As i A h] at this
end PL

/-! PLb: states (frozen part F, heap H, what is another's B, own things As), the judgements DE (expressions), first rules. -/
namespace PL
open PySem L2

/-- the state of a def's run -/
structure SO (K : PySem.W.Frag) (F H : Hp) (B : Addr → Prop) (env : En) (σ : St) (As : List (List Addr)) : Prop where
  same : Same F H
  env : EnvR K F H env σ As
  nd : As.flatten.Nodup
  fr : ∀ a ∈ As.flatten, F a = none
  out : ∀ b, B b → F b = none ∧ MuA H b ∧ b ∉ As.flatten
/-- a value at hand -/
structure TO (K : PySem.W.Frag) (F H : Hp) (B : Addr → Prop) (As : List (List Addr)) (d : D) (v : V) (a : List Addr) : Prop where
  rep : Rep K F H d v a
  nd : (a ++ As.flatten).Nodup
  fr : ∀ x ∈ a, F x = none
  nb : ∀ x ∈ a, ¬ B x
/-- several values at hand -/
structure TOL (K : PySem.W.Frag) (F H : Hp) (B : Addr → Prop) (As : List (List Addr)) (ds : List D) (vs : List V) (a : List Addr) : Prop where
  rep : RepL K F H ds vs a
  nd : (a ++ As.flatten).Nodup
  fr : ∀ x ∈ a, F x = none
  nb : ∀ x ∈ a, ¬ B x
/-- what an expression leaves -/
structure PostE (K : PySem.W.Frag) (p : Bool) (F H : Hp) (B : Addr → Prop) (env : En) (σ : St) (As : List (List Addr)) (F' H' : Hp) (env' : En) (As' : List (List Addr)) : Prop where
  ext : Same F F'
  so : SO K F' H' B env' σ As'
  keep : ∀ b, B b → H' b = H b
  pure : p = true → env' = env ∧ As' = As ∧ ∀ a ∈ As.flatten, H' a = H a
def Bx (B : Addr → Prop) (a : List Addr) : Addr → Prop := fun x => B x ∨ x ∈ a
section
variable {K : PySem.W.Frag} {p q : Bool} {F F' F2 H H' H2 : Hp} {B : Addr → Prop} {env env' env2 : En} {σ : St} {As As' As2 : List (List Addr)} {d d2 : D} {v v2 : V} {a a2 : List Addr} {ds : List D} {vs : List V}
theorem PostE.refl (s : SO K F H B env σ As) : PostE K p F H B env σ As F H env As := ⟨Same.refl _, s, fun _ _ => rfl, fun _ => ⟨rfl, rfl, fun _ _ => rfl⟩⟩
theorem PostE.trans (s : PostE K p F H B env σ As F' H' env' As') (t : PostE K p F' H' B env' σ As' F2 H2 env2 As2) : PostE K p F H B env σ As F2 H2 env2 As2 :=
  ⟨s.ext.trans t.ext, t.so, fun b hb => (t.keep b hb).trans (s.keep b hb), fun e => by
    obtain ⟨e1, e2, e3⟩ := s.pure e
    obtain ⟨f1, f2, f3⟩ := t.pure e
    subst e1 e2 f1 f2
    exact ⟨rfl, rfl, fun a ha => (f3 a ha).trans (e3 a ha)⟩⟩
theorem PostE.imp (h : q = true → p = true) (s : PostE K p F H B env σ As F' H' env' As') : PostE K q F H B env σ As F' H' env' As' := ⟨s.ext, s.so, s.keep, fun e => s.pure (h e)⟩
theorem SO.push (s : SO K F H B env σ As) (t : TO K F H B As d v a) : SO K F H (Bx B a) env σ As := by
  refine ⟨s.same, s.env, s.nd, s.fr, fun b hb => ?_⟩
  rcases hb with hb | hb
  · exact s.out b hb
  · exact ⟨t.fr b hb, t.rep.mut b hb, fun z => (List.nodup_append.mp t.nd).2.2 b hb b z rfl⟩
theorem SO.pushL (s : SO K F H B env σ As) (t : TOL K F H B As ds vs a) : SO K F H (Bx B a) env σ As := by
  refine ⟨s.same, s.env, s.nd, s.fr, fun b hb => ?_⟩
  rcases hb with hb | hb
  · exact s.out b hb
  · exact ⟨t.fr b hb, t.rep.mut b hb, fun z => (List.nodup_append.mp t.nd).2.2 b hb b z rfl⟩
theorem SO.pop (s : SO K F H (Bx B a) env σ As) : SO K F H B env σ As := ⟨s.same, s.env, s.nd, s.fr, fun b hb => s.out b (.inl hb)⟩
theorem PostE.pop (s : PostE K p F H (Bx B a) env σ As F' H' env' As') : PostE K p F H B env σ As F' H' env' As' := ⟨s.ext, s.so.pop, fun b hb => s.keep b (.inl hb), s.pure⟩
/-- a value at hand through another evaluation -/
theorem TO.keep (t : TO K F H B As d v a) (s : PostE K p F H (Bx B a) env σ As F' H' env' As') : TO K F' H' B As' d v a := by
  have o := fun x (hx : x ∈ a) => s.so.out x (.inr hx)
  refine ⟨t.rep.frame s.ext fun x hx => s.keep x (.inr hx), ?_, fun x hx => (o x hx).1, t.nb⟩
  exact List.nodup_append.mpr ⟨(List.nodup_append.mp t.nd).1, s.so.nd, fun x hx y hy e => (o x hx).2.2 (e ▸ hy)⟩
theorem TOL.keep (t : TOL K F H B As ds vs a) (s : PostE K p F H (Bx B a) env σ As F' H' env' As') : TOL K F' H' B As' ds vs a := by
  have o := fun x (hx : x ∈ a) => s.so.out x (.inr hx)
  refine ⟨t.rep.frame s.ext fun x hx => s.keep x (.inr hx), ?_, fun x hx => (o x hx).1, t.nb⟩
  exact List.nodup_append.mpr ⟨(List.nodup_append.mp t.nd).1, s.so.nd, fun x hx y hy e => (o x hx).2.2 (e ▸ hy)⟩
theorem TO.unx (t : TO K F H (Bx B a2) As d v a) : TO K F H B As d v a := ⟨t.rep, t.nd, t.fr, fun x hx hb => t.nb x hx (.inl hb)⟩
theorem TOL.unx (t : TOL K F H (Bx B a2) As ds vs a) : TOL K F H B As ds vs a := ⟨t.rep, t.nd, t.fr, fun x hx hb => t.nb x hx (.inl hb)⟩
theorem TO.apart (t : TO K F H (Bx B a2) As d v a) : ∀ x ∈ a, x ∉ a2 := fun x hx hb => t.nb x hx (.inr hb)
theorem TOL.nil (s : SO K F H B env σ As) : TOL K F H B As [] [] [] := ⟨.nil, by simpa using s.nd, (fun _ z => nomatch z), (fun _ z => nomatch z)⟩
theorem TOL.cons (t : TO K F H B As d v a) (u : TOL K F H B As ds vs a2) (h : ∀ x ∈ a2, x ∉ a) : TOL K F H B As (d :: ds) (v :: vs) (a ++ a2) := by
  refine ⟨.cons t.rep u.rep, ?_, fun x hx => (List.mem_append.mp hx).elim (t.fr x) (u.fr x), fun x hx => (List.mem_append.mp hx).elim (t.nb x) (u.nb x)⟩
  rw [List.append_assoc]
  have h1 := List.nodup_append.mp t.nd
  refine List.nodup_append.mpr ⟨h1.1, u.nd, fun x hx y hy e => ?_⟩
  subst e
  rcases List.mem_append.mp hy with hy | hy
  · exact h x hy hx
  · exact h1.2.2 x hx x hy rfl
/-- a scalar at hand -/
theorem TO.sc (s : SO K F H B env σ As) (v : V) : TO K F H B As (.sc v) v [] := ⟨.sc, by simpa using s.nd, (fun _ z => nomatch z), (fun _ z => nomatch z)⟩
theorem TO.fz (t : Rep K F H d v []) (s : SO K F H B env σ As) : TO K F H B As d v [] := ⟨t, by simpa using s.nd, (fun _ z => nomatch z), (fun _ z => nomatch z)⟩

/-! ### new objects -/
theorem EnvR.mut {K : PySem.W.Frag} {F H : Hp} {env : En} {σ : St} {As : List (List Addr)} (r : EnvR K F H env σ As) : ∀ a ∈ As.flatten, MuA H a := by
  induction r with
  | nil => exact fun a ha => nomatch ha
  | emp _ ih => exact fun a ha => ih a (by simpa using ha)
  | val r _ ih =>
    intro a ha
    rw [List.flatten_cons] at ha
    exact (List.mem_append.mp ha).elim (r.mut a) (ih a)
theorem EnvR.there {K : PySem.W.Frag} {F H : Hp} {env : En} {σ : St} {As : List (List Addr)} (r : EnvR K F H env σ As) : ∀ a ∈ As.flatten, ∃ o, H a = some o := fun a h => (r.mut a h).there
theorem SO.freeF (s : SO K F H B env σ As) {p : Addr} (h : H p = none) : F p = none := s.same.free h
theorem SO.notAs (s : SO K F H B env σ As) {p : Addr} (h : H p = none) : p ∉ As.flatten := fun z => by
  obtain ⟨o, e⟩ := s.env.there p z
  rw [h] at e; cases e
theorem SO.notB (s : SO K F H B env σ As) {p : Addr} (h : H p = none) : ¬ B p := fun z => by
  obtain ⟨_, ⟨o, e, _⟩, _⟩ := s.out p z
  rw [h] at e; cases e
theorem same_upd {H : Hp} {p : Addr} {o : HO} (h : H p = none) : Same H (upd H p o) := fun b u e => by rw [upd_ne (ne_of_none e h)]; exact e
theorem upd_both {F H : Hp} {p : Addr} {o : HO} (s : Same F H) : Same (upd F p o) (upd H p o) := fun b u e => by
  by_cases z : b = p
  · subst z; rw [upd_same] at e ⊢; exact e
  · rw [upd_ne z] at e ⊢; exact s _ _ e
/-- a new own object -/
theorem SO.newO (s : SO K F H B env σ As) {p : Addr} {o : HO} (h : H p = none) : PostE K true F H B env σ As F (upd H p o) env As := by
  have nA := s.notAs h
  have k : ∀ a ∈ As.flatten, upd H p o a = H a := fun a ha => upd_ne fun z => nA (z ▸ ha)
  refine ⟨Same.refl _, ⟨s.same.trans (same_upd h), s.env.frame (Same.refl _) k, s.nd, s.fr, fun b hb => ?_⟩, fun b hb => upd_ne fun z => s.notB h (z ▸ hb), fun _ => ⟨rfl, rfl, k⟩⟩
  obtain ⟨h1, h2, h3⟩ := s.out b hb
  have nb : b ≠ p := fun z => s.notB h (z ▸ hb)
  exact ⟨h1, h2.of_eq (upd_ne nb), h3⟩
/-- a new frozen object -/
theorem SO.newF (s : SO K F H B env σ As) {p : Addr} {o : HO} (h : H p = none) : PostE K true F H B env σ As (upd F p o) (upd H p o) env As := by
  have nA := s.notAs h
  have nF := s.freeF h
  have k : ∀ a ∈ As.flatten, upd H p o a = H a := fun a ha => upd_ne fun z => nA (z ▸ ha)
  refine ⟨same_upd nF, ⟨upd_both s.same, s.env.frame (same_upd nF) k, s.nd, fun a ha => (upd_ne (fun z : a = p => nA (z ▸ ha))).trans (s.fr a ha), fun b hb => ?_⟩, fun b hb => upd_ne fun z => s.notB h (z ▸ hb), fun _ => ⟨rfl, rfl, k⟩⟩
  obtain ⟨h1, h2, h3⟩ := s.out b hb
  have nb : b ≠ p := fun z => s.notB h (z ▸ hb)
  exact ⟨by rw [upd_ne nb]; exact h1, h2.of_eq (upd_ne nb), h3⟩
/-- values at hand are frozen -/
theorem SO.freezeL (s : SO K F H B env σ As) (t : TOL K F H B As ds vs a) : PostE K true F H B env σ As (fzAt F H a) H env As ∧ RepL K (fzAt F H a) H (D.frzL ds) vs [] := by
  have e := fzAt_same (H := H) t.fr
  have nA : ∀ x ∈ As.flatten, x ∉ a := fun x hx z => (List.nodup_append.mp t.nd).2.2 x z x hx rfl
  refine ⟨⟨e, ⟨fzAt_sub s.same, s.env.frame e fun _ _ => rfl, s.nd, fun x hx => by rw [fzAt_out (nA x hx)]; exact s.fr x hx, fun b hb => ?_⟩, fun _ _ => rfl, fun _ => ⟨rfl, rfl, fun _ _ => rfl⟩⟩, t.rep.freeze e fun x hx => fzAt_in hx⟩
  obtain ⟨h1, h2, h3⟩ := s.out b hb
  exact ⟨by rw [fzAt_out (fun z => t.nb b z hb)]; exact h1, h2, h3⟩
theorem TO.one (t : TO K F H B As d v a) : TOL K F H B As [d] [v] a := ⟨.one t.rep, t.nd, t.fr, t.nb⟩
theorem SO.freeze (s : SO K F H B env σ As) (t : TO K F H B As d v a) : PostE K true F H B env σ As (fzAt F H a) H env As ∧ Rep K (fzAt F H a) H d.frz v [] := by
  obtain ⟨h1, h2⟩ := s.freezeL t.one
  obtain ⟨u, e, r⟩ := h2.one_inv
  cases e
  exact ⟨h1, r⟩
/-- what slot i holds, as a value at hand (the slot given up) -/
theorem SO.take (s : SO K F H B env σ As) {i : Nat} (e : env[i]? = some (some d)) : ∃ v a, σ[i]? = some (some v) ∧ As[i]? = some a ∧ SO K F H B (env.set i none) σ (As.set i []) ∧ TO K F H B (As.set i []) d v a := by
  obtain ⟨v, a, h1, h2, h3⟩ := s.env.get e
  have pm := flat_at As i a h2
  have nd : (a ++ (As.set i []).flatten).Nodup := pm.nodup_iff.mp s.nd
  have sub : ∀ x ∈ (As.set i []).flatten, x ∈ As.flatten := fun x hx => pm.mem_iff.mpr (List.mem_append_right _ hx)
  refine ⟨v, a, h1, h2, ⟨s.same, s.env.drop i, (List.nodup_append.mp nd).2.1, fun x hx => s.fr x (sub x hx), fun b hb => ?_⟩, h3, nd, fun x hx => s.fr x (pm.mem_iff.mpr (List.mem_append_left _ hx)), fun x hx hb => (s.out x hb).2.2 (pm.mem_iff.mpr (List.mem_append_left _ hx))⟩
  obtain ⟨k1, k2, k3⟩ := s.out b hb
  exact ⟨k1, k2, fun z => k3 (sub b z)⟩
/-- a value at hand is what slot i holds -/
theorem SO.put (s : SO K F H B env σ As) {i : Nat} (hA : As[i]? = some []) (t : TO K F H B As d v a) (e : σ[i]? = some (some v)) : SO K F H B (env.set i (some d)) σ (As.set i a) := by
  have hl : i < As.length := (List.getElem?_eq_some_iff.mp hA).1
  have pm := flat_set As i a hl
  rw [set_self As i [] hA] at pm
  refine ⟨s.same, s.env.tell t.rep e, pm.nodup_iff.mpr t.nd, fun x hx => (List.mem_append.mp (pm.mem_iff.mp hx)).elim (t.fr x) (s.fr x), fun b hb => ?_⟩
  obtain ⟨k1, k2, k3⟩ := s.out b hb
  exact ⟨k1, k2, fun z => (List.mem_append.mp (pm.mem_iff.mp z)).elim (fun y => t.nb b y hb) k3⟩
/-- a value at hand is stored in slot i, that holds nothing of its own -/
theorem SO.store (s : SO K F H B env σ As) {i : Nat} (hA : As[i]? = some []) (t : TO K F H B As d v a) : SO K F H B (env.set i (some d)) (σ.set i (some v)) (As.set i a) := by
  have hl : i < As.length := (List.getElem?_eq_some_iff.mp hA).1
  have pm := flat_set As i a hl
  rw [set_self As i [] hA] at pm
  refine ⟨s.same, s.env.set t.rep i, pm.nodup_iff.mpr t.nd, fun x hx => (List.mem_append.mp (pm.mem_iff.mp hx)).elim (t.fr x) (s.fr x), fun b hb => ?_⟩
  obtain ⟨k1, k2, k3⟩ := s.out b hb
  exact ⟨k1, k2, fun z => (List.mem_append.mp (pm.mem_iff.mp z)).elim (fun y => t.nb b y hb) k3⟩
/-- a slot given up -/
theorem SO.drop (s : SO K F H B env σ As) (i : Nat) : SO K F H B (env.set i none) σ (As.set i []) := by
  by_cases hl : i < As.length
  · have pm := flat_at As i As[i] (by simp [hl])
    have nd := pm.nodup_iff.mp s.nd
    have sub : ∀ x ∈ (As.set i []).flatten, x ∈ As.flatten := fun x hx => pm.mem_iff.mpr (List.mem_append_right _ hx)
    refine ⟨s.same, s.env.drop i, (List.nodup_append.mp nd).2.1, fun x hx => s.fr x (sub x hx), fun b hb => ?_⟩
    obtain ⟨k1, k2, k3⟩ := s.out b hb
    exact ⟨k1, k2, fun z => k3 (sub b z)⟩
  · have e1 : As.set i [] = As := List.set_eq_of_length_le (by omega)
    have e2 : env.set i none = env := List.set_eq_of_length_le (by have := s.env.len.2; omega)
    rw [e1, e2]; exact s
theorem SO.emptied (s : SO K F H B env σ As) {i : Nat} (hi : i < As.length) : (As.set i [])[i]? = some [] := by simp [hi]
theorem SO.lt (s : SO K F H B env σ As) {i : Nat} {o} (e : env[i]? = some o) : i < As.length := by
  have := (List.getElem?_eq_some_iff.mp e).1
  have := s.env.len.2
  omega
end

/-! ### expressions -/
/-- an expression by its data: env, and what is wanted of its value and of env behind it -/
abbrev WE := En → (D → En → Prop) → Prop
def liftE (K : PySem.W.Frag) (p : Bool) (w : WE) : TE := fun σ H Q => ∃ F B env As R, SO K F H B env σ As ∧ w env R ∧
  ∀ v H' F' As' a d env', PostE K p F H B env σ As F' H' env' As' → TO K F' H' B As' d v a → R d env' → Q v H'
structure DE (p : Bool) (X : Cx) (e : Expr) (w : WE) : Prop where
  pe : PE X e (liftE X.K p w)
theorem PEimp {X : Cx} {e : Expr} {t t' : TE} (h : PE X e t) (i : ∀ σ H Q, t' σ H Q → t σ H Q) : PE X e t' := ⟨fun pins s σ H Q I q => h.run pins s σ H Q I (i σ H Q q)⟩
theorem PTimp {X : Cx} {e : Expr} {t t' : TT} (h : PT X e t) (i : ∀ σ H Q, t' σ H Q → t σ H Q) : PT X e t' := ⟨fun pins s σ H Q I q => h.run pins s σ H Q I (i σ H Q q)⟩
theorem PAimp {X : Cx} {e : List Expr} {t t' : TA} (h : PA X e t) (i : ∀ σ H Q, t' σ H Q → t σ H Q) : PA X e t' := ⟨fun pos pins s σ H Q I q => h.run pos pins s σ H Q I (i σ H Q q)⟩
theorem PSimp {X : Cx} {e : Stmt} {t t' : TS} (h : PS X e t) (i : ∀ D σ H, t' D σ H → t D σ H) : PS X e t' := ⟨fun pins s σ H D I q => h.run pins s σ H D I (i D σ H q)⟩
theorem PSsimp {X : Cx} {e : List Stmt} {t t' : TS} (h : PSs X e t) (i : ∀ D σ H, t' D σ H → t D σ H) : PSs X e t' := ⟨fun pins s σ H D I q => h.run pins s σ H D I (i D σ H q)⟩
theorem PGimp {X : Cx} {e : Expr} {t t' : TG} (h : PG X e t) (i : ∀ v σ H Q, t' v σ H Q → t v σ H Q) : PG X e t' := ⟨fun pins s σ H v u Q I r q => h.run pins s σ H v u Q I r (i v σ H Q q)⟩
section
variable {X : Cx} {p : Bool} {e a b : Expr} {wa wb : WE} {pos : Pos}
theorem DE.weak {w : WE} (h : DE true X e w) : DE p X e w := ⟨PEimp h.pe fun σ H Q ⟨F, B, env, As, R, s, hw, k⟩ => ⟨F, B, env, As, R, s, hw, fun v H' F' As' a d env' po => k v H' F' As' a d env' (po.imp fun _ => rfl)⟩⟩

/-! constants and names -/
def wC (d : D) : WE := fun env R => R d env
theorem de_of_c {v : V} (h : PE X e (tC v)) : DE p X e (wC (.sc v)) := ⟨PEimp h fun σ H Q ⟨F, B, env, As, R, s, hw, k⟩ => k v H F As [] _ env (.refl s) (.sc s v) hw⟩
theorem de_int {i j} : DE p X (.Constant (.int i) j pos) (wC (.int i)) := de_of_c pe_int
theorem de_bl {i j} : DE p X (.Constant (.bool i) j pos) (wC (.bl i)) := de_of_c pe_bl
theorem de_non {j} : DE p X (.Constant .none j pos) (wC .non) := de_of_c pe_non
theorem de_str {x j} : DE p X (.Constant (.str x) j pos) (wC (.str x)) := de_of_c pe_str
/-- a name whose value is frozen (a number, a text ..) -/
def wVal (i : Nat) : WE := fun env R => ∃ d, env[i]? = some (some d) ∧ d.fz = true ∧ R d env
/-- a name: what it holds is frozen from now on -/
def wVar (i : Nat) : WE := fun env R => ∃ d, env[i]? = some (some d) ∧ R d.frz (env.set i (some d.frz))
/-- a name: what it holds is moved out -/
def wMove (i : Nat) : WE := fun env R => ∃ d, env[i]? = some (some d) ∧ R d (env.set i none)
theorem de_val {i : Nat} (h : PE X e (tVar i)) : DE p X e (wVal i) := by
  refine ⟨PEimp h fun σ H Q ⟨F, B, env, As, R, s, ⟨d, he, hz, hw⟩, k⟩ => ?_⟩
  obtain ⟨v, a, h1, h2, h3⟩ := s.env.get he
  have := h3.fzNil hz
  subst this
  exact ⟨v, h1, k v H F As [] d env (.refl s) (.fz h3 s) hw⟩
theorem de_var {i : Nat} (h : PE X e (tVar i)) : DE false X e (wVar i) := by
  refine ⟨PEimp h fun σ H Q ⟨F, B, env, As, R, s, ⟨d, he, hw⟩, k⟩ => ?_⟩
  obtain ⟨v, a, h1, h2, s1, t1⟩ := s.take he
  obtain ⟨po, r⟩ := s1.freeze t1
  have hl := s.lt he
  have s2 := po.so.put (i := i) (s.emptied hl) (.fz r po.so) h1
  rw [set_set, set_set] at s2
  exact ⟨v, h1, k v H _ _ [] d.frz _ ⟨po.ext, s2, po.keep, fun z => nomatch z⟩ (.fz r s2) hw⟩
theorem de_move {i : Nat} (h : PE X e (tVar i)) : DE false X e (wMove i) := by
  refine ⟨PEimp h fun σ H Q ⟨F, B, env, As, R, s, ⟨d, he, hw⟩, k⟩ => ?_⟩
  obtain ⟨v, a, h1, h2, s1, t1⟩ := s.take he
  exact ⟨v, h1, k v H F _ a d _ ⟨Same.refl _, s1, fun _ _ => rfl, fun z => nomatch z⟩ t1 hw⟩

/-! two values and an operation -/
abbrev RD2 := D → D → (D → Prop) → Prop
/-- the operation r on values is rd on data -/
def Snd2 (K : PySem.W.Frag) (r : R2) (rd : RD2) : Prop :=
  ∀ {F H : Hp} {B : Addr → Prop} {env : En} {σ : St} {As : List (List Addr)} {x y : D} {v u : V} {a b : List Addr} {R : D → Prop} {Q : VK}, SO K F H B env σ As → Rep K F H x v a → Rep K F H y u b → rd x y R →
    (∀ v' H' F' c z, PostE K true F H B env σ As F' H' env As → TO K F' H' B As z v' c → R z → Q v' H') → r v u H Q

/-! ### a value that is read where it lies -/
/-- a value that is there: own to a slot, or at hand -/
structure VO (K : PySem.W.Frag) (F H : Hp) (B : Addr → Prop) (As : List (List Addr)) (d : D) (v : V) (a : List Addr) : Prop where
  rep : Rep K F H d v a
  at_ : (∀ x ∈ a, x ∈ As.flatten) ∨ TO K F H B As d v a
abbrev WB := En → (D → Prop) → Prop
def liftB (K : PySem.W.Frag) (w : WB) : TE := fun σ H Q => ∃ F B env As R, SO K F H B env σ As ∧ w env R ∧
  ∀ v H' F' a d, PostE K true F H B env σ As F' H' env As → VO K F' H' B As d v a → R d → Q v H'
structure DB (X : Cx) (e : Expr) (w : WB) : Prop where
  pe : PE X e (liftB X.K w)
/-- through a pure evaluation -/
theorem VO.keep {K : PySem.W.Frag} {F F' H H' : Hp} {B : Addr → Prop} {env : En} {σ : St} {As : List (List Addr)} {d : D} {v : V} {a : List Addr} (s : SO K F H B env σ As) (t : VO K F H B As d v a) :
    ∃ B', (∀ b, B b → B' b) ∧ SO K F H B' env σ As ∧ ∀ F' H' env' As', PostE K true F H B' env σ As F' H' env' As' → VO K F' H' B As d v a ∧ PostE K true F H B env σ As F' H' env' As' ∧ ∀ x ∈ a, H' x = H x := by
  rcases t.at_ with h | h
  · refine ⟨B, fun _ z => z, s, fun F' H' env' As' po => ?_⟩
    obtain ⟨e1, e2, e3⟩ := po.pure rfl
    exact ⟨⟨t.rep.frame po.ext fun x hx => e3 x (h x hx), .inl h⟩, po, fun x hx => e3 x (h x hx)⟩
  · refine ⟨Bx B a, fun _ z => .inl z, s.push h, fun F' H' env' As' po => ?_⟩
    obtain ⟨e1, e2, e3⟩ := po.pure rfl
    have := h.keep po
    subst e2
    exact ⟨⟨this.rep, .inr this⟩, po.pop, fun x hx => po.keep x (.inr hx)⟩
/-- a name, read -/
def bName (i : Nat) : WB := fun env R => ∃ d, env[i]? = some (some d) ∧ R d
theorem db_name {i : Nat} (h : PE X e (tVar i)) : DB X e (bName i) := by
  refine ⟨PEimp h fun σ H Q ⟨F, B, env, As, R, s, ⟨d, he, hw⟩, k⟩ => ?_⟩
  obtain ⟨v, a, h1, h2, h3⟩ := s.env.get he
  exact ⟨v, h1, k v H F a d (.refl s) ⟨h3, .inl fun x hx => List.mem_flatten.mpr ⟨a, List.mem_of_getElem? h2, hx⟩⟩ hw⟩
/-- a value at hand, read (pure) -/
def bE (w : WE) : WB := fun env R => w env fun d _ => R d
theorem db_E {w : WE} (h : DE true X e w) : DB X e (bE w) := by
  refine ⟨PEimp h.pe fun σ H Q ⟨F, B, env, As, R, s, hw, k⟩ => ⟨F, B, env, As, _, s, hw, fun v H' F' As' a d env' po t h => ?_⟩⟩
  obtain ⟨e1, e2, e3⟩ := po.pure rfl
  subst e1 e2
  exact k v H' F' a d po ⟨t.rep, .inr t⟩ h

/-! ### two operands -/
def wBin (rd : RD2) (wa wb : WE) : WE := fun env R => wa env fun x e1 => wb e1 fun y e2 => rd x y fun z => R z e2
theorem bin_EE {r : R2} {rd : RD2} (hr : Snd2 X.K r rd) : ∀ σ H Q, liftE X.K p (wBin rd wa wb) σ H Q → tOp r (liftE X.K p wa) (liftE X.K p wb) σ H Q := by
  rintro σ H Q ⟨F, B, env, As, R, s, hw, k⟩
  refine ⟨F, B, env, As, _, s, hw, fun v H1 F1 As1 a x e1 po1 t1 h1 => ?_⟩
  refine ⟨F1, Bx B a, e1, As1, _, po1.so.push t1, h1, fun u H2 F2 As2 b y e2 po2 t2 h2 => ?_⟩
  refine hr po2.so.pop (t1.keep po2).rep t2.rep h2 fun v' H3 F3 c z po3 t3 h3 => ?_
  exact k v' H3 F3 As2 c z e2 ((po1.trans po2.pop).trans (po3.imp fun _ => rfl)) t3 h3
/-- the second one is read where it lies -/
def wBinEB (rd : RD2) (wa : WE) (wb : WB) : WE := fun env R => wa env fun x e1 => wb e1 fun y => rd x y fun z => R z e1
theorem bin_EB {r : R2} {rd : RD2} {wb : WB} (hr : Snd2 X.K r rd) : ∀ σ H Q, liftE X.K p (wBinEB rd wa wb) σ H Q → tOp r (liftE X.K p wa) (liftB X.K wb) σ H Q := by
  rintro σ H Q ⟨F, B, env, As, R, s, hw, k⟩
  refine ⟨F, B, env, As, _, s, hw, fun v H1 F1 As1 a x e1 po1 t1 h1 => ?_⟩
  refine ⟨F1, Bx B a, e1, As1, _, po1.so.push t1, h1, fun u H2 F2 b y po2 t2 h2 => ?_⟩
  refine hr po2.so.pop (t1.keep po2).rep t2.rep h2 fun v' H3 F3 c z po3 t3 h3 => ?_
  exact k v' H3 F3 As1 c z e1 ((po1.trans (po2.pop.imp fun _ => rfl)).trans (po3.imp fun _ => rfl)) t3 h3
/-- a name, then a value: the name is read behind it -/
def wBinNE (rd : RD2) (i : Nat) (wb : WE) : WE := fun env R => (∃ x, env[i]? = some (some x)) ∧ wb env fun y e2 => ∃ x, e2[i]? = some (some x) ∧ rd x y fun z => R z e2
theorem bin_NE {r : R2} {rd : RD2} {i : Nat} (hr : Snd2 X.K r rd) : ∀ σ H Q, liftE X.K p (wBinNE rd i wb) σ H Q → tOp r (tVar i) (liftE X.K p wb) σ H Q := by
  rintro σ H Q ⟨F, B, env, As, R, s, ⟨⟨x0, hx0⟩, hw⟩, k⟩
  obtain ⟨v, a, h1, _, _⟩ := s.env.get hx0
  refine ⟨v, h1, F, B, env, As, _, s, hw, fun u H2 F2 As2 b y e2 po2 t2 ⟨x, hx, h2⟩ => ?_⟩
  obtain ⟨v', a', h1', h3, h4⟩ := po2.so.env.get hx
  rw [h1] at h1'; cases h1'
  refine hr po2.so h4 t2.rep h2 fun v' H3 F3 c z po3 t3 h3 => ?_
  exact k v' H3 F3 As2 c z e2 (po2.trans (po3.imp fun _ => rfl)) t3 h3
/-- both read where they lie -/
def wBinBB (rd : RD2) (wa wb : WB) : WE := fun env R => wa env fun x => wb env fun y => rd x y fun z => R z env
theorem bin_BB {r : R2} {rd : RD2} {wa wb : WB} (hr : Snd2 X.K r rd) : ∀ σ H Q, liftE X.K p (wBinBB rd wa wb) σ H Q → tOp r (liftB X.K wa) (liftB X.K wb) σ H Q := by
  rintro σ H Q ⟨F, B, env, As, R, s, hw, k⟩
  refine ⟨F, B, env, As, _, s, hw, fun v H1 F1 a x po1 t1 h1 => ?_⟩
  obtain ⟨B', hB, s', kp⟩ := t1.keep po1.so (F' := F) (H' := H)
  refine ⟨F1, B', env, As, _, s', h1, fun u H2 F2 b y po2 t2 h2 => ?_⟩
  obtain ⟨t1', po2', _⟩ := kp _ _ _ _ po2
  refine hr po2'.so t1'.rep t2.rep h2 fun v' H3 F3 c z po3 t3 h3 => ?_
  exact k v' H3 F3 As c z env (((po1.trans po2').trans po3).imp fun _ => rfl) t3 h3
/-- the first one read where it lies, the second one at hand (pure) -/
def wBinBE (rd : RD2) (wa : WB) (wb : WE) : WE := wBinBB rd wa (bE wb)

/-- whole = a op b -/
def Bin2 (X : Cx) (whole a b : Expr) (r : R2) : Prop := ∀ ta tb, PE X a ta → PE X b tb → PE X whole (tOp r ta tb)
def Tst2 (X : Cx) (whole a b : Expr) (r : R2) : Prop := ∀ ta tb, PE X a ta → PE X b tb → PT X whole (tTest (tOp r ta tb))
theorem b2_op {op : Operator} {r : R2} (ho : OpR X (binaryOp op) r) : Bin2 X (.BinOp a op b pos) a b r := fun _ _ ha hb => pe_op ho ha hb
theorem b2_cmp {op : CmpOp} {r : R2} (ho : OpR X (compareOp op) r) (hm : behindInMarks op b = false) : Bin2 X (.Compare a [op] [b] pos) a b r := fun _ _ ha hb => pe_cmpR ho ha hb hm
theorem t2_cmp {op : CmpOp} {r : R2} (ho : OpR X (compareOp op) r) (hm : behindInMarks op b = false) : Tst2 X (.Compare a [op] [b] pos) a b r := fun _ _ ha hb => pt_cmpR ho ha hb hm
theorem b2_ix {r : R2} (hi : IxR X r) (hs : PlainIx b) : Bin2 X (.Subscript a b pos) a b r := fun _ _ ha hb => pe_ix hi ha hb hs
section
variable {r : R2} {rd : RD2} {whole : Expr} {ba bb : WB} {i : Nat}
theorem de_EE (sh : Bin2 X whole a b r) (hr : Snd2 X.K r rd) (ha : DE p X a wa) (hb : DE p X b wb) : DE p X whole (wBin rd wa wb) := ⟨PEimp (sh _ _ ha.pe hb.pe) (bin_EE hr)⟩
theorem de_EB (sh : Bin2 X whole a b r) (hr : Snd2 X.K r rd) (ha : DE p X a wa) (hb : DB X b bb) : DE p X whole (wBinEB rd wa bb) := ⟨PEimp (sh _ _ ha.pe hb.pe) (bin_EB hr)⟩
theorem de_NE (sh : Bin2 X whole a b r) (hr : Snd2 X.K r rd) (ha : PE X a (tVar i)) (hb : DE p X b wb) : DE p X whole (wBinNE rd i wb) := ⟨PEimp (sh _ _ ha hb.pe) (bin_NE hr)⟩
theorem de_BB (sh : Bin2 X whole a b r) (hr : Snd2 X.K r rd) (ha : DB X a ba) (hb : DB X b bb) : DE p X whole (wBinBB rd ba bb) := ⟨PEimp (sh _ _ ha.pe hb.pe) (bin_BB hr)⟩
theorem de_BE (sh : Bin2 X whole a b r) (hr : Snd2 X.K r rd) (ha : DB X a ba) (hb : DE true X b wb) : DE p X whole (wBinBE rd ba wb) := de_BB sh hr ha (db_E hb)
end

/-! ### tests -/
abbrev WT := En → (Bool → En → Prop) → Prop
def liftT (K : PySem.W.Frag) (p : Bool) (w : WT) : TT := fun σ H Q => ∃ F B env As R, SO K F H B env σ As ∧ w env R ∧
  ∀ b H' F' As' env', PostE K p F H B env σ As F' H' env' As' → R b env' → Q b H'
structure DT (p : Bool) (X : Cx) (e : Expr) (w : WT) : Prop where
  pt : PT X e (liftT X.K p w)
structure DW (p : Bool) (X : Cx) (e : Expr) (w : WT) : Prop where
  pw : PW X e (liftT X.K p w)
def asB : D → (Bool → Prop) → Prop
  | .sc (.bl b), k => k b
  | _, _ => False
theorem asB_inv {d : D} {k : Bool → Prop} (h : asB d k) : ∃ b, d = .bl b ∧ k b := by
  unfold asB at h
  split at h
  · exact ⟨_, rfl, h⟩
  · exact h.elim
def wTst (w : WE) : WT := fun env R => w env fun d e1 => asB d fun b => R b e1
theorem Rep.bl_inv {K : PySem.W.Frag} {F H : Hp} {w : V} {v : V} {a : List Addr} (r : Rep K F H (.sc w) v a) : v = w ∧ a = [] := by cases r; exact ⟨rfl, rfl⟩
theorem tst_lift {t : TE} {w : WE} (i : ∀ σ H Q, liftE X.K p w σ H Q → t σ H Q) : ∀ σ H Q, liftT X.K p (wTst w) σ H Q → tTest t σ H Q := by
  rintro σ H Q ⟨F, B, env, As, R, s, hw, k⟩
  refine i σ H _ ⟨F, B, env, As, _, s, hw, fun v H1 F1 As1 a x e1 po1 t1 h1 => ?_⟩
  obtain ⟨b, rfl, h⟩ := asB_inv h1
  obtain ⟨rfl, _⟩ := t1.rep.bl_inv
  exact ⟨b, rfl, k b H1 F1 As1 e1 po1 h⟩
theorem dt_val {w : WE} (h : DE p X e w) (he : ∀ whole, isTrue e X.env whole = (do let v ← whole; standAt e.pos; holding [v] (truthy v)) := by intro _; rfl) : DT p X e (wTst w) :=
  ⟨PTimp (pt_val h.pe he) (tst_lift fun _ _ _ h => h)⟩
section
variable {r : R2} {rd : RD2} {whole : Expr} {ba bb : WB} {i : Nat}
theorem dt_EE (sh : Tst2 X whole a b r) (hr : Snd2 X.K r rd) (ha : DE p X a wa) (hb : DE p X b wb) : DT p X whole (wTst (wBin rd wa wb)) := ⟨PTimp (sh _ _ ha.pe hb.pe) (tst_lift (bin_EE hr))⟩
theorem dt_EB (sh : Tst2 X whole a b r) (hr : Snd2 X.K r rd) (ha : DE p X a wa) (hb : DB X b bb) : DT p X whole (wTst (wBinEB rd wa bb)) := ⟨PTimp (sh _ _ ha.pe hb.pe) (tst_lift (bin_EB hr))⟩
theorem dt_NE (sh : Tst2 X whole a b r) (hr : Snd2 X.K r rd) (ha : PE X a (tVar i)) (hb : DE p X b wb) : DT p X whole (wTst (wBinNE rd i wb)) := ⟨PTimp (sh _ _ ha hb.pe) (tst_lift (bin_NE hr))⟩
theorem dt_BB (sh : Tst2 X whole a b r) (hr : Snd2 X.K r rd) (ha : DB X a ba) (hb : DB X b bb) : DT p X whole (wTst (wBinBB rd ba bb)) := ⟨PTimp (sh _ _ ha.pe hb.pe) (tst_lift (bin_BB hr))⟩
theorem dt_BE (sh : Tst2 X whole a b r) (hr : Snd2 X.K r rd) (ha : DB X a ba) (hb : DE true X b wb) : DT p X whole (wTst (wBinBE rd ba wb)) := dt_BB sh hr ha (db_E hb)
end
/-! and, or, not -/
def wAnd (wa wb : WT) : WT := fun env R => wa env fun c e1 => if c = true then wb e1 R else R false e1
def wOr (wa wb : WT) : WT := fun env R => wa env fun c e1 => if c = true then R true e1 else wb e1 R
def wNot (wa : WT) : WT := fun env R => wa env fun c e1 => R (!c) e1
section
variable {ta tb : WT} {rest : List Expr}
theorem DW.dt (h : DW p X e ta) : DT p X e ta := ⟨h.pw.pt⟩
theorem PWimp {e : Expr} {t t' : TT} (h : PW X e t) (i : ∀ σ H Q, t' σ H Q → t σ H Q) : PW X e t' := ⟨fun wh pins s σ H Q I q => h.run wh pins s σ H Q I (i σ H Q q)⟩
theorem dw_and1 (ha : DT p X a ta) : DW p X (.BoolOp .And [a] pos) ta := ⟨pw_and1 ha.pt⟩
theorem dw_or1 (ha : DT p X a ta) : DW p X (.BoolOp .Or [a] pos) ta := ⟨pw_or1 ha.pt⟩
theorem dw_and (ha : DT p X a ta) (hb : DW p X (.BoolOp .And (b :: rest) pos) tb) : DW p X (.BoolOp .And (a :: b :: rest) pos) (wAnd ta tb) := by
  refine ⟨PWimp (pw_and ha.pt hb.pw) ?_⟩
  rintro σ H Q ⟨F, B, env, As, R, s, hw, k⟩
  refine ⟨F, B, env, As, _, s, hw, fun c H1 F1 As1 e1 po1 h1 => ?_⟩
  cases c with
  | true => exact ⟨F1, B, e1, As1, R, po1.so, h1, fun b H2 F2 As2 e2 po2 h2 => k b H2 F2 As2 e2 (po1.trans po2) h2⟩
  | false => exact k false H1 F1 As1 e1 po1 h1
theorem dw_or (ha : DT p X a ta) (hb : DW p X (.BoolOp .Or (b :: rest) pos) tb) : DW p X (.BoolOp .Or (a :: b :: rest) pos) (wOr ta tb) := by
  refine ⟨PWimp (pw_or ha.pt hb.pw) ?_⟩
  rintro σ H Q ⟨F, B, env, As, R, s, hw, k⟩
  refine ⟨F, B, env, As, _, s, hw, fun c H1 F1 As1 e1 po1 h1 => ?_⟩
  cases c with
  | false => exact ⟨F1, B, e1, As1, R, po1.so, h1, fun b H2 F2 As2 e2 po2 h2 => k b H2 F2 As2 e2 (po1.trans po2) h2⟩
  | true => exact k true H1 F1 As1 e1 po1 h1
theorem dt_not (ha : DT p X a ta) : DT p X (.UnaryOp .Not a pos) (wNot ta) := by
  refine ⟨PTimp (pt_not ha.pt) ?_⟩
  rintro σ H Q ⟨F, B, env, As, R, s, hw, k⟩
  exact ⟨F, B, env, As, _, s, hw, fun c H1 F1 As1 e1 po1 h1 => k _ H1 F1 As1 e1 po1 h1⟩
end
/-- a if t else b -/
def wIf (t : WT) (wa wb : WE) : WE := fun env R => t env fun c e1 => if c = true then wa e1 R else wb e1 R
theorem de_if {c : Expr} {t : WT} (hc : DT p X c t) (ha : DE p X a wa) (hb : DE p X b wb) : DE p X (.IfExp c a b pos) (wIf t wa wb) := by
  refine ⟨PEimp (pe_ifExp hc.pt ha.pe hb.pe) ?_⟩
  rintro σ H Q ⟨F, B, env, As, R, s, hw, k⟩
  refine ⟨F, B, env, As, _, s, hw, fun c H1 F1 As1 e1 po1 h1 => ?_⟩
  cases c with
  | true => exact ⟨F1, B, e1, As1, R, po1.so, h1, fun v H2 F2 As2 a d e2 po2 t2 h2 => k v H2 F2 As2 a d e2 (po1.trans po2) t2 h2⟩
  | false => exact ⟨F1, B, e1, As1, R, po1.so, h1, fun v H2 F2 As2 a d e2 po2 t2 h2 => k v H2 F2 As2 a d e2 (po1.trans po2) t2 h2⟩
end
end PL

/-! PLc: operations on data. -/
namespace PL
open PySem L2
section
variable {K : PySem.W.Frag} {p q : Bool} {F F' F2 H H' H2 : Hp} {B : Addr → Prop} {env env' env2 : En} {σ : St} {As As' As2 : List (List Addr)} {d d2 : D} {v v2 : V} {a a2 : List Addr} {ds : List D} {vs : List V}
theorem Rep.lst_inv {o : Bool} {xs : List D} (r : Rep K F H (.obj o .lst xs) v a) (s : Same F H) : ∃ p vs a', v = .ref p ∧ H p = some (.lst vs) ∧ RepL K F H xs vs a' := by
  cases r with
  | own h r => exact ⟨_, _, _, rfl, h, r⟩
  | frz h r => exact ⟨_, _, _, rfl, s _ _ h, r⟩
/-- a list that may be read -/
def isSeq : Sh → Bool
  | .lst => true
  | .sq => true
  | _ => false
theorem Rep.seq_inv {o : Bool} {sh : Sh} {xs : List D} (h : isSeq sh = true) (r : Rep K F H (.obj o sh xs) v a) (s : Same F H) : ∃ p vs a', v = .ref p ∧ SqL K H p vs ∧ RepL K F H xs vs a' := by
  cases sh with
  | lst => obtain ⟨p, vs, a', e, h, r⟩ := r.lst_inv s; exact ⟨p, vs, a', e, .of h, r⟩
  | sq =>
    cases r with
    | own h r => exact h.elim
    | frz h r => exact ⟨_, _, _, rfl, s.seq h, r⟩
  | _ => cases h
theorem Rep.tup_inv {xs : List D} (r : Rep K F H (.tup xs) v a) (s : Same F H) : ∃ p vs, v = .ref p ∧ SqT K H p vs ∧ RepL K F H xs vs a := by
  cases r with
  | tup h r => exact ⟨_, _, rfl, SqT.of (s _ _ h), r⟩
theorem Rep.tup_at {xs : List D} (r : Rep K F H (.tup xs) v a) (s : Same F H) : ∃ p vs, v = .ref p ∧ H p = some (.tup vs) ∧ RepL K F H xs vs a := by
  cases r with
  | tup h r => exact ⟨_, _, rfl, s _ _ h, r⟩
theorem Rep.sc_inv {w : V} (r : Rep K F H (.sc w) v a) : v = w ∧ a = [] := by cases r; exact ⟨rfl, rfl⟩
theorem RepL.sc_inv {ws : List V} : ∀ {vs a}, RepL K F H (ws.map D.sc) vs a → vs = ws ∧ a = [] := by
  induction ws with
  | nil => intro vs a r; exact r.nil_inv
  | cons w ws ih =>
    intro vs a r
    obtain ⟨v, us, A1, A2, rfl, rfl, r1, r2⟩ := r.cons_inv
    obtain ⟨rfl, rfl⟩ := r1.sc_inv
    obtain ⟨rfl, rfl⟩ := ih r2
    exact ⟨rfl, rfl⟩
theorem RepL.sc_of : ∀ (ws : List V), RepL K F H (ws.map D.sc) ws []
  | [] => .nil
  | w :: ws => .cons (A := []) (B := []) .sc (RepL.sc_of ws)

/-! results -/
/-- a scalar comes out -/
theorem out_sc {R : D → Prop} {Q : VK} {w : V} (s : SO K F H B env σ As) (h : R (.sc w)) (k : ∀ v' H' F' c z, PostE K true F H B env σ As F' H' env As → TO K F' H' B As z v' c → R z → Q v' H') : Q w H :=
  k w H F [] (.sc w) (.refl s) (.sc s w) h
/-- a frozen value that stands there comes out -/
theorem out_old {R : D → Prop} {Q : VK} {z : D} (s : SO K F H B env σ As) (r : Rep K F H z v []) (h : R z) (k : ∀ v' H' F' c z, PostE K true F H B env σ As F' H' env As → TO K F' H' B As z v' c → R z → Q v' H') : Q v H :=
  k v H F [] z (.refl s) (.fz r s) h
theorem not_mem_of_none {H : Hp} {p : Addr} {A : List Addr} (h : H p = none) (t : ∀ a ∈ A, ∃ o, H a = some o) : p ∉ A := fun z => by
  obtain ⟨o, e⟩ := t p z
  rw [h] at e; cases e
/-- a new own list of frozen items comes out -/
theorem out_lst {R : D → Prop} {Q : VK} {xs : List D} {vs : List V} (s : SO K F H B env σ As) (r : RepL K F H xs vs []) (h : R (.lst true xs)) (k : ∀ v' H' F' c z, PostE K true F H B env σ As F' H' env As → TO K F' H' B As z v' c → R z → Q v' H') :
    ∀ p, H p = none → Q (.ref p) (upd H p (.lst vs)) := fun p hp => by
  refine k _ _ F [p] _ (s.newO hp) ⟨.own (show CellO (upd H p (.lst vs)) .lst p vs from upd_same) (r.frame (Same.refl _) fun _ z => nomatch z), ?_, ?_, ?_⟩ h
  · exact List.nodup_cons.mpr ⟨s.notAs hp, s.nd⟩
  · intro x hx; rw [List.mem_singleton.mp hx]; exact s.freeF hp
  · intro x hx; rw [List.mem_singleton.mp hx]; exact s.notB hp
/-- a new tuple of frozen items comes out -/
theorem out_tup {R : D → Prop} {Q : VK} {xs : List D} {vs : List V} (s : SO K F H B env σ As) (r : RepL K F H xs vs []) (h : R (.tup xs)) (k : ∀ v' H' F' c z, PostE K true F H B env σ As F' H' env As → TO K F' H' B As z v' c → R z → Q v' H') :
    ∀ p, H p = none → Q (.ref p) (upd H p (.tup vs)) := fun p hp => by
  have po := s.newF (o := .tup vs) hp
  exact k _ _ _ [] _ po (.fz (.tup upd_same (r.frame po.ext fun _ z => nomatch z)) po.so) h
end

/-! ### arithmetic -/
def rdAdd : RD2
  | .sc (.int i), .sc (.int j), R => R (.int (i + j))
  | .sc (.str x), .sc (.str y), R => x.length + y.length ≤ sizeLine ∧ R (.str (x ++ y))
  | .obj _ .lst xs, .obj _ .lst ys, R => D.fzL xs = true ∧ D.fzL ys = true ∧ xs.length + ys.length ≤ sizeLine ∧ R (.lst true (xs ++ ys))
  | .tup (x :: xs), .tup (y :: ys), R => D.fzL (x :: xs) = true ∧ D.fzL (y :: ys) = true ∧ (x :: xs).length + (y :: ys).length ≤ sizeLine ∧ R (.tup ((x :: xs) ++ (y :: ys)))
  | _, _, _ => False
section
variable {X : Cx}
def rAddAll (K : PySem.W.Frag) : R2 := fun x y H Q => (rI0 fun i j => .int (i + j)) x y H Q ∨ (∃ i j, x = .str i ∧ y = .str j ∧ i.length + j.length ≤ sizeLine ∧ Q (.str (i ++ j)) H) ∨ rCat x y H Q ∨ rCatT K x y H Q
theorem opAdd : OpR X (binaryOp .Add) (rAddAll X.K) := op_add.or (op_add_str.or (op_cat.or op_catT))
theorem sAdd {K : PySem.W.Frag} : Snd2 K (rAddAll K) rdAdd := by
  intro F H B env σ As x y v u a b R Q s rx ry h k
  unfold rdAdd at h
  split at h
  · obtain ⟨rfl, _⟩ := rx.sc_inv
    obtain ⟨rfl, _⟩ := ry.sc_inv
    exact .inl ⟨_, _, rfl, rfl, out_sc s h k⟩
  · obtain ⟨rfl, _⟩ := rx.sc_inv
    obtain ⟨rfl, _⟩ := ry.sc_inv
    exact .inr (.inl ⟨_, _, rfl, rfl, h.1, out_sc s h.2 k⟩)
  · obtain ⟨z1, z2, hl, h⟩ := h
    obtain ⟨p, vs, a', rfl, e1, r1⟩ := rx.lst_inv s.same
    obtain ⟨p2, us, b', rfl, e2, r2⟩ := ry.lst_inv s.same
    refine .inr (.inr (.inl ⟨p, p2, vs, us, rfl, rfl, e1, e2, ?_, out_lst s ((r1.fz_mem z1).app (r2.fz_mem z2)) h k⟩))
    rw [← r1.length, ← r2.length]; exact hl
  · obtain ⟨z1, z2, hl, h⟩ := h
    obtain ⟨p, vs, rfl, e1, r1⟩ := rx.tup_inv s.same
    obtain ⟨p2, us, rfl, e2, r2⟩ := ry.tup_inv s.same
    refine .inr (.inr (.inr ⟨p, p2, vs, us, rfl, rfl, e1, e2, ?_, ?_, ?_, ?_⟩))
    · intro z; subst z; have := r1.length; simp at this
    · rw [← r1.length, ← r2.length]; exact hl
    · intro z; subst z; have := r2.length; simp at this
    · intro _; exact out_tup s ((r1.fz_mem z1).app (r2.fz_mem z2)) h k
  · exact h.elim

/-- two ints -/
def rdI (C : Int → Int → Prop) (g : Int → Int → V) : RD2
  | .sc (.int i), .sc (.int j), R => C i j ∧ R (.sc (g i j))
  | _, _, _ => False
def rdI0 (g : Int → Int → V) : RD2
  | .sc (.int i), .sc (.int j), R => R (.sc (g i j))
  | _, _, _ => False
theorem sI {K : PySem.W.Frag} {C : Int → Int → Prop} {g : Int → Int → V} : Snd2 K (rI C g) (rdI C g) := by
  intro F H B env σ As x y v u a b R Q s rx ry h k
  unfold rdI at h
  split at h
  · obtain ⟨rfl, _⟩ := rx.sc_inv
    obtain ⟨rfl, _⟩ := ry.sc_inv
    exact ⟨_, _, rfl, rfl, h.1, out_sc s h.2 k⟩
  · exact h.elim
theorem sI0 {K : PySem.W.Frag} {g : Int → Int → V} : Snd2 K (rI0 g) (rdI0 g) := by
  intro F H B env σ As x y v u a b R Q s rx ry h k
  unfold rdI0 at h
  split at h
  · obtain ⟨rfl, _⟩ := rx.sc_inv
    obtain ⟨rfl, _⟩ := ry.sc_inv
    exact ⟨_, _, rfl, rfl, out_sc s h k⟩
  · exact h.elim
abbrev rdSub : RD2 := rdI0 fun i j => .int (i - j)
abbrev rdFdiv : RD2 := rdI CDivW fun i j => .int (i / j)
abbrev rdMod : RD2 := rdI (fun _ j => 0 < j) fun i j => .int (i % j)
def CPowW (i j : Int) : Prop := 0 ≤ j ∧ (Builtin.Int.intBits i : Int) * j ≤ 2 ^ 27
abbrev rdPow : RD2 := rdI CPowW fun i j => .int (i ^ j.toNat)
abbrev rdShl : RD2 := rdI CPow fun i j => .int (i * 2 ^ j.toNat)
abbrev rdShr : RD2 := rdI (fun _ j => 0 ≤ j) fun i j => .int (i / 2 ^ j.toNat)
abbrev rdAnd : RD2 := rdI0 fun i j => .int (Builtin.bitAnd i j)
theorem opPow : OpR X (binaryOp .Pow) (rI CPowW fun i j => .int (i ^ j.toNat)) := opI fun _ _ _ _ _ _ _ hc q => PyProof.Rows.pow_int hc.1 hc.2 q
def rdMul : RD2
  | .sc (.int i), .sc (.int j), R => PySem.IntMulOk i j ∧ R (.int (i * j))
  | .obj _ .lst xs, .sc (.int j), R => D.fzL xs = true ∧ -(2 ^ 63) ≤ j ∧ j < 2 ^ 63 ∧ xs.length * j.toNat ≤ sizeLine ∧ R (.lst true (List.replicate j.toNat xs).flatten)
  | _, _, _ => False
theorem opMul : OpR X (binaryOp .Mult) (fun x y H Q => (rI PySem.IntMulOk fun i j => .int (i * j)) x y H Q ∨ rRep x y H Q) := (opI fun _ _ _ _ _ _ _ hc q => PyProof.Rows.mul_int q hc).or op_rep
theorem RepL.rep {K : PySem.W.Frag} {F H : Hp} {xs : List D} {vs : List V} (r : RepL K F H xs vs []) : ∀ n : Nat, RepL K F H (List.replicate n xs).flatten (List.replicate n vs).flatten []
  | 0 => .nil
  | n + 1 => by simpa [List.replicate_succ] using r.app (RepL.rep r n)
theorem sMul {K : PySem.W.Frag} : Snd2 K (fun x y H Q => (rI PySem.IntMulOk fun i j => .int (i * j)) x y H Q ∨ rRep x y H Q) rdMul := by
  intro F H B env σ As x y v u a b R Q s rx ry h k
  unfold rdMul at h
  split at h
  · obtain ⟨rfl, _⟩ := rx.sc_inv
    obtain ⟨rfl, _⟩ := ry.sc_inv
    exact .inl ⟨_, _, rfl, rfl, h.1, out_sc s h.2 k⟩
  · obtain ⟨z1, h1, h2, hl, h⟩ := h
    obtain ⟨p, vs, a', rfl, e1, r1⟩ := rx.lst_inv s.same
    obtain ⟨rfl, _⟩ := ry.sc_inv
    exact .inr ⟨p, _, vs, rfl, rfl, e1, h1, h2, by rw [← r1.length]; exact hl, out_lst s ((r1.fz_mem z1).rep _) h k⟩
  · exact h.elim

/-! ### comparisons -/
abbrev rdLt : RD2 := rdI0 fun i j => .bl (decide (i < j))
abbrev rdLe : RD2 := rdI0 fun i j => .bl (decide (i ≤ j))
abbrev rdGt : RD2 := rdI0 fun i j => .bl (decide (j < i))
abbrev rdGe : RD2 := rdI0 fun i j => .bl (decide (j ≤ i))
end
mutual
/-- a tree as plain data (what is no such data: a dict, that nothing equals) -/
def D.py : D → PyData
  | .sc .non => .none
  | .sc (.bl b) => .bool b
  | .sc (.int i) => .int i
  | .sc (.str x) => .str x
  | .sc _ => .dict []
  | .tup xs => .tuple (D.pyL xs)
  | .obj _ .lst xs => .list (D.pyL xs)
  | .obj _ .sq xs => .list (D.pyL xs)
  | .obj _ _ _ => .dict []
def D.pyL : List D → List PyData
  | [] => []
  | x :: xs => x.py :: D.pyL xs
end
theorem D.pyL_map (xs : List D) : D.pyL xs = xs.map D.py := by
  induction xs with
  | nil => rfl
  | cons x xs ih => simp only [D.pyL, List.map_cons, ih]
section
variable {K : PySem.W.Frag} {F H : Hp}
theorem Rep.dps (s : Same F H) : (∀ {d v A}, Rep K F H d v A → d.py.canLay0 = true → Dp K H v d.py) ∧ (∀ {ds vs A}, RepL K F H ds vs A → PyData.canLayAll0 (D.pyL ds) = true → DpAll K H vs (D.pyL ds)) := by
  refine Rep.ind (P := fun d v A => d.py.canLay0 = true → Dp K H v d.py) (PL := fun ds vs A => PyData.canLayAll0 (D.pyL ds) = true → DpAll K H vs (D.pyL ds)) ?_ ?_ ?_ ?_ ?_ ?_
  · intro v h
    cases v with
    | non => exact .non
    | bl b => exact .bl b
    | int i => exact .int i
    | str x => exact .str x
    | _ => simp [D.py, PyData.canLay0] at h
  · intro p vs xs A h r ih z
    exact .tup (SqT.of (s _ _ h)) (ih (by simpa [D.py, PyData.canLay0] using z))
  · intro sh p vs xs A h r ih z
    cases sh with
    | lst => exact .lst (.of h) (ih (by simpa [D.py, PyData.canLay0] using z))
    | sq => exact h.elim
    | _ => simp [D.py, PyData.canLay0] at z
  · intro sh p vs xs h r ih z
    cases sh with
    | lst => exact .lst (.of (s _ _ h)) (ih (by simpa [D.py, PyData.canLay0] using z))
    | sq => exact .lst (s.seq h) (ih (by simpa [D.py, PyData.canLay0] using z))
    | _ => simp [D.py, PyData.canLay0] at z
  · intro _; exact .nil
  · intro d v A ds vs B r1 r2 i1 i2 z
    simp only [D.pyL, PyData.canLayAll0, Bool.and_eq_true] at z
    exact .cons (i1 z.1) (i2 z.2)
theorem Rep.dp {d v A} (r : Rep K F H d v A) (s : Same F H) (h : SeqAt.shaped d.py = true) : Dp K H v d.py := (Rep.dps s).1 r (SeqAt.canLay_of_shaped h)
end
/-- equal, as Python compares data -/
def deq (x y : D) : Bool := PyData.eqv x.py y.py
def D.shp (d : D) : Bool := SeqAt.shaped d.py
def rdEq : RD2 := fun x y R => x.shp = true ∧ y.shp = true ∧ R (.bl (deq x y))
def rdNe : RD2 := fun x y R => x.shp = true ∧ y.shp = true ∧ R (.bl (!deq x y))
theorem sEq {K : PySem.W.Frag} : Snd2 K (rEqD K) rdEq := by
  rintro F H B env σ As x y v u a b R Q s rx ry ⟨h1, h2, h⟩ k
  exact ⟨_, _, rx.dp s.same h1, ry.dp s.same h2, h1, h2, out_sc s h k⟩
theorem sNe {K : PySem.W.Frag} : Snd2 K (rNeD K) rdNe := by
  rintro F H B env σ As x y v u a b R Q s rx ry ⟨h1, h2, h⟩ k
  exact ⟨_, _, rx.dp s.same h1, ry.dp s.same h2, h1, h2, out_sc s h k⟩
def D.isNon : D → Bool
  | .sc .non => true
  | _ => false
theorem Rep.isNon {K : PySem.W.Frag} {F H : Hp} {d : D} {v : V} {a : List Addr} (r : Rep K F H d v a) : decide (v = .non) = d.isNon := by
  cases r with
  | sc => cases v <;> simp [D.isNon]
  | tup _ _ => simp [D.isNon]
  | own _ _ => simp [D.isNon]
  | frz _ _ => simp [D.isNon]
def rdIs : RD2
  | x, .sc .non, R => R (.bl x.isNon)
  | _, _, _ => False
def rdIsN : RD2
  | x, .sc .non, R => R (.bl (!x.isNon))
  | _, _, _ => False
theorem sIs {K : PySem.W.Frag} : Snd2 K (fun x y H Q => y = .non ∧ Q (.bl (decide (x = .non))) H) rdIs := by
  intro F H B env σ As x y v u a b R Q s rx ry h k
  unfold rdIs at h
  split at h
  · obtain ⟨rfl, _⟩ := ry.sc_inv
    rw [← rx.isNon] at h
    exact ⟨rfl, out_sc s h k⟩
  · exact h.elim
theorem sIsN {K : PySem.W.Frag} : Snd2 K (fun x y H Q => y = .non ∧ Q (.bl (!decide (x = .non))) H) rdIsN := by
  intro F H B env σ As x y v u a b R Q s rx ry h k
  unfold rdIsN at h
  split at h
  · obtain ⟨rfl, _⟩ := ry.sc_inv
    rw [← rx.isNon] at h
    exact ⟨rfl, out_sc s h k⟩
  · exact h.elim
/-- a scalar in a list or a tuple of scalars -/
def D.scs : List D → Option (List V)
  | [] => some []
  | .sc v :: xs => (D.scs xs).map (v :: ·)
  | _ :: _ => none
theorem D.scs_some : ∀ {xs : List D} {ws : List V}, D.scs xs = some ws → xs = ws.map D.sc
  | [], ws, h => by simp [D.scs] at h; subst h; rfl
  | .sc v :: xs, ws, h => by
    simp only [D.scs, Option.map_eq_some_iff] at h
    obtain ⟨us, h1, rfl⟩ := h
    rw [D.scs_some h1]; rfl
  | .tup _ :: xs, ws, h => by simp [D.scs] at h
  | .obj _ _ _ :: xs, ws, h => by simp [D.scs] at h
theorem D.scs_map : ∀ ws : List V, D.scs (ws.map D.sc) = some ws
  | [] => rfl
  | w :: ws => by simp [D.scs, D.scs_map ws]
def dIn (x : D) (xs : List D) (k : Bool → Prop) : Prop := ∃ v ws, x = .sc v ∧ xs = ws.map D.sc ∧ flatV v = true ∧ ws.all flatV = true ∧ k (inV v ws)
def rdIn (neg : Bool) : RD2
  | x, .obj _ sh xs, R => isSeq sh = true ∧ dIn x xs fun c => R (.bl (if neg then !c else c))
  | x, .tup xs, R => dIn x xs fun c => R (.bl (if neg then !c else c))
  | _, _, _ => False
theorem sIn {K : PySem.W.Frag} {neg : Bool} : Snd2 K (rIn K neg) (rdIn neg) := by
  intro F H B env σ As x y v u a b R Q s rx ry h k
  unfold rdIn at h
  split at h
  · obtain ⟨hs, w, ws, rfl, rfl, f1, f2, h⟩ := h
    obtain ⟨p, vs, a', rfl, e1, r1⟩ := ry.seq_inv hs s.same
    obtain ⟨rfl, _⟩ := rx.sc_inv
    obtain ⟨rfl, _⟩ := r1.sc_inv
    exact ⟨p, _, rfl, .inl e1, f1, f2, out_sc s h k⟩
  · obtain ⟨w, ws, rfl, rfl, f1, f2, h⟩ := h
    obtain ⟨p, vs, rfl, e1, r1⟩ := ry.tup_inv s.same
    obtain ⟨rfl, _⟩ := rx.sc_inv
    obtain ⟨rfl, _⟩ := r1.sc_inv
    exact ⟨p, _, rfl, .inr e1, f1, f2, out_sc s h k⟩
  · exact h.elim
/-! ### items -/
def rdIx : RD2
  | .obj _ sh xs, .sc (.int i), R => isSeq sh = true ∧ ∃ x, atI xs i = some x ∧ x.fz = true ∧ R x
  | .tup xs, .sc (.int i), R => ∃ x, atI xs i = some x ∧ x.fz = true ∧ R x
  | .sc (.str z), .sc (.int i), R => z.length ≤ sizeLine ∧ ∃ c, atI z.cps.toList i = some c ∧ R (.str ⟨#[c]⟩)
  | _, _, _ => False
theorem RepL.atI {K : PySem.W.Frag} {F H : Hp} {xs : List D} {vs : List V} {a : List Addr} {i : Int} {x : D} (r : RepL K F H xs vs a) (e : L2.atI xs i = some x) : ∃ v a', L2.atI vs i = some v ∧ Rep K F H x v a' := by
  unfold L2.atI at e ⊢
  rw [← r.length]
  cases h : L2.ixN xs.length i with
  | none => rw [h] at e; cases e
  | some j =>
    rw [h] at e
    obtain ⟨v, A1, A0, A2, h1, h2, h3, _⟩ := r.get e
    exact ⟨v, A0, h1, h3⟩
theorem sIx {K : PySem.W.Frag} : Snd2 K (rIx K) rdIx := by
  intro F H B env σ As x y v u a b R Q s rx ry h k
  unfold rdIx at h
  split at h
  · obtain ⟨hs, x, e, z, h⟩ := h
    obtain ⟨p, vs, a', rfl, e1, r1⟩ := rx.seq_inv hs s.same
    obtain ⟨rfl, _⟩ := ry.sc_inv
    obtain ⟨w, a2, e2, r2⟩ := r1.atI e
    have := r2.fzNil z; subst this
    exact .inl ⟨p, _, _, w, rfl, rfl, e1, e2, out_old s r2 h k⟩
  · obtain ⟨x, e, z, h⟩ := h
    obtain ⟨p, vs, rfl, e1, r1⟩ := rx.tup_inv s.same
    obtain ⟨rfl, _⟩ := ry.sc_inv
    obtain ⟨w, a2, e2, r2⟩ := r1.atI e
    have := r2.fzNil z; subst this
    exact .inr (.inl ⟨p, _, _, w, rfl, rfl, e1, e2, out_old s r2 h k⟩)
  · obtain ⟨hl, c, e, h⟩ := h
    obtain ⟨rfl, _⟩ := rx.sc_inv
    obtain ⟨rfl, _⟩ := ry.sc_inv
    exact .inr (.inr ⟨_, _, c, rfl, rfl, hl, e, out_sc s h k⟩)
  · exact h.elim
end PL

/-! PLd: argument lists, displays, built-ins, slices, statements, targets. -/
namespace PL
open PySem L2

abbrev WA := En → (List D → En → Prop) → Prop
def liftA (K : PySem.W.Frag) (p : Bool) (w : WA) : TA := fun σ H Q => ∃ F B env As R, SO K F H B env σ As ∧ w env R ∧
  ∀ vs H' F' As' a ds env', PostE K p F H B env σ As F' H' env' As' → TOL K F' H' B As' ds vs a → R ds env' → Q vs H'
structure DA (p : Bool) (X : Cx) (es : List Expr) (w : WA) : Prop where
  pa : PA X es (liftA X.K p w)
/-- read where they lie -/
abbrev WAB := En → (List D → Prop) → Prop
def liftAB (K : PySem.W.Frag) (w : WAB) : TA := fun σ H Q => ∃ F B env As R, SO K F H B env σ As ∧ w env R ∧
  ∀ vs H' F' a ds, PostE K true F H B env σ As F' H' env As → RepL K F' H' ds vs a → R ds → Q vs H'
structure DAB (X : Cx) (es : List Expr) (w : WAB) : Prop where
  pa : PA X es (liftAB X.K w)
section
variable {X : Cx} {p : Bool} {e : Expr} {es : List Expr} {we : WE} {wa : WA} {wb : WB} {wab : WAB} {pos : Pos}
def aNil : WA := fun env R => R [] env
def aCons (we : WE) (wa : WA) : WA := fun env R => we env fun d e1 => wa e1 fun ds e2 => R (d :: ds) e2
theorem da_nil : DA p X [] aNil := ⟨PAimp pa_nil fun σ H Q ⟨F, B, env, As, R, s, hw, k⟩ => k [] H F As [] [] env (.refl s) (.nil s) hw⟩
theorem da_cons (h : DE p X e we) (hs : DA p X es wa) (st : starEach (e :: es) X.env = (false, eval e X.env) :: starEach es X.env := by rfl) : DA p X (e :: es) (aCons we wa) := by
  refine ⟨PAimp (pa_cons h.pe hs.pa st) ?_⟩
  rintro σ H Q ⟨F, B, env, As, R, s, hw, k⟩
  refine ⟨F, B, env, As, _, s, hw, fun v H1 F1 As1 a d e1 po1 t1 h1 => ?_⟩
  refine ⟨F1, Bx B a, e1, As1, _, po1.so.push t1, h1, fun vs H2 F2 As2 b ds e2 po2 t2 h2 => ?_⟩
  exact k _ H2 F2 As2 (a ++ b) (d :: ds) e2 (po1.trans po2.pop) (.cons (t1.keep po2) t2.unx fun x hx hb => t2.nb x hx (.inr hb)) h2
def bNil : WAB := fun env R => R []
def bCons (wb : WB) (wab : WAB) : WAB := fun env R => wb env fun d => wab env fun ds => R (d :: ds)
theorem dab_nil : DAB X [] bNil := ⟨PAimp pa_nil fun σ H Q ⟨F, B, env, As, R, s, hw, k⟩ => k [] H F [] [] (.refl s) .nil hw⟩
theorem dab_cons (h : DB X e wb) (hs : DAB X es wab) (st : starEach (e :: es) X.env = (false, eval e X.env) :: starEach es X.env := by rfl) : DAB X (e :: es) (bCons wb wab) := by
  refine ⟨PAimp (pa_cons h.pe hs.pa st) ?_⟩
  rintro σ H Q ⟨F, B, env, As, R, s, hw, k⟩
  refine ⟨F, B, env, As, _, s, hw, fun v H1 F1 a d po1 t1 h1 => ?_⟩
  obtain ⟨B', hB, s', kp⟩ := t1.keep po1.so (F' := F) (H' := H)
  refine ⟨F1, B', env, As, _, s', h1, fun vs H2 F2 b ds po2 t2 h2 => ?_⟩
  obtain ⟨t1', po2', _⟩ := kp _ _ _ _ po2
  exact k _ H2 F2 (a ++ b) (d :: ds) (po1.trans po2') (.cons t1'.rep t2) h2

/-! ### displays -/
def wTup (wa : WA) : WE := fun env R => wa env fun ds e1 => ds.length ≤ sizeLine ∧ R (.tup (D.frzL ds)) e1
theorem de_tup {x1} (h : DA p X es wa) : DE p X (.Tuple es x1 pos) (wTup wa) := by
  refine ⟨PEimp (pe_tup h.pa) ?_⟩
  rintro σ H Q ⟨F, B, env, As, R, s, hw, k⟩
  refine ⟨F, B, env, As, _, s, hw, fun vs H1 F1 As1 a ds e1 po1 t1 ⟨hl, h1⟩ => ⟨by rw [← t1.rep.length]; exact hl, ?_⟩⟩
  obtain ⟨po2, r2⟩ := po1.so.freezeL t1
  exact out_tup (R := fun z => R z e1) po2.so r2 h1 fun v' H3 F3 c z po3 t3 h3 => k v' H3 F3 As1 c z e1 ((po1.trans (po2.imp fun _ => rfl)).trans (po3.imp fun _ => rfl)) t3 h3
def wLst (wa : WA) : WE := fun env R => wa env fun ds e1 => ds.length ≤ sizeLine ∧ R (.lst true (D.frzL ds)) e1
theorem de_lst (h : DA p X es wa) : DE p X (.List es pos) (wLst wa) := by
  refine ⟨PEimp (pe_lst h.pa) ?_⟩
  rintro σ H Q ⟨F, B, env, As, R, s, hw, k⟩
  refine ⟨F, B, env, As, _, s, hw, fun vs H1 F1 As1 a ds e1 po1 t1 ⟨hl, h1⟩ => ⟨by rw [← t1.rep.length]; exact hl, ?_⟩⟩
  obtain ⟨po2, r2⟩ := po1.so.freezeL t1
  exact out_lst (R := fun z => R z e1) po2.so r2 h1 fun v' H3 F3 c z po3 t3 h3 => k v' H3 F3 As1 c z e1 ((po1.trans (po2.imp fun _ => rfl)).trans (po3.imp fun _ => rfl)) t3 h3
/-- a list whose items stay own -/
def wLstK (wa : WA) : WE := fun env R => wa env fun ds e1 => ds.length ≤ sizeLine ∧ R (.lst true ds) e1
theorem de_lstK (h : DA p X es wa) : DE p X (.List es pos) (wLstK wa) := by
  refine ⟨PEimp (pe_lst h.pa) ?_⟩
  rintro σ H Q ⟨F, B, env, As, R, s, hw, k⟩
  refine ⟨F, B, env, As, _, s, hw, fun vs H1 F1 As1 a ds e1 po1 t1 ⟨hl, h1⟩ => ⟨by rw [← t1.rep.length]; exact hl, fun q hq => ?_⟩⟩
  have po2 := po1.so.newO (o := .lst vs) hq
  have nq := not_mem_of_none hq t1.rep.there
  refine k _ _ F1 As1 (q :: a) _ e1 (po1.trans (po2.imp fun _ => rfl)) ⟨.own (show CellO (upd H1 q (.lst vs)) .lst q vs from upd_same) (t1.rep.frame (Same.refl _) fun x hx => upd_ne fun z => nq (z ▸ hx)), ?_, fun x hx => ?_, fun x hx => ?_⟩ h1
  · refine List.nodup_cons.mpr ⟨fun z => ?_, t1.nd⟩
    rcases List.mem_append.mp z with z | z
    · exact nq z
    · exact po1.so.notAs hq z
  · rcases List.mem_cons.mp hx with rfl | hx
    · exact po1.so.freeF hq
    · exact t1.fr x hx
  · rcases List.mem_cons.mp hx with rfl | hx
    · exact po1.so.notB hq
    · exact t1.nb x hx

/-! ### built-ins -/
abbrev RDA := List D → (D → Prop) → Prop
def SndA (K : PySem.W.Frag) (r : List V → Hp → VK → Prop) (rd : RDA) : Prop :=
  ∀ {F H : Hp} {B : Addr → Prop} {env : En} {σ : St} {As : List (List Addr)} {ds : List D} {vs : List V} {a : List Addr} {R : D → Prop} {Q : VK}, SO K F H B env σ As → RepL K F H ds vs a → rd ds R →
    (∀ v' H' F' c z, PostE K true F H B env σ As F' H' env As → TO K F' H' B As z v' c → R z → Q v' H') → r vs H Q
def CallS (X : Cx) (whole : Expr) (es : List Expr) (r : List V → Hp → VK → Prop) : Prop := ∀ t, PA X es t → PE X whole (tCB r t)
def wCB (rd : RDA) (wa : WA) : WE := fun env R => wa env fun ds e1 => rd ds fun z => R z e1
def wCBB (rd : RDA) (wa : WAB) : WE := fun env R => wa env fun ds => rd ds fun z => R z env
section
variable {r : List V → Hp → VK → Prop} {rd : RDA} {whole : Expr} {x : Str} {q : Pos} {id T : String}
theorem de_cb (sh : CallS X whole es r) (hr : SndA X.K r rd) (h : DA p X es wa) : DE p X whole (wCB rd wa) := by
  refine ⟨PEimp (sh _ h.pa) ?_⟩
  rintro σ H Q ⟨F, B, env, As, R, s, hw, k⟩
  refine ⟨F, B, env, As, _, s, hw, fun vs H1 F1 As1 a ds e1 po1 t1 h1 => ?_⟩
  exact hr po1.so t1.rep h1 fun v' H3 F3 c z po3 t3 h3 => k v' H3 F3 As1 c z e1 (po1.trans (po3.imp fun _ => rfl)) t3 h3
theorem de_cbB (sh : CallS X whole es r) (hr : SndA X.K r rd) (h : DAB X es wab) : DE p X whole (wCBB rd wab) := by
  refine ⟨PEimp (sh _ h.pa) ?_⟩
  rintro σ H Q ⟨F, B, env, As, R, s, hw, k⟩
  refine ⟨F, B, env, As, _, s, hw, fun vs H1 F1 a ds po1 t1 h1 => ?_⟩
  exact hr po1.so t1 h1 fun v' H3 F3 c z po3 t3 h3 => k v' H3 F3 As c z env ((po1.trans po3).imp fun _ => rfl) t3 h3
theorem cs_B (hc : CallR X (.builtin id) r) (hg : Gl X x) (hm : X.mg x = none) (hv : bootBuiltins x = some (.builtin id)) (hn : x ≠ "__name__" := by decide) (hdb : (x == ("__debug__" : Str)) = false := by decide)
    (he : starEach (e :: es) X.env = (false, eval e X.env) :: starEach es X.env := by rfl) (hpl : (backTo pos (starEach es X.env)).any (·.1) = false := by rfl) : CallS X (.Call (.Name x q) (e :: es) [] pos) (e :: es) r :=
  fun t h => pe_callB hc hg hm hv h hn hdb he hpl
theorem cs_T (hc : CallR X (.type T) r) (hg : Gl X x) (hm : X.mg x = none) (hv : bootBuiltins x = some (.type T)) (hn : x ≠ "__name__" := by decide) (hdb : (x == ("__debug__" : Str)) = false := by decide)
    (he : starEach (e :: es) X.env = (false, eval e X.env) :: starEach es X.env := by rfl) (hpl : (backTo pos (starEach es X.env)).any (·.1) = false := by rfl) : CallS X (.Call (.Name x q) (e :: es) [] pos) (e :: es) r :=
  fun t h => pe_callTy hc hg hm hv h hn hdb he hpl
end
end

/-! the built-ins by data -/
def rdLen : RDA
  | [.obj _ sh xs], R => isSeq sh = true ∧ R (.int xs.length)
  | [.tup xs], R => R (.int xs.length)
  | [.sc (.str z)], R => z.length ≤ sizeLine ∧ R (.int z.length)
  | _, _ => False
section
variable {K : PySem.W.Frag} {F F' H H' : Hp}
theorem RepL.one_inv' {d : D} {vs : List V} {a : List Addr} (r : RepL K F H [d] vs a) : ∃ v, vs = [v] ∧ ∃ a', Rep K F H d v a' := by
  obtain ⟨v, e, r⟩ := r.one_inv; exact ⟨v, e, _, r⟩
theorem RepL.two_inv {d d2 : D} {vs : List V} {a : List Addr} (r : RepL K F H [d, d2] vs a) : ∃ v v2, vs = [v, v2] ∧ (∃ a', Rep K F H d v a') ∧ ∃ a', Rep K F H d2 v2 a' := by
  obtain ⟨v, us, A1, A2, rfl, rfl, r1, r2⟩ := r.cons_inv
  obtain ⟨v2, e, r3⟩ := r2.one_inv
  subst e
  exact ⟨v, v2, rfl, ⟨_, r1⟩, ⟨_, r3⟩⟩
end
theorem sLen {X : Cx} : SndA X.K (fun xs H Q => ∃ x n, xs = [x] ∧ LenV X.K x H n ∧ Q (.int n) H) rdLen := by
  intro F H B env σ As ds vs a R Q s r h k
  unfold rdLen at h
  split at h
  · obtain ⟨v, rfl, a', r⟩ := r.one_inv'
    obtain ⟨p, us, a2, rfl, e1, r1⟩ := r.seq_inv h.1 s.same
    exact ⟨.ref p, _, rfl, .inl ⟨us, e1, rfl⟩, out_sc s (by rw [← r1.length]; exact h.2) k⟩
  · obtain ⟨v, rfl, a', r⟩ := r.one_inv'
    obtain ⟨p, us, rfl, e1, r1⟩ := r.tup_inv s.same
    exact ⟨.ref p, _, rfl, .inr ⟨us, e1, rfl⟩, out_sc s (by rw [← r1.length]; exact h) k⟩
  · obtain ⟨v, rfl, a', r⟩ := r.one_inv'
    obtain ⟨rfl, _⟩ := r.sc_inv
    exact ⟨_, _, rfl, ⟨h.1, rfl⟩, out_sc s h.2 k⟩
  · exact h.elim
def rdI1 (g : Int → V) : RDA
  | [.sc (.int i)], R => R (.sc (g i))
  | _, _ => False
theorem sI1 {K : PySem.W.Frag} {g : Int → V} : SndA K (fun xs H Q => ∃ i, xs = [.int i] ∧ Q (g i) H) (rdI1 g) := by
  intro F H B env σ As ds vs a R Q s r h k
  unfold rdI1 at h
  split at h
  · obtain ⟨v, rfl, a', r⟩ := r.one_inv'
    obtain ⟨rfl, _⟩ := r.sc_inv
    exact ⟨_, rfl, out_sc s h k⟩
  · exact h.elim
def rdI2 (g : Int → Int → V) : RDA
  | [.sc (.int i), .sc (.int j)], R => R (.sc (g i j))
  | _, _ => False
theorem sI2 {K : PySem.W.Frag} {g : Int → Int → V} : SndA K (fun xs H Q => ∃ i j, xs = [.int i, .int j] ∧ Q (g i j) H) (rdI2 g) := by
  intro F H B env σ As ds vs a R Q s r h k
  unfold rdI2 at h
  split at h
  · obtain ⟨v, v2, rfl, ⟨_, r1⟩, ⟨_, r2⟩⟩ := r.two_inv
    obtain ⟨rfl, _⟩ := r1.sc_inv
    obtain ⟨rfl, _⟩ := r2.sc_inv
    exact ⟨_, _, rfl, out_sc s h k⟩
  · exact h.elim
abbrev rdAbs : RDA := rdI1 fun i => .int (if i < 0 then -i else i)
abbrev rdMax2 : RDA := rdI2 fun i j => .int (if j > i then j else i)
abbrev rdMin2 : RDA := rdI2 fun i j => .int (if j < i then j else i)
def rdSum : RDA
  | [.obj _ sh xs], R => isSeq sh = true ∧ ∃ ns : List Int, xs = ns.map (fun n => D.sc (V.int n)) ∧ R (.int ns.sum)
  | _, _ => False
theorem map_sc (ns : List Int) : ns.map (fun n => D.sc (V.int n)) = (ns.map V.int).map D.sc := by rw [List.map_map]; rfl
theorem map_scB (ns : List Bool) : ns.map (fun n => D.sc (V.bl n)) = (ns.map V.bl).map D.sc := by rw [List.map_map]; rfl
theorem sSum {K : PySem.W.Frag} : SndA K (rSum K) rdSum := by
  intro F H B env σ As ds vs a R Q s r h k
  unfold rdSum at h
  split at h
  · obtain ⟨hs, ns, rfl, h⟩ := h
    obtain ⟨v, rfl, a', r⟩ := r.one_inv'
    obtain ⟨p, us, a2, rfl, e1, r1⟩ := r.seq_inv hs s.same
    rw [map_sc] at r1
    obtain ⟨rfl, _⟩ := r1.sc_inv
    exact ⟨p, ns, rfl, e1, out_sc s h k⟩
  · exact h.elim
def rdMaxL : RDA
  | [.obj _ sh xs], R => isSeq sh = true ∧ ∃ ns : List Int, xs = ns.map (fun n => D.sc (V.int n)) ∧ 0 < ns.length ∧ ∀ m, m ∈ ns → (∀ y, y ∈ ns → y ≤ m) → R (.int m)
  | _, _ => False
def rdMinL : RDA
  | [.obj _ sh xs], R => isSeq sh = true ∧ ∃ ns : List Int, xs = ns.map (fun n => D.sc (V.int n)) ∧ 0 < ns.length ∧ ∀ m, m ∈ ns → (∀ y, y ∈ ns → m ≤ y) → R (.int m)
  | _, _ => False
theorem sMaxL {K : PySem.W.Frag} : SndA K (rMax K) rdMaxL := by
  intro F H B env σ As ds vs a R Q s r h k
  unfold rdMaxL at h
  split at h
  · obtain ⟨hs, ns, rfl, h0, h⟩ := h
    obtain ⟨v, rfl, a', r⟩ := r.one_inv'
    obtain ⟨p, us, a2, rfl, e1, r1⟩ := r.seq_inv hs s.same
    rw [map_sc] at r1
    obtain ⟨rfl, _⟩ := r1.sc_inv
    exact ⟨p, ns, rfl, e1, h0, fun m h1 h2 => out_sc s (h m h1 h2) k⟩
  · exact h.elim
theorem sMinL {K : PySem.W.Frag} : SndA K (rMin K) rdMinL := by
  intro F H B env σ As ds vs a R Q s r h k
  unfold rdMinL at h
  split at h
  · obtain ⟨hs, ns, rfl, h0, h⟩ := h
    obtain ⟨v, rfl, a', r⟩ := r.one_inv'
    obtain ⟨p, us, a2, rfl, e1, r1⟩ := r.seq_inv hs s.same
    rw [map_sc] at r1
    obtain ⟨rfl, _⟩ := r1.sc_inv
    exact ⟨p, ns, rfl, e1, h0, fun m h1 h2 => out_sc s (h m h1 h2) k⟩
  · exact h.elim
def rdBs (g : List Bool → Bool) : RDA
  | [.obj _ sh xs], R => isSeq sh = true ∧ ∃ bs : List Bool, xs = bs.map (fun n => D.sc (V.bl n)) ∧ R (.bl (g bs))
  | _, _ => False
theorem sBs {K : PySem.W.Frag} {g : List Bool → Bool} : SndA K (fun vs H Q => ∃ (a : Addr) (bs : List Bool), vs = [V.ref a] ∧ SqL K H a (bs.map V.bl) ∧ Q (.bl (g bs)) H) (rdBs g) := by
  intro F H B env σ As ds vs a R Q s r h k
  unfold rdBs at h
  split at h
  · obtain ⟨hs, ns, rfl, h⟩ := h
    obtain ⟨v, rfl, a', r⟩ := r.one_inv'
    obtain ⟨p, us, a2, rfl, e1, r1⟩ := r.seq_inv hs s.same
    rw [map_scB] at r1
    obtain ⟨rfl, _⟩ := r1.sc_inv
    exact ⟨p, ns, rfl, e1, out_sc s h k⟩
  · exact h.elim
abbrev rdAny : RDA := rdBs fun bs => bs.any id
abbrev rdAll : RDA := rdBs fun bs => bs.all id
def rdList : RDA
  | [.obj _ sh xs], R => isSeq sh = true ∧ D.fzL xs = true ∧ R (.lst true xs)
  | [.tup xs], R => D.fzL xs = true ∧ R (.lst true xs)
  | _, _ => False
theorem sList {X : Cx} : SndA X.K (fun xs H Q => ∃ p ys, xs = [.ref p] ∧ (SqL X.K H p ys ∨ SqT X.K H p ys) ∧ ∀ l, H l = none → Q (.ref l) (upd H l (.lst ys))) rdList := by
  intro F H B env σ As ds vs a R Q s r h k
  unfold rdList at h
  split at h
  · obtain ⟨v, rfl, a', r⟩ := r.one_inv'
    obtain ⟨p, us, a2, rfl, e1, r1⟩ := r.seq_inv h.1 s.same
    exact ⟨p, us, rfl, .inl e1, out_lst s (r1.fz_mem h.2.1) h.2.2 k⟩
  · obtain ⟨v, rfl, a', r⟩ := r.one_inv'
    obtain ⟨p, us, rfl, e1, r1⟩ := r.tup_inv s.same
    exact ⟨p, us, rfl, .inr e1, out_lst s (r1.fz_mem h.1) h.2 k⟩
  · exact h.elim
def rdTuple : RDA
  | [.obj _ sh xs], R => isSeq sh = true ∧ D.fzL xs = true ∧ R (.tup xs)
  | [.tup xs], R => D.fzL xs = true ∧ R (.tup xs)
  | _, _ => False
theorem sTuple {X : Cx} : SndA X.K (fun xs H Q => ∃ p ys, xs = [.ref p] ∧ ((SqL X.K H p ys ∧ ∀ l, H l = none → Q (.ref l) (upd H l (.tup ys))) ∨ (SqT X.K H p ys ∧ Q (.ref p) H))) rdTuple := by
  intro F H B env σ As ds vs a R Q s r h k
  unfold rdTuple at h
  split at h
  · obtain ⟨v, rfl, a', r⟩ := r.one_inv'
    obtain ⟨p, us, a2, rfl, e1, r1⟩ := r.seq_inv h.1 s.same
    exact ⟨p, us, rfl, .inl ⟨e1, out_tup s (r1.fz_mem h.2.1) h.2.2 k⟩⟩
  · obtain ⟨v, rfl, a', r⟩ := r.one_inv'
    have := r.fzNil (show (D.tup _).fz = true from h.1); subst this
    obtain ⟨p, us, e, e1, r1⟩ := r.tup_inv s.same
    subst e
    exact ⟨p, us, rfl, .inr ⟨e1, out_old s r h.2 k⟩⟩
  · exact h.elim
def rdInt1 : RDA
  | [.sc (.int i)], R => R (.int i)
  | [.sc (.bl b)], R => R (.int (if b then 1 else 0))
  | _, _ => False
theorem sInt1 {K : PySem.W.Frag} : SndA K (fun xs H Q => (∃ i, xs = [.int i] ∧ Q (.int i) H) ∨ ∃ k, xs = [.bl k] ∧ Q (.int (if k then 1 else 0)) H) rdInt1 := by
  intro F H B env σ As ds vs a R Q s r h k
  unfold rdInt1 at h
  split at h
  · obtain ⟨v, rfl, a', r⟩ := r.one_inv'
    obtain ⟨rfl, _⟩ := r.sc_inv
    exact .inl ⟨_, rfl, out_sc s h k⟩
  · obtain ⟨v, rfl, a', r⟩ := r.one_inv'
    obtain ⟨rfl, _⟩ := r.sc_inv
    exact .inr ⟨_, rfl, out_sc s h k⟩
  · exact h.elim

/-! ### slices -/
abbrev WO := En → (Option Int → En → Prop) → Prop
def liftO (K : PySem.W.Frag) (p : Bool) (w : WO) : L2.TO := fun σ H Q => ∃ F B env As R, SO K F H B env σ As ∧ w env R ∧
  ∀ o H' F' As' env', PostE K p F H B env σ As F' H' env' As' → R o env' → Q o H'
structure DO (p : Bool) (X : Cx) (e : Option Expr) (w : WO) : Prop where
  po : PO X e (liftO X.K p w)
theorem POimp {X : Cx} {e : Option Expr} {t t' : L2.TO} (h : PO X e t) (i : ∀ σ H Q, t' σ H Q → t σ H Q) : PO X e t' := ⟨fun pins s σ H Q I q => h.run pins s σ H Q I (i σ H Q q)⟩
def asI : D → (Int → Prop) → Prop
  | .sc (.int b), k => k b
  | _, _ => False
theorem asI_inv {d : D} {k : Int → Prop} (h : asI d k) : ∃ b, d = .int b ∧ k b := by
  unfold asI at h
  split at h
  · exact ⟨_, rfl, h⟩
  · exact h.elim
def oNo : WO := fun env R => R none env
def oSo (w : WE) : WO := fun env R => w env fun d e1 => asI d fun i => R (some i) e1
/-- the items of a slice -/
def cutD {α : Type} (xs : List α) (lo hi : Option Int) : List α := (xs.drop (HT.sIx xs.length 0 lo)).take (HT.sIx xs.length xs.length hi - HT.sIx xs.length 0 lo)
abbrev RDS := D → Option Int → Option Int → (D → Prop) → Prop
def rdSl : RDS
  | .obj _ sh xs, lo, hi, R => isSeq sh = true ∧ D.fzL xs = true ∧ R (.lst true (cutD xs lo hi))
  | .sc (.str z), lo, hi, R => z.length ≤ sizeLine ∧ R (.str (cutS z lo hi))
  | .tup xs, lo, hi, R => D.fzL xs = true ∧ ¬ (HT.sIx xs.length 0 lo = 0 ∧ HT.sIx xs.length xs.length hi = xs.length) ∧ R (.tup (cutD xs lo hi))
  | _, _, _, _ => False
theorem RepL.cut {K : PySem.W.Frag} {F H : Hp} {xs : List D} {vs : List V} (r : RepL K F H xs vs []) (n m : Nat) : RepL K F H ((xs.drop n).take m) ((vs.drop n).take m) [] := by
  have dr : ∀ (n : Nat) (xs : List D) (vs : List V), RepL K F H xs vs [] → RepL K F H (xs.drop n) (vs.drop n) [] := by
    intro n
    induction n with
    | zero => intro xs vs r; exact r
    | succ n ih =>
      intro xs vs r
      cases xs with
      | nil => obtain ⟨rfl, _⟩ := r.nil_inv; exact .nil
      | cons x xs =>
        obtain ⟨v, us, A1, A2, rfl, e, r1, r2⟩ := r.cons_inv
        obtain ⟨rfl, rfl⟩ := List.append_eq_nil_iff.mp e.symm
        exact ih _ _ r2
  have tk : ∀ (n : Nat) (xs : List D) (vs : List V), RepL K F H xs vs [] → RepL K F H (xs.take n) (vs.take n) [] := by
    intro n
    induction n with
    | zero => intro xs vs r; exact .nil
    | succ n ih =>
      intro xs vs r
      cases xs with
      | nil => obtain ⟨rfl, _⟩ := r.nil_inv; exact .nil
      | cons x xs =>
        obtain ⟨v, us, A1, A2, rfl, e, r1, r2⟩ := r.cons_inv
        obtain ⟨rfl, rfl⟩ := List.append_eq_nil_iff.mp e.symm
        exact .cons (A := []) (B := []) r1 (ih _ _ r2)
  exact tk m _ _ (dr n _ _ r)
section
variable {X : Cx} {p : Bool} {e : Expr} {we : WE} {wb : WB} {lo hi : Option Expr} {wl wh : WO} {p2 pos : Pos}
theorem do_no : DO p X none oNo := ⟨POimp po_none fun σ H Q ⟨F, B, env, As, R, s, hw, k⟩ => k none H F As env (.refl s) hw⟩
theorem do_so (h : DE p X e we) : DO p X (some e) (oSo we) := by
  refine ⟨POimp (po_some h.pe) ?_⟩
  rintro σ H Q ⟨F, B, env, As, R, s, hw, k⟩
  refine ⟨F, B, env, As, _, s, hw, fun v H1 F1 As1 a d e1 po1 t1 h1 => ?_⟩
  obtain ⟨i, rfl, h1⟩ := asI_inv h1
  obtain ⟨rfl, _⟩ := t1.rep.sc_inv
  exact ⟨i, rfl, k _ H1 F1 As1 e1 po1 h1⟩
def rSlAll (K : PySem.W.Frag) : V → Option Int → Option Int → Hp → VK → Prop := fun x lo hi H Q => rSlL K x lo hi H Q ∨ (rSlS x lo hi H Q ∨ rSlT K x lo hi H Q)
theorem sl_all : SlR X (rSlAll X.K) := sl_list.or (sl_str.or sl_tup)
def SndS (K : PySem.W.Frag) (r : V → Option Int → Option Int → Hp → VK → Prop) (rd : RDS) : Prop :=
  ∀ {F H : Hp} {B : Addr → Prop} {env : En} {σ : St} {As : List (List Addr)} {x : D} {v : V} {a : List Addr} {lo hi : Option Int} {R : D → Prop} {Q : VK}, SO K F H B env σ As → Rep K F H x v a → rd x lo hi R →
    (∀ v' H' F' c z, PostE K true F H B env σ As F' H' env As → TO K F' H' B As z v' c → R z → Q v' H') → r v lo hi H Q
theorem sSl {K : PySem.W.Frag} : SndS K (rSlAll K) rdSl := by
  intro F H B env σ As x v a lo hi R Q s r h k
  unfold rdSl at h
  split at h
  · obtain ⟨hs, z, h⟩ := h
    obtain ⟨p, us, a2, rfl, e1, r1⟩ := r.seq_inv hs s.same
    refine .inl ⟨p, us, rfl, e1, ?_⟩
    have := (r1.fz_mem z).cut (HT.sIx us.length 0 lo) (HT.sIx us.length us.length hi - HT.sIx us.length 0 lo)
    refine out_lst s this ?_ k
    rw [← r1.length]; exact h
  · obtain ⟨rfl, _⟩ := r.sc_inv
    exact .inr (.inl ⟨_, rfl, h.1, out_sc s h.2 k⟩)
  · obtain ⟨z, hn, h⟩ := h
    obtain ⟨p, us, rfl, e1, r1⟩ := r.tup_inv s.same
    refine .inr (.inr ⟨p, us, rfl, e1, by rw [← r1.length]; exact hn, ?_⟩)
    have := (r1.fz_mem z).cut (HT.sIx us.length 0 lo) (HT.sIx us.length us.length hi - HT.sIx us.length 0 lo)
    refine out_tup s this ?_ k
    rw [← r1.length]; exact h
  · exact h.elim
def wSl (we : WE) (wl wh : WO) : WE := fun env R => we env fun d e1 => wl e1 fun l e2 => wh e2 fun h e3 => rdSl d l h fun z => R z e3
theorem de_slice (he : DE p X e we) (hl : DO p X lo wl) (hh : DO p X hi wh) : DE p X (.Subscript e (.Slice lo hi none p2) pos) (wSl we wl wh) := by
  refine ⟨PEimp (pe_slice sl_all he.pe hl.po hh.po) ?_⟩
  rintro σ H Q ⟨F, B, env, As, R, s, hw, k⟩
  refine ⟨F, B, env, As, _, s, hw, fun v H1 F1 As1 a d e1 po1 t1 h1 => ?_⟩
  refine ⟨F1, Bx B a, e1, As1, _, po1.so.push t1, h1, fun l H2 F2 As2 e2 po2 h2 => ?_⟩
  refine ⟨F2, Bx B a, e2, As2, _, po2.so, h2, fun h H3 F3 As3 e3 po3 h3 => ?_⟩
  have po23 := po2.trans po3
  exact sSl po3.so.pop (t1.keep po23).rep h3 fun v' H4 F4 c z po4 t4 h4 => k v' H4 F4 As3 c z e3 ((po1.trans po23.pop).trans (po4.imp fun _ => rfl)) t4 h4
/-- of a value that is read where it lies, by pure parts -/
def wSlB (wb : WB) (wl wh : WO) : WE := fun env R => wb env fun d => wl env fun l e2 => wh e2 fun h e3 => rdSl d l h fun z => R z e3
theorem de_sliceB (he : DB X e wb) (hl : DO true X lo wl) (hh : DO true X hi wh) : DE p X (.Subscript e (.Slice lo hi none p2) pos) (wSlB wb wl wh) := by
  refine ⟨PEimp (pe_slice sl_all he.pe hl.po hh.po) ?_⟩
  rintro σ H Q ⟨F, B, env, As, R, s, hw, k⟩
  refine ⟨F, B, env, As, _, s, hw, fun v H1 F1 a d po1 t1 h1 => ?_⟩
  obtain ⟨B', hB, s', kp⟩ := t1.keep po1.so (F' := F) (H' := H)
  refine ⟨F1, B', env, As, _, s', h1, fun l H2 F2 As2 e2 po2 h2 => ?_⟩
  refine ⟨F2, B', e2, As2, _, po2.so, h2, fun h H3 F3 As3 e3 po3 h3 => ?_⟩
  have po23 := po2.trans po3
  obtain ⟨e1, e4, _⟩ := po23.pure rfl
  subst e1 e4
  obtain ⟨t1', po2', _⟩ := kp _ _ _ _ po23
  exact sSl po2'.so t1'.rep h3 fun v' H4 F4 c z po4 t4 h4 => k v' H4 F4 _ c z _ (((po1.trans po2').trans po4).imp fun _ => rfl) t4 h4
end
end PL

/-! PLe: statements, targets, places that are changed. -/
namespace PL
open PySem L2

/-- what a statement leaves; kp: the slots that it never stores -/
structure PostS (K : PySem.W.Frag) (kp : List Nat) (F H : Hp) (B : Addr → Prop) (σ : St) (F' H' : Hp) (env' : En) (σ' : St) (As' : List (List Addr)) : Prop where
  ext : Same F F'
  so : SO K F' H' B env' σ' As'
  keep : ∀ b, B b → H' b = H b
  kp : ∀ i ∈ kp, σ'[i]? = σ[i]?
  len : σ'.length = σ.length
section
variable {K : PySem.W.Frag} {p : Bool} {kp : List Nat} {F F' F2 H H' H2 : Hp} {B : Addr → Prop} {env env' env2 : En} {σ σ' σ2 : St} {As As' As2 : List (List Addr)} {d d' d2 : D} {v v2 v0 : V} {a a2 : List Addr} {ds : List D} {vs : List V}
theorem PostE.ps (s : PostE K p F H B env σ As F' H' env' As') : PostS K kp F H B σ F' H' env' σ As' := ⟨s.ext, s.so, s.keep, fun _ _ => rfl, rfl⟩
theorem PostS.refl (s : SO K F H B env σ As) : PostS K kp F H B σ F H env σ As := ⟨Same.refl _, s, fun _ _ => rfl, fun _ _ => rfl, rfl⟩
theorem PostS.trans (s : PostS K kp F H B σ F' H' env' σ' As') (t : PostS K kp F' H' B σ' F2 H2 env2 σ2 As2) : PostS K kp F H B σ F2 H2 env2 σ2 As2 :=
  ⟨s.ext.trans t.ext, t.so, fun b hb => (t.keep b hb).trans (s.keep b hb), fun i hi => (t.kp i hi).trans (s.kp i hi), t.len.trans s.len⟩
theorem PostS.pop (s : PostS K kp F H (Bx B a) σ F' H' env' σ' As') : PostS K kp F H B σ F' H' env' σ' As' := ⟨s.ext, s.so.pop, fun b hb => s.keep b (.inl hb), s.kp, s.len⟩
theorem TO.keepS (t : TO K F H B As d v a) (s : PostS K kp F H (Bx B a) σ F' H' env' σ' As') : TO K F' H' B As' d v a := by
  have o := fun x (hx : x ∈ a) => s.so.out x (.inr hx)
  refine ⟨t.rep.frame s.ext fun x hx => s.keep x (.inr hx), ?_, fun x hx => (o x hx).1, t.nb⟩
  exact List.nodup_append.mpr ⟨(List.nodup_append.mp t.nd).1, s.so.nd, fun x hx y hy e => (o x hx).2.2 (e ▸ hy)⟩
theorem TOL.keepS (t : TOL K F H B As ds vs a) (s : PostS K kp F H (Bx B a) σ F' H' env' σ' As') : TOL K F' H' B As' ds vs a := by
  have o := fun x (hx : x ∈ a) => s.so.out x (.inr hx)
  refine ⟨t.rep.frame s.ext fun x hx => s.keep x (.inr hx), ?_, fun x hx => (o x hx).1, t.nb⟩
  exact List.nodup_append.mpr ⟨(List.nodup_append.mp t.nd).1, s.so.nd, fun x hx y hy e => (o x hx).2.2 (e ▸ hy)⟩
theorem TOL.uncons (t : TOL K F H B As (d :: ds) vs a) : ∃ v us a1 a2, vs = v :: us ∧ a = a1 ++ a2 ∧ TO K F H (Bx B a2) As d v a1 ∧ TOL K F H B As ds us a2 ∧ ∀ x ∈ a1, x ∉ a2 := by
  obtain ⟨v, us, a1, a2, rfl, rfl, r1, r2⟩ := t.rep.cons_inv
  have nd := t.nd
  rw [List.append_assoc] at nd
  have n1 := List.nodup_append.mp nd
  have n2 := List.nodup_append.mp n1.2.1
  have ap : ∀ x ∈ a1, x ∉ a2 := fun x hx hy => n1.2.2 x hx x (List.mem_append_left _ hy) rfl
  refine ⟨v, us, a1, a2, rfl, rfl, ⟨r1, ?_, fun x hx => t.fr x (List.mem_append_left _ hx), fun x hx hb => ?_⟩, ⟨r2, n1.2.1, fun x hx => t.fr x (List.mem_append_right _ hx), fun x hx => t.nb x (List.mem_append_right _ hx)⟩, ap⟩
  · exact List.nodup_append.mpr ⟨n1.1, n2.2.1, fun x hx y hy => n1.2.2 x hx y (List.mem_append_right _ hy)⟩
  · rcases hb with hb | hb
    · exact t.nb x (List.mem_append_left _ hx) hb
    · exact ap x hx hb
/-- a value at hand goes into slot i -/
theorem SO.assign (s : SO K F H B env σ As) (t : TO K F H B As d v a) (i : Nat) : SO K F H B (env.set i (some d)) (σ.set i (some v)) (As.set i a) := by
  by_cases hl : i < As.length
  · have s1 := s.drop i
    have pm := flat_at As i As[i] (by simp [hl])
    have t1 : TO K F H B (As.set i []) d v a := by
      refine ⟨t.rep, ?_, t.fr, t.nb⟩
      have n := List.nodup_append.mp t.nd
      exact List.nodup_append.mpr ⟨n.1, s1.nd, fun x hx y hy => n.2.2 x hx y (pm.mem_iff.mpr (List.mem_append_right _ hy))⟩
    have := s1.store (i := i) (s.emptied hl) t1
    rwa [set_set, set_set] at this
  · have e1 : As.set i a = As := List.set_eq_of_length_le (by omega)
    have e2 : env.set i (some d) = env := List.set_eq_of_length_le (by have := s.env.len.2; omega)
    have e3 : σ.set i (some v) = σ := List.set_eq_of_length_le (by have := s.env.len; omega)
    rw [e1, e2, e3]; exact s
theorem SO.assignS (s : SO K F H B env σ As) (t : TO K F H B As d v a) {i : Nat} (h : i ∉ kp) : PostS K kp F H B σ F H (env.set i (some d)) (σ.set i (some v)) (As.set i a) :=
  ⟨Same.refl _, s.assign t i, fun _ _ => rfl, fun j hj => List.getElem?_set_ne (fun e : i = j => h (e ▸ hj)), List.length_set ..⟩
end

/-! ### statements -/
structure EN where
  nx : En → Prop
  rt : D → En → Prop
  bk : En → Prop := fun _ => False
  ct : En → Prop := fun _ => False
abbrev WS := En → EN → Prop
def liftS (K : PySem.W.Frag) (kp : List Nat) (w : WS) : TS := fun D σ H => ∃ F B env As RD, SO K F H B env σ As ∧ w env RD ∧
  (∀ σ' H' F' As' env', PostS K kp F H B σ F' H' env' σ' As' → RD.nx env' → D.nx σ' H') ∧
  (∀ σ' H' F' As' env', PostS K kp F H B σ F' H' env' σ' As' → RD.bk env' → D.bk σ' H') ∧
  (∀ σ' H' F' As' env', PostS K kp F H B σ F' H' env' σ' As' → RD.ct env' → D.ct σ' H') ∧
  (∀ v σ' H' F' As' a d env', PostS K kp F H B σ F' H' env' σ' As' → TO K F' H' B As' d v a → RD.rt d env' → D.rt v H')
structure DS (kp : List Nat) (X : Cx) (st : Stmt) (w : WS) : Prop where
  ps : PS X st (liftS X.K kp w)
structure DSs (kp : List Nat) (X : Cx) (st : List Stmt) (w : WS) : Prop where
  ps : PSs X st (liftS X.K kp w)
section
variable {X : Cx} {p : Bool} {kp : List Nat} {e c : Expr} {st : Stmt} {rest sa sb : List Stmt} {we : WE} {ws wr wa wb : WS} {wt : WT} {pos : Pos}
def sNext : WS := fun env RD => RD.nx env
def sSeq (w1 w2 : WS) : WS := fun env RD => w1 env { RD with nx := fun e1 => w2 e1 RD }
theorem dss_nil : DSs kp X [] sNext := ⟨PSsimp pss_nil fun D σ H ⟨F, B, env, As, RD, s, hw, k1, k2, k3, k4⟩ => k1 σ H F As env (.refl s) hw⟩
theorem dss_cons (h : DS kp X st ws) (hs : DSs kp X rest wr) : DSs kp X (st :: rest) (sSeq ws wr) := by
  refine ⟨PSsimp (pss_cons h.ps hs.ps) ?_⟩
  rintro D σ H ⟨F, B, env, As, RD, s, hw, k1, k2, k3, k4⟩
  refine ⟨F, B, env, As, _, s, hw, fun σ1 H1 F1 As1 e1 po1 h1 => ?_, k2, k3, k4⟩
  exact ⟨F1, B, e1, As1, RD, po1.so, h1, fun σ2 H2 F2 As2 e2 po2 => k1 σ2 H2 F2 As2 e2 (po1.trans po2), fun σ2 H2 F2 As2 e2 po2 => k2 σ2 H2 F2 As2 e2 (po1.trans po2), fun σ2 H2 F2 As2 e2 po2 => k3 σ2 H2 F2 As2 e2 (po1.trans po2),
    fun v σ2 H2 F2 As2 a d e2 po2 => k4 v σ2 H2 F2 As2 a d e2 (po1.trans po2)⟩
theorem dss_one (h : DS kp X st ws) : DSs kp X [st] ws := ⟨pss_one h.ps⟩
theorem ds_pass : DS kp X (.Pass pos) sNext := ⟨PSimp ps_pass fun D σ H ⟨F, B, env, As, RD, s, hw, k1, k2, k3, k4⟩ => k1 σ H F As env (.refl s) hw⟩
def sBreak : WS := fun env RD => RD.bk env
def sCont : WS := fun env RD => RD.ct env
theorem ds_break : DS kp X (.Break pos) sBreak := ⟨PSimp ps_break fun D σ H ⟨F, B, env, As, RD, s, hw, k1, k2, k3, k4⟩ => k2 σ H F As env (.refl s) hw⟩
theorem ds_cont : DS kp X (.Continue pos) sCont := ⟨PSimp ps_continue fun D σ H ⟨F, B, env, As, RD, s, hw, k1, k2, k3, k4⟩ => k3 σ H F As env (.refl s) hw⟩
def sDrop (we : WE) : WS := fun env RD => we env fun _ e1 => RD.nx e1
theorem ds_expr (h : DE p X e we) (hs : swapsWith e none pos.line X.env = pure false := by rfl) : DS kp X (.Expr e pos) (sDrop we) := by
  refine ⟨PSimp (ps_expr h.pe hs) ?_⟩
  rintro D σ H ⟨F, B, env, As, RD, s, hw, k1, k2, k3, k4⟩
  exact ⟨F, B, env, As, _, s, hw, fun v H1 F1 As1 a d e1 po1 t1 h1 => k1 σ H1 F1 As1 e1 po1.ps h1⟩
def sRet (we : WE) : WS := fun env RD => we env RD.rt
theorem ds_ret (h : DE p X e we) : DS kp X (.Return (some e) pos) (sRet we) := by
  refine ⟨PSimp (ps_ret h.pe) ?_⟩
  rintro D σ H ⟨F, B, env, As, RD, s, hw, k1, k2, k3, k4⟩
  exact ⟨F, B, env, As, _, s, hw, fun v H1 F1 As1 a d e1 po1 t1 h1 => k4 v σ H1 F1 As1 a d e1 po1.ps t1 h1⟩
def sRetN : WS := fun env RD => RD.rt .non env
theorem ds_retN : DS kp X (.Return none pos) sRetN := ⟨PSimp ps_retN fun D σ H ⟨F, B, env, As, RD, s, hw, k1, k2, k3, k4⟩ => k4 .non σ H F As [] .non env (.refl s) (.sc s .non) hw⟩
def sIf (wt : WT) (wa wb : WS) : WS := fun env RD => wt env fun b e1 => if b = true then wa e1 RD else wb e1 RD
theorem ds_if (hc : DT p X c wt) (ha : DSs kp X sa wa) (hb : DSs kp X sb wb) : DS kp X (.If c sa sb pos) (sIf wt wa wb) := by
  refine ⟨PSimp (ps_if hc.pt ha.ps hb.ps) ?_⟩
  rintro D σ H ⟨F, B, env, As, RD, s, hw, k1, k2, k3, k4⟩
  refine ⟨F, B, env, As, _, s, hw, fun b H1 F1 As1 e1 po1 h1 => ?_⟩
  have go : ∀ w : WS, w e1 RD → liftS X.K kp w D σ H1 := fun w h => ⟨F1, B, e1, As1, RD, po1.so, h, fun σ2 H2 F2 As2 e2 po2 => k1 σ2 H2 F2 As2 e2 (po1.ps.trans po2), fun σ2 H2 F2 As2 e2 po2 => k2 σ2 H2 F2 As2 e2 (po1.ps.trans po2), fun σ2 H2 F2 As2 e2 po2 => k3 σ2 H2 F2 As2 e2 (po1.ps.trans po2),
    fun v σ2 H2 F2 As2 a d e2 po2 => k4 v σ2 H2 F2 As2 a d e2 (po1.ps.trans po2)⟩
  cases b with
  | true => exact go wa h1
  | false => exact go wb h1
/-- a name, a tuple of targets -/
abbrev WG := D → En → (En → Prop) → Prop
abbrev WGs := List D → En → (En → Prop) → Prop
def liftG (K : PySem.W.Frag) (kp : List Nat) (g : WG) : TG := fun v σ H Q => ∃ F B env As d a R, SO K F H B env σ As ∧ TO K F H B As d v a ∧ g d env R ∧
  ∀ σ' H' F' As' env', PostS K kp F H B σ F' H' env' σ' As' → R env' → Q σ' H'
def liftGs (K : PySem.W.Frag) (kp : List Nat) (g : WGs) : TGs := fun vs σ H Q => ∃ F B env As ds a R, SO K F H B env σ As ∧ TOL K F H B As ds vs a ∧ g ds env R ∧
  ∀ σ' H' F' As' env', PostS K kp F H B σ F' H' env' σ' As' → R env' → Q σ' H'
structure DG (kp : List Nat) (X : Cx) (e : Expr) (g : WG) : Prop where
  pg : PG X e (liftG X.K kp g)
structure DGs (kp : List Nat) (X : Cx) (es : List Expr) (g : WGs) : Prop where
  pg : PGs X es (liftGs X.K kp g)
theorem PGsimp {X : Cx} {e : List Expr} {t t' : TGs} (h : PGs X e t) (i : ∀ v σ H Q, t' v σ H Q → t v σ H Q) : PGs X e t' := ⟨fun pins s σ H v u Q I r q => h.run pins s σ H v u Q I r (i v σ H Q q)⟩
def gNm (i : Nat) : WG := fun d env R => R (env.set i (some d))
theorem dg_name {i : Nat} (h : PG X e (gName i)) (hi : i ∉ kp) : DG kp X e (gNm i) :=
  ⟨PGimp h fun v σ H Q ⟨F, B, env, As, d, a, R, s, t, hw, k⟩ => k _ H F _ _ (s.assignS t hi) hw⟩
def gsNil : WGs := fun ds env R => ds = [] ∧ R env
def gsCons (g : WG) (gs : WGs) : WGs
  | d :: ds, env, R => g d env fun e1 => gs ds e1 R
  | [], _, _ => False
variable {es : List Expr} {g : WG} {gs : WGs}
theorem dgs_nil : DGs kp X [] gsNil := ⟨PGsimp pgs_nil fun vs σ H Q ⟨F, B, env, As, ds, a, R, s, t, ⟨e, hw⟩, k⟩ => by
  subst e
  obtain ⟨rfl, _⟩ := t.rep.nil_inv
  exact ⟨rfl, k σ H F As env (.refl s) hw⟩⟩
theorem dgs_cons (h : DG kp X e g) (hs : DGs kp X es gs) (st : (assignEach (e :: es) X.env).map (·.2) = assign e X.env :: (assignEach es X.env).map (·.2) := by rfl) : DGs kp X (e :: es) (gsCons g gs) := by
  refine ⟨PGsimp (pgs_cons h.pg hs.pg st) ?_⟩
  rintro vs σ H Q ⟨F, B, env, As, ds, a, R, s, t, hw, k⟩
  cases ds with
  | nil => exact hw.elim
  | cons d ds =>
    obtain ⟨v, us, a1, a2, rfl, rfl, t1, t2, ap⟩ := t.uncons
    refine ⟨v, us, rfl, F, Bx B a2, env, As, d, a1, _, s.pushL t2, t1, hw, fun σ1 H1 F1 As1 e1 po1 h1 => ?_⟩
    exact ⟨F1, B, e1, As1, ds, a2, R, po1.so.pop, t2.keepS po1, h1, fun σ2 H2 F2 As2 e2 po2 => k σ2 H2 F2 As2 e2 (po1.pop.trans po2)⟩
def gTp (n : Nat) (gs : WGs) : WG
  | .tup ds, env, R => ds.length = n ∧ gs ds env R
  | _, _, _ => False
theorem dg_tup {k n : Nat} (hc : X.calm = true) (h : DGs kp X es gs) (hn : (assignEach es X.env).length = n := by rfl) (hst : (assignEach es X.env).findIdx? (·.1) = none := by rfl) : DG kp X (.Tuple es k pos) (gTp n gs) := by
  refine ⟨PGimp (pg_tup hc h.pg hn hst) ?_⟩
  rintro v σ H Q ⟨F, B, env, As, d, a, R, s, t, hw, k⟩
  unfold gTp at hw
  split at hw
  · obtain ⟨q, vs, rfl, e1, r1⟩ := t.rep.tup_inv s.same
    exact ⟨q, vs, rfl, e1, by rw [← r1.length]; exact hw.1, F, B, env, As, _, a, R, s, ⟨r1, t.nd, t.fr, t.nb⟩, hw.2, k⟩
  · exact hw.elim
def sAsg (we : WE) (g : WG) : WS := fun env RD => we env fun d e1 => g d e1 RD.nx
theorem asg_lift {te : TE} {tg : TG} (i : ∀ σ H Q, liftE X.K p we σ H Q → te σ H Q) (j : ∀ v σ H Q, liftG X.K kp g v σ H Q → tg v σ H Q) : ∀ D σ H, liftS X.K kp (sAsg we g) D σ H → tAsg te tg D σ H := by
  rintro D σ H ⟨F, B, env, As, RD, s, hw, k1, k2, k3, k4⟩
  refine i σ H _ ⟨F, B, env, As, _, s, hw, fun v H1 F1 As1 a d e1 po1 t1 h1 => ?_⟩
  exact j v σ H1 _ ⟨F1, B, e1, As1, d, a, _, po1.so, t1, h1, fun σ2 H2 F2 As2 e2 po2 h2 => k1 σ2 H2 F2 As2 e2 (po1.ps.trans po2) h2⟩
theorem ds_asg {tg : Expr} (h : DE p X e we) (hg : DG kp X tg g) (hs : swapsWithSole [tg] e pos.line X.env = pure false := by rfl) (hw : swappedStores [tg] e X.env = pure none := by rfl)
    (h1 : (assignEach [tg] X.env).map (·.2) = [assign tg X.env] := by rfl) : DS kp X (.Assign [tg] e pos) (sAsg we g) :=
  ⟨PSimp (ps_asg h.pe hg.pg hs hw h1) (asg_lift (fun _ _ _ h => h) fun _ _ _ _ h => h)⟩
theorem ds_set {i : Nat} {x : Str} {pos' : Pos} (hN : X.N.Nodup) (hi : X.N[i]? = some x) (hx : Loc X.env.scope x) (h : DE p X e we) (hk : i ∉ kp) (hs : swapsWith e (some (.Name x pos')) pos.line X.env = pure false := by rfl) (hf : X.fn x = true ∨ X.env.scope.names.lookup x = some .local := by first | exact .inl rfl | exact .inr rfl | assumption) :
    DS kp X (.Assign [.Name x pos'] e pos) (sAsg we (gNm i)) :=
  ⟨PSimp (ps_set hN hi hx h.pe hs hf) (asg_lift (fun _ _ _ h => h) fun v σ H Q ⟨F, B, env, As, d, a, R, s, t, hw, k⟩ => k _ H F _ _ (s.assignS t hk) hw)⟩
/-- x op= e, x a scalar -/
def sAug (i : Nat) (rd : RD2) (we : WE) : WS := fun env RD => ∃ x, env[i]? = some (some x) ∧ x.fz = true ∧ we env fun y e1 => rd x y fun z => RD.nx (e1.set i (some z))
theorem ds_aug {i : Nat} {x : Str} {op : Operator} {r : R2} {rd : RD2} {pos' : Pos} (hN : X.N.Nodup) (hi : X.N[i]? = some x) (hx : Loc X.env.scope x) (h : DE p X e we) (ho : OpR X (inplaceOp op) r) (hr : Snd2 X.K r rd) (hk : i ∉ kp)
    (hf : X.fn x = true ∨ X.env.scope.names.lookup x = some .local := by first | exact .inl rfl | exact .inr rfl | assumption) : DS kp X (.AugAssign (.Name x pos') op e pos) (sAug i rd we) := by
  refine ⟨PSimp (ps_aug hN hi hx h.pe (show PIp X op r from ho) hf) ?_⟩
  rintro D σ H ⟨F, B, env, As, RD, s, ⟨d, hd, hz, hw⟩, k1, k2, k3, k4⟩
  obtain ⟨v, a, h1, h2, h3⟩ := s.env.get hd
  have := h3.fzNil hz; subst this
  refine ⟨v, h1, F, B, env, As, _, s, hw, fun u H1 F1 As1 b y e1 po1 t1 g1 => ?_⟩
  refine hr po1.so (h3.frame po1.ext fun _ z => nomatch z) t1.rep g1 fun v' H3 F3 c z po3 t3 g3 => ?_
  exact k1 _ H3 F3 _ _ (po1.ps.trans (po3.ps.trans (po3.so.assignS t3 hk))) g3
end
end PL

/-! PLf: own things that are changed where they lie. -/
namespace PL
open PySem L2

/-- within the tree d at v (own things A) lies d' at v' (own things A'); u puts another tree there -/
def Foc (K : PySem.W.Frag) (F H : Hp) (d : D) (v : V) (A : List Addr) (u : D → D) (d' : D) (v' : V) (A' : List Addr) : Prop :=
  ∃ A1 A2, A = A1 ++ A' ++ A2 ∧ Rep K F H d' v' A' ∧ ∀ (F' H' : Hp) (e : D) (A'' : List Addr), Same F F' → (∀ a ∈ A1 ++ A2, H' a = H a) → Rep K F' H' e v' A'' → Rep K F' H' (u e) v (A1 ++ A'' ++ A2)
section
variable {K : PySem.W.Frag} {p : Bool} {kp : List Nat} {F F' F2 H H' H2 : Hp} {B : Addr → Prop} {env env' env2 : En} {σ σ' σ2 : St} {As As' As2 : List (List Addr)} {d d' d2 : D} {v v' v2 v0 : V} {A A' a a2 : List Addr} {ds : List D} {vs : List V} {u : D → D}
theorem Foc.root (r : Rep K F H d v A) : Foc K F H d v A id d v A := ⟨[], [], by simp, r, fun F' H' e A'' _ _ q => by simpa using q⟩
/-- an item of an own list -/
theorem Foc.item {xs : List D} {j : Nat} {x : D} (f : Foc K F H d v A u (.obj true .lst xs) v' A') (e : xs[j]? = some x) :
    ∃ p vs w A0, v' = .ref p ∧ H p = some (.lst vs) ∧ vs[j]? = some w ∧ xs.length = vs.length ∧ Foc K F H d v A (fun y => u (.lst true (xs.set j y))) x w A0 := by
  obtain ⟨A1, A2, rfl, r, up⟩ := f
  cases r with
  | @own _ p vs _ A3 h r =>
    obtain ⟨w, B1, B0, B2, h1, h2, h3, h4⟩ := r.get e
    subst h2
    refine ⟨p, vs, w, B0, rfl, h, h1, r.length, A1 ++ p :: B1, B2 ++ A2, by simp, h3, fun F' H' y A'' sm k q => ?_⟩
    have q2 := h4 (F' := F') (H' := H') (d' := y) (v' := w) sm (fun a ha => k a (by
      rcases List.mem_append.mp ha with z | z
      · simp [z]
      · simp [z])) q
    have e2 : vs.set j w = vs := by
      refine List.ext_getElem? fun i => ?_
      by_cases hi : j = i
      · subst hi
        rw [List.getElem?_set_self (List.getElem?_eq_some_iff.mp h1).1]; exact h1.symm
      · rw [List.getElem?_set_ne hi]
    rw [e2] at q2
    have hp : H' p = H p := k p (by simp)
    have := up F' H' (.lst true (xs.set j y)) (p :: (B1 ++ A'' ++ B2)) sm (fun a ha => k a (by
      rcases List.mem_append.mp ha with z | z
      · simp [z]
      · simp [z])) (.own (show CellO H' .lst p vs from hp.trans h) q2)
    simpa using this
/-- through a state that keeps the own things -/
theorem Foc.frame (f : Foc K F H d v A u d' v' A') (e : Same F F') (k : ∀ a ∈ A, H' a = H a) : Foc K F' H' d v A u d' v' A' := by
  obtain ⟨A1, A2, rfl, r, up⟩ := f
  refine ⟨A1, A2, rfl, r.frame e fun a ha => k a (by simp [ha]), fun F2 H2 y A'' sm k2 q => up F2 H2 y A'' (e.trans sm) (fun a ha => (k2 a ha).trans (k a ?_)) q⟩
  rcases List.mem_append.mp ha with z | z
  · simp [z]
  · simp [z]
theorem mem_of_slot {As : List (List Addr)} {i : Nat} {A : List Addr} (h : As[i]? = some A) {x : Addr} (hx : x ∈ A) : x ∈ As.flatten := List.mem_flatten.mpr ⟨A, List.mem_of_getElem? h, hx⟩
/-- THE WRITE: the own thing at p, within what slot i holds, is changed; a: own things that come in -/
theorem SO.write {i : Nat} {o : HO} {p : Addr} {A'' : List Addr} {d'' : D} (s : SO K F H B env σ As) (hσ : σ[i]? = some (some v0)) (hA : As[i]? = some A) (f : Foc K F H d v0 A u d' v' A') (hp : p ∈ A')
    (ha : (a ++ As.flatten).Nodup) (fr : ∀ x ∈ a, F x = none) (nb : ∀ x ∈ a, ¬ B x) (sub : ∀ x ∈ A'', x ∈ A' ∨ x ∈ a) (nd : A''.Nodup) (r : Rep K F (upd H p o) d'' v' A'') :
    ∃ As', SO K F (upd H p o) B (env.set i (some (u d''))) σ As' ∧ (∀ b, B b → upd H p o b = H b) ∧ (∀ x ∈ As'.flatten, x ∈ As.flatten ∨ x ∈ a) := by
  obtain ⟨A1, A2, rfl, r0, up⟩ := f
  have pm := flat_at As i _ hA
  have ndA := List.nodup_append.mp (pm.nodup_iff.mp s.nd)
  have n1 := ndA.1
  rw [List.append_assoc] at n1
  have n2 := List.nodup_append.mp n1
  have n3 := List.nodup_append.mp n2.2.1
  have pA : p ∈ As.flatten := mem_of_slot hA (by simp [hp])
  have hn := List.nodup_append.mp ha
  have ain : ∀ x ∈ a, x ∉ As.flatten := fun x hx z => hn.2.2 x hx x z rfl
  have rest : ∀ x ∈ (As.set i []).flatten, x ∈ As.flatten := fun x hx => pm.mem_iff.mpr (List.mem_append_right _ hx)
  have A1f : ∀ x ∈ A1, x ∈ As.flatten := fun x hx => mem_of_slot hA (by simp [hx])
  have A2f : ∀ x ∈ A2, x ∈ As.flatten := fun x hx => mem_of_slot hA (by simp [hx])
  have A'f : ∀ x ∈ A', x ∈ As.flatten := fun x hx => mem_of_slot hA (by simp [hx])
  have Xf : ∀ x ∈ A1 ++ A'' ++ A2, x ∈ A1 ++ A' ++ A2 ∨ x ∈ a := fun x hx => by
    rcases List.mem_append.mp hx with z | z
    · rcases List.mem_append.mp z with z | z
      · exact .inl (by simp [z])
      · rcases sub x z with y | y
        · exact .inl (by simp [y])
        · exact .inr y
    · exact .inl (by simp [z])
  have hl : i < As.length := (List.getElem?_eq_some_iff.mp hA).1
  have pm2 := flat_set As i (A1 ++ A'' ++ A2) hl
  have nX : (A1 ++ A'' ++ A2).Nodup := by
    rw [List.append_assoc]
    refine List.nodup_append.mpr ⟨n2.1, List.nodup_append.mpr ⟨nd, n3.2.1, fun x hx y hy e => ?_⟩, fun x hx y hy e => ?_⟩
    · subst e
      rcases sub x hx with z | z
      · exact n3.2.2 x z x hy rfl
      · exact ain x z (A2f x hy)
    · subst e
      rcases List.mem_append.mp hy with z | z
      · rcases sub x z with z | z
        · exact n2.2.2 x hx x (List.mem_append_left _ z) rfl
        · exact ain x z (A1f x hx)
      · exact n2.2.2 x hx x (List.mem_append_right _ z) rfl
  have kr : ∀ x ∈ (As.set i []).flatten, upd H p o x = H x := fun x hx => upd_ne fun e => ndA.2.2 p (by simp [hp]) x hx e.symm
  have k12 : ∀ x ∈ A1 ++ A2, upd H p o x = H x := fun x hx => upd_ne fun e => by
    subst e
    rcases List.mem_append.mp hx with z | z
    · exact n2.2.2 x z x (List.mem_append_left _ hp) rfl
    · exact n3.2.2 x hp x z rfl
  have keepB : ∀ b, B b → upd H p o b = H b := fun b hb => upd_ne fun e => (s.out b hb).2.2 (e ▸ pA)
  refine ⟨As.set i (A1 ++ A'' ++ A2), ⟨fun b w e => ?_, ?_, ?_, fun x hx => ?_, fun b hb => ?_⟩, keepB, fun x hx => ?_⟩
  · rw [upd_ne fun z => by rw [z, s.fr p pA] at e; cases e]; exact s.same b w e
  · have e1 := (s.env.drop i).frame (H' := upd H p o) (Same.refl F) kr
    have e2 := e1.tell (up F (upd H p o) d'' A'' (Same.refl F) k12 r) hσ
    rwa [set_set, set_set] at e2
  · refine pm2.nodup_iff.mpr (List.nodup_append.mpr ⟨nX, ndA.2.1, fun x hx y hy e => ?_⟩)
    subst e
    rcases Xf x hx with z | z
    · exact ndA.2.2 x z x hy rfl
    · exact ain x z (rest x hy)
  · rcases List.mem_append.mp (pm2.mem_iff.mp hx) with z | z
    · rcases Xf x z with y | y
      · exact s.fr x (mem_of_slot hA y)
      · exact fr x y
    · exact s.fr x (rest x z)
  · obtain ⟨k1, k2, k3⟩ := s.out b hb
    refine ⟨k1, k2.of_eq (keepB b hb), fun z => ?_⟩
    rcases List.mem_append.mp (pm2.mem_iff.mp z) with y | y
    · rcases Xf b y with q | q
      · exact k3 (mem_of_slot hA q)
      · exact nb b q hb
    · exact k3 (rest b y)
  · rcases List.mem_append.mp (pm2.mem_iff.mp hx) with y | y
    · rcases Xf x y with q | q
      · exact .inl (mem_of_slot hA q)
      · exact .inr q
    · exact .inl (rest x y)
end

/-! ### places -/
/-- slot i, what lies at the place, how another thing is put there -/
abbrev WM := En → (Nat → D → (D → D) → Prop) → Prop
def liftM (K : PySem.W.Frag) (w : WM) : TE := fun σ H Q => ∃ F B env As R, SO K F H B env σ As ∧ w env R ∧
  ∀ v H' F' i d v0 A u d' A', PostE K true F H B env σ As F' H' env As → env[i]? = some (some d) → σ[i]? = some (some v0) → As[i]? = some A → Foc K F' H' d v0 A u d' v A' → R i d' u → Q v H'
structure DM (X : Cx) (e : Expr) (w : WM) : Prop where
  pe : PE X e (liftM X.K w)
section
variable {X : Cx} {p : Bool} {kp : List Nat} {e a b : Expr} {wm : WM} {we wi : WE} {pos : Pos}
def mName (i : Nat) : WM := fun env R => ∃ d, env[i]? = some (some d) ∧ R i d id
theorem dm_name {i : Nat} (h : PE X e (tVar i)) : DM X e (mName i) := by
  refine ⟨PEimp h fun σ H Q ⟨F, B, env, As, R, s, ⟨d, he, hw⟩, k⟩ => ?_⟩
  obtain ⟨v, A, h1, h2, h3⟩ := s.env.get he
  exact ⟨v, h1, k v H F i d v A id d A (.refl s) he h1 h2 (.root h3) hw⟩
/-- an item of an own list that is such a place -/
def mIx (wm : WM) (wi : WE) : WM := fun env R => wm env fun i d' u => wi env fun k _ => asI k fun kk => match d' with
  | .obj true .lst xs => ∃ j x, L2.ixN xs.length kk = some j ∧ xs[j]? = some x ∧ R i x fun y => u (.lst true (xs.set j y))
  | _ => False
theorem dm_ix (ha : DM X a wm) (hb : DE true X b wi) (hs : PlainIx b) : DM X (.Subscript a b pos) (mIx wm wi) := by
  refine ⟨PEimp (pe_ix ix_list ha.pe hb.pe hs) ?_⟩
  rintro σ H Q ⟨F, B, env, As, R, s, hw, k⟩
  refine ⟨F, B, env, As, _, s, hw, fun v H1 F1 i d v0 A u d' A' po1 g1 g2 g3 f1 h1 => ?_⟩
  refine ⟨F1, B, env, As, _, po1.so, h1, fun y H2 F2 As2 a2 kd e2 po2 t2 h2 => ?_⟩
  obtain ⟨z1, z2, z3⟩ := po2.pure rfl
  subst z1 z2
  obtain ⟨kk, rfl, h2⟩ := asI_inv h2
  obtain ⟨rfl, _⟩ := t2.rep.sc_inv
  have f2 := f1.frame po2.ext fun x hx => z3 x (mem_of_slot g3 hx)
  split at h2
  · rename_i xs
    obtain ⟨j, x, hj, hx, h2⟩ := h2
    obtain ⟨q, vs, w, A0, rfl, e1, e2, el, f3⟩ := f2.item hx
    refine ⟨q, vs, kk, w, rfl, rfl, .of e1, ?_, k w H2 F2 i d v0 A _ x A0 (po1.trans po2) g1 g2 g3 f3 h2⟩
    unfold L2.atI
    rw [← el, hj]
    exact e2
  · exact h2.elim
/-- .. read -/
theorem DM.db (h : DM X e wm) : DB X e (fun env R => wm env fun _ d _ => R d) := by
  refine ⟨PEimp h.pe fun σ H Q ⟨F, B, env, As, R, s, hw, k⟩ => ⟨F, B, env, As, _, s, hw, fun v H' F' i d v0 A u d' A' po g1 g2 g3 f h => ?_⟩⟩
  obtain ⟨A1, A2, rfl, r, _⟩ := f
  exact k v H' F' A' d' po ⟨r, .inl fun x hx => mem_of_slot g3 (by simp [hx])⟩ h

/-- what comes in: frozen, or as it is -/
def inK (kf : Bool) (d : D) : D := if kf then d else d.frz
theorem in_ok {K : PySem.W.Frag} {F H : Hp} {B : Addr → Prop} {env : En} {σ : St} {As : List (List Addr)} {d : D} {v : V} {a : List Addr} (kf : Bool) (s : SO K F H B env σ As) (t : TO K F H B As d v a) :
    ∃ F' a', PostE K true F H B env σ As F' H env As ∧ TO K F' H B As (inK kf d) v a' ∧ ∀ x ∈ a', x ∈ a := by
  cases kf with
  | true => exact ⟨F, a, .refl s, t, fun _ z => z⟩
  | false =>
    obtain ⟨po, r⟩ := s.freeze t
    exact ⟨_, [], po, .fz r po.so, fun _ z => nomatch z⟩
theorem TO.ext {K : PySem.W.Frag} {F F' H : Hp} {B B' : Addr → Prop} {As : List (List Addr)} {d : D} {v : V} {a : List Addr} (t : TO K F H B As d v a) (e : Same F F') (fr : ∀ x ∈ a, F' x = none) (nb : ∀ x ∈ a, ¬ B' x) : TO K F' H B' As d v a := ⟨t.rep.frame e fun _ _ => rfl, t.nd, fr, nb⟩

/-! ### list changes -/
/-- place[i] = e -/
def sSetIx (kf : Bool) (we : WE) (wm : WM) (wi : WE) : WS := fun env RD => we env fun y e1 => wm e1 fun i d' u => wi e1 fun k _ => asI k fun kk => match d' with
  | .obj true .lst xs => ∃ j, L2.ixN xs.length kk = some j ∧ RD.nx (e1.set i (some (u (.lst true (xs.set j (inK kf y))))))
  | _ => False
/-- setting an item, by states -/
theorem set_core {K : PySem.W.Frag} {F H : Hp} {B : Addr → Prop} {env : En} {σ : St} {As : List (List Addr)} {i : Nat} {d : D} {v0 v yv : V} {A A' ay : List Addr} {u : D → D} {xs : List D} {y : D} {j : Nat} {kk : Int} {Q : Hp → Prop} {R : En → Prop}
    (s : SO K F H B env σ As) (g1 : env[i]? = some (some d)) (g2 : σ[i]? = some (some v0)) (g3 : As[i]? = some A) (f : Foc K F H d v0 A u (.obj true .lst xs) v A') (t : TO K F H B As y yv ay) (hj : L2.ixN xs.length kk = some j)
    (h : R (env.set i (some (u (.lst true (xs.set j y)))))) (k : ∀ H' As', SO K F H' B (env.set i (some (u (.lst true (xs.set j y))))) σ As' → (∀ b, B b → H' b = H b) → R (env.set i (some (u (.lst true (xs.set j y))))) → Q H') :
    rSetL v (.int kk) yv H Q := by
  obtain ⟨A1, A2, eA, r, up⟩ := id f
  cases r with
  | @own _ p vs _ A3 hc r =>
    have hlt := (ixN_seq hj).2.1
    obtain ⟨w, B1, B0, B2, h1, h2, h3, h4⟩ := r.get (List.getElem?_eq_getElem hlt)
    subst h2
    have ndA : A.Nodup := (List.nodup_append.mp ((flat_at As i _ g3).nodup_iff.mp s.nd)).1
    rw [eA] at ndA
    have nA' : (p :: (B1 ++ B0 ++ B2)).Nodup := (List.nodup_append.mp (List.nodup_append.mp ndA).1).2.1
    have np := List.nodup_cons.mp nA'
    have pf : p ∈ As.flatten := mem_of_slot g3 (by rw [eA]; exact List.mem_append_left _ (List.mem_append_right _ (List.mem_cons_self ..)))
    have nay : p ∉ ay := fun z => (List.nodup_append.mp t.nd).2.2 p z p pf rfl
    have nyB : ∀ x ∈ B1 ++ B0 ++ B2, x ∉ ay := fun x hx z => (List.nodup_append.mp t.nd).2.2 x z x (mem_of_slot g3 (by rw [eA]; exact List.mem_append_left _ (List.mem_append_right _ (List.mem_cons_of_mem _ hx)))) rfl
    have hp : H p = some (.lst vs) := hc
    refine ⟨p, vs, kk, j, rfl, rfl, hp, by rw [← r.length]; exact hj, ?_⟩
    have rr := h4 (F' := F) (H' := upd H p (.lst (vs.set j yv))) (d' := y) (v' := yv) (Same.refl _) (fun x hx => upd_ne fun e => np.1 (by
      subst e
      rcases List.mem_append.mp hx with z | z
      · simp [z]
      · simp [z])) (t.rep.frame (Same.refl _) fun x hx => upd_ne fun e => nay (e ▸ hx))
    have n3 := np.2
    rw [List.append_assoc] at n3
    have n4 := List.nodup_append.mp n3
    have n5 := List.nodup_append.mp n4.2.1
    obtain ⟨As', s', kb, _⟩ := s.write (o := .lst (vs.set j yv)) (p := p) (A'' := p :: (B1 ++ ay ++ B2)) (a := ay) g2 g3 f (by simp) t.nd t.fr t.nb (fun x hx => by
        simp only [List.mem_cons, List.mem_append] at hx ⊢
        rcases hx with z | (z | z) | z
        · exact .inl (.inl z)
        · exact .inl (.inr (.inl (.inl z)))
        · exact .inr z
        · exact .inl (.inr (.inr z))) (by
        refine List.nodup_cons.mpr ⟨fun z => ?_, ?_⟩
        · simp only [List.mem_append] at z
          rcases z with (z | z) | z
          · exact np.1 (by simp [z])
          · exact nay z
          · exact np.1 (by simp [z])
        · rw [List.append_assoc]
          refine List.nodup_append.mpr ⟨n4.1, List.nodup_append.mpr ⟨(List.nodup_append.mp t.nd).1, n5.2.1, fun x hx z hz e => ?_⟩, fun x hx z hz e => ?_⟩
          · subst e; exact nyB x (by simp [hz]) hx
          · subst e
            rcases List.mem_append.mp hz with z | z
            · exact nyB x (by simp [hx]) z
            · exact n4.2.2 x hx x (List.mem_append_right _ z) rfl) (.own (show CellO (upd H p _) .lst p _ from upd_same) rr)
    exact k _ As' s' kb h
theorem setix_lift {kf : Bool} : ∀ D σ H, liftS X.K kp (sSetIx kf we wm wi) D σ H → tAsg (liftE X.K p we) (gSub (liftM X.K wm) (liftE X.K true wi) rSetL) D σ H := by
  rintro D σ H ⟨F, B, env, As, RD, s, hw, k1, k2, k3, k4⟩
  refine ⟨F, B, env, As, _, s, hw, fun yv H1 F1 As1 ay y e1 po1 t1 h1 => ?_⟩
  refine ⟨F1, Bx B ay, e1, As1, _, po1.so.push t1, h1, fun v H2 F2 i d v0 A u d' A' po2 g1 g2 g3 f h2 => ?_⟩
  refine ⟨F2, Bx B ay, e1, As1, _, po2.so, h2, fun iv H3 F3 As3 ai kd e3 po3 t3 h3 => ?_⟩
  obtain ⟨z1, z2, z3⟩ := po3.pure rfl
  subst z1 z2
  obtain ⟨kk, rfl, h3⟩ := asI_inv h3
  obtain ⟨rfl, _⟩ := t3.rep.sc_inv
  have po23 := po2.trans po3
  have t3' := t1.keep po23
  have s3 := po23.so.pop
  obtain ⟨F4, a4, po4, t4, sub4⟩ := in_ok kf s3 t3'
  have f4 := (f.frame po3.ext fun x hx => z3 x (mem_of_slot g3 hx)).frame (po4.ext) fun x hx => rfl
  split at h3
  · rename_i xs
    obtain ⟨j, hj, h3⟩ := h3
    refine set_core po4.so g1 g2 g3 f4 t4 hj h3 fun H5 As5 s5 kb h5 => ?_
    refine k1 σ H5 F4 As5 _ ⟨(po1.ext.trans po23.ext).trans po4.ext, s5, fun b hb => (kb b hb).trans ((po4.keep b hb).trans ((po23.pop.keep b hb).trans (po1.keep b hb))), fun _ _ => rfl, rfl⟩ h5
  · exact h3.elim
theorem ds_setix {kf : Bool} {o : Expr} {tp : Pos} (h : DE p X e we) (hm : DM X o wm) (hi : DE true X b wi)
    (ha : ∀ v, assign (.Subscript o b tp) X.env v = (do
      let ov ← holding [v] (eval o X.env)
      let iv ← holding [v, ov] (eval b X.env)
      standAt tp
      holding [v, ov, iv] (setItem ov iv v)
      release [v, ov, iv] []) := by intro _; rfl)
    (hs : swapsWithSole [.Subscript o b tp] e pos.line X.env = pure false := by rfl) (hw : swappedStores [.Subscript o b tp] e X.env = pure none := by rfl)
    (h1 : (assignEach [.Subscript o b tp] X.env).map (·.2) = [assign (.Subscript o b tp) X.env] := by rfl) : DS kp X (.Assign [.Subscript o b tp] e pos) (sSetIx kf we wm wi) :=
  ⟨PSimp (ps_asg h.pe (pg_sub hm.pe hi.pe set_list ha) hs hw h1) setix_lift⟩
end
end PL

/-! PLg: list methods that change, o[i] op= e. -/
namespace PL
open PySem L2
section
variable {K : PySem.W.Frag} {p : Bool} {kp : List Nat} {F F' F2 H H' H2 : Hp} {B : Addr → Prop} {env env' env2 : En} {σ σ' σ2 : St} {As As' As2 : List (List Addr)} {d d' d2 : D} {v v' v2 v0 : V} {A A' a a2 : List Addr} {ds : List D} {vs : List V} {u : D → D}
/-- an own list, changed -/
theorem list_core {i : Nat} {xs : List D} (s : SO K F H B env σ As) (g1 : env[i]? = some (some d)) (g2 : σ[i]? = some (some v0)) (g3 : As[i]? = some A) (f : Foc K F H d v0 A u (.obj true .lst xs) v A')
    (ha : (a ++ As.flatten).Nodup) (fr : ∀ x ∈ a, F x = none) (nb : ∀ x ∈ a, ¬ B x) :
    ∃ p vs A3, v = .ref p ∧ H p = some (.lst vs) ∧ RepL K F H xs vs A3 ∧ A3.Nodup ∧ (∀ x ∈ A3, x ∉ a) ∧ ∀ xs' vs' A3', RepL K F H xs' vs' A3' → A3'.Nodup → (∀ x ∈ A3', x ∈ A3 ∨ x ∈ a) →
      ∃ As', SO K F (upd H p (.lst vs')) B (env.set i (some (u (.lst true xs')))) σ As' ∧ (∀ b, B b → upd H p (.lst vs') b = H b) ∧ ∀ x ∈ As'.flatten, x ∈ As.flatten ∨ x ∈ a := by
  obtain ⟨A1, A2, eA, r, up⟩ := id f
  cases r with
  | @own _ p vs _ A3 hc r =>
    have ndA : A.Nodup := (List.nodup_append.mp ((flat_at As i _ g3).nodup_iff.mp s.nd)).1
    rw [eA] at ndA
    have np := List.nodup_cons.mp (List.nodup_append.mp (List.nodup_append.mp ndA).1).2.1
    have inA : ∀ x ∈ p :: A3, x ∈ As.flatten := fun x hx => mem_of_slot g3 (by rw [eA]; exact List.mem_append_left _ (List.mem_append_right _ hx))
    have hn := List.nodup_append.mp ha
    have ap : ∀ x ∈ As.flatten, x ∉ a := fun x hx z => hn.2.2 x z x hx rfl
    refine ⟨p, vs, A3, rfl, hc, r, np.2, fun x hx => ap x (inA x (List.mem_cons_of_mem _ hx)), fun xs' vs' A3' r' nd' sub => ?_⟩
    have pn : p ∉ A3' := fun z => (sub p z).elim np.1 (ap p (inA p (List.mem_cons_self ..)))
    refine s.write (o := .lst vs') (p := p) (A'' := p :: A3') (a := a) g2 g3 f (List.mem_cons_self ..) ha fr nb (fun x hx => ?_) (List.nodup_cons.mpr ⟨pn, nd'⟩)
      (.own (show CellO (upd H p (.lst vs')) .lst p vs' from upd_same) (r'.frame (Same.refl _) fun x hx => upd_ne fun e => pn (e ▸ hx)))
    rcases List.mem_cons.mp hx with rfl | hx
    · exact .inl (List.mem_cons_self ..)
    · exact (sub x hx).imp (List.mem_cons_of_mem _) id
theorem RepL.erase {ds : List D} : ∀ {vs A} {i : Nat} {d}, RepL K F H ds vs A → ds[i]? = some d → ∃ v A1 A0 A2, vs[i]? = some v ∧ A = A1 ++ A0 ++ A2 ∧ Rep K F H d v A0 ∧ RepL K F H (ds.eraseIdx i) (vs.eraseIdx i) (A1 ++ A2) := by
  induction ds with
  | nil => intro vs A i d r e; simp at e
  | cons x xs ih =>
    intro vs A i d r e
    obtain ⟨v, us, A1, A2, rfl, rfl, r1, r2⟩ := r.cons_inv
    cases i with
    | zero =>
      simp only [List.getElem?_cons_zero, Option.some.injEq] at e; subst e
      exact ⟨v, [], A1, A2, rfl, by simp, r1, by simpa using r2⟩
    | succ i =>
      simp only [List.getElem?_cons_succ] at e
      obtain ⟨v', B1, B0, B2, h1, h2, h3, h4⟩ := ih r2 e
      refine ⟨v', A1 ++ B1, B0, B2, by simpa using h1, by rw [h2]; simp, h3, ?_⟩
      simpa only [List.eraseIdx_cons_succ, List.append_assoc] using RepL.cons r1 h4
theorem PostE.weak (s : PostE K p F H B env σ As F' H' env' As') : PostE K false F H B env σ As F' H' env' As' := ⟨s.ext, s.so, s.keep, fun z => Bool.noConfusion z⟩
theorem nodup3 {A1 A0 A2 : List Addr} (h : (A1 ++ A0 ++ A2).Nodup) : (A1 ++ A2).Nodup := by
  have : (A1 ++ A2).Sublist (A1 ++ A0 ++ A2) := by
    rw [List.append_assoc]
    exact List.Sublist.append_left (List.sublist_append_right _ _) _
  exact this.nodup h
end
def ownL : Option (Option D) → (List D → Prop) → Prop
  | some (some (.obj true .lst xs)), k => k xs
  | _, _ => False
def ownD : D → (List D → Prop) → Prop
  | .obj true .lst xs, k => k xs
  | _, _ => False
theorem ownL_inv {o : Option (Option D)} {k : List D → Prop} (h : ownL o k) : ∃ xs, o = some (some (.obj true .lst xs)) ∧ k xs := by
  unfold ownL at h
  split at h
  · exact ⟨_, rfl, h⟩
  · exact h.elim
theorem ownD_inv {o : D} {k : List D → Prop} (h : ownD o k) : ∃ xs, o = .obj true .lst xs ∧ k xs := by
  unfold ownD at h
  split at h
  · exact ⟨_, rfl, h⟩
  · exact h.elim
section
variable {X : Cx} {p : Bool} {kp : List Nat} {e o b : Expr} {es : List Expr} {wm : WM} {we wi : WE} {pos apos cpos : Pos}
theorem Foc.tyL {K : PySem.W.Frag} {F H : Hp} {d : D} {v0 : V} {A : List Addr} {u : D → D} {xs : List D} {v : V} {A' : List Addr} (f : Foc K F H d v0 A u (.obj true .lst xs) v A') : ∃ p vs, v = .ref p ∧ H p = some (.lst vs) := by
  obtain ⟨A1, A2, _, r, _⟩ := f
  cases r with
  | own hc _ => exact ⟨_, _, rfl, hc⟩
/-- append, by states -/
theorem append_core {K : PySem.W.Frag} {F H : Hp} {B : Addr → Prop} {env : En} {σ : St} {As : List (List Addr)} {i : Nat} {d : D} {v0 v yv : V} {A A' ay : List Addr} {u : D → D} {xs : List D} {y : D} {kf : Bool} {R : D → En → Prop} {Q : VK}
    (s : SO K F H B env σ As) (g1 : env[i]? = some (some d)) (g2 : σ[i]? = some (some v0)) (g3 : As[i]? = some A) (f : Foc K F H d v0 A u (.obj true .lst xs) v A') (t : TO K F H B As y yv ay) (hl : xs.length < sizeLine)
    (h : R .non (env.set i (some (u (.lst true (xs ++ [inK kf y])))))) (k : ∀ H' F' As', PostE K false F H B env σ As F' H' (env.set i (some (u (.lst true (xs ++ [inK kf y]))))) As' → Q .non H') : rAppend v [yv] H Q := by
  obtain ⟨F4, a4, po4, t4, sub4⟩ := in_ok kf s t
  have f4 := f.frame po4.ext fun x hx => rfl
  obtain ⟨q, vs, A3, rfl, hq, r, nd3, ap, go⟩ := list_core po4.so g1 g2 g3 f4 t4.nd t4.fr t4.nb
  obtain ⟨As', s', kb, _⟩ := go _ _ _ (r.app (.one t4.rep)) (List.nodup_append.mpr ⟨nd3, (List.nodup_append.mp t4.nd).1, fun x hx y hy e => ap x hx (e ▸ hy)⟩) fun x hx => List.mem_append.mp hx
  refine ⟨q, vs, yv, rfl, rfl, hq, by rw [← r.length]; exact hl, ?_⟩
  exact k _ F4 As' ⟨po4.ext, s', fun b hb => (kb b hb).trans (po4.keep b hb), fun z => nomatch z⟩
/-- name.append(e) -/
def wAppN (kf : Bool) (i : Nat) (we : WE) : WE := fun env R => ownL (env[i]?) fun _ => we env fun y e1 => ownL (e1[i]?) fun xs => xs.length < sizeLine ∧ R .non (e1.set i (some (.lst true (xs ++ [inK kf y]))))
theorem de_appN {kf : Bool} {i : Nat} (ho : PE X o (tVar i)) (he : DE p X e we)
    (hbase : attributeBase o "append" X.env (eval o X.env) = eval o X.env := by rfl)
    (hfew : ((backTo cpos (starEach (e :: []) X.env)).all (fun x => !x.1) && (backToKw cpos (keywordEach [] X.env)).all (fun x => x.1.isSome)
      && decide ((e :: []).length + ([] : List Keyword).length + (if ([] : List Keyword).isEmpty then 0 else 1) < 30)) = true := by rfl)
    (hline : (apos.endLine == cpos.line) = true := by rfl) (hs : starEach (e :: []) X.env = (false, eval e X.env) :: starEach [] X.env := by rfl) (hplain : (backTo cpos (starEach [] X.env)).any (·.1) = false := by rfl) :
    DE false X (.Call (.Attribute o "append" apos) [e] [] cpos) (wAppN kf i we) := by
  refine ⟨PEimp (pe_bm PySem.F.plainAttrs_list PySem.F.slot_list_append PySem.F.type_list_append mt_append ho (pa_cons he.pe pa_nil hs) hbase hfew hline hs hplain) ?_⟩
  rintro σ H Q ⟨F, B, env, As, R, s, hw, k⟩
  obtain ⟨xs0, e0, hw⟩ := ownL_inv hw
  obtain ⟨v, A0, h1, h2, h3⟩ := s.env.get e0
  obtain ⟨q, vs, e1, e2⟩ := (Foc.root h3).tyL
  subst e1
  refine ⟨_, h1, .inl ⟨rfl, vs, .of e2⟩, F, B, env, As, _, s, hw, fun yv H1 F1 As1 ay y env1 po1 t1 g => ?_⟩
  obtain ⟨xs, g1, hl, g⟩ := ownL_inv g
  obtain ⟨v', A, g2, g3, g4⟩ := po1.so.env.get g1
  rw [h1] at g2; cases g2
  exact append_core (kf := kf) po1.so g1 h1 g3 (.root g4) t1 hl g fun H' F' As' po => k _ H' F' As' [] _ _ (po1.weak.trans po) (.sc po.so _) g
/-- place.append(e), e pure -/
def wAppP (kf : Bool) (wm : WM) (we : WE) : WE := fun env R => wm env fun i d u => ownD d fun xs => we env fun y e1 => xs.length < sizeLine ∧ R .non (e1.set i (some (u (.lst true (xs ++ [inK kf y])))))
theorem de_appP {kf : Bool} (ho : DM X o wm) (he : DE true X e we)
    (hbase : attributeBase o "append" X.env (eval o X.env) = eval o X.env := by rfl)
    (hfew : ((backTo cpos (starEach (e :: []) X.env)).all (fun x => !x.1) && (backToKw cpos (keywordEach [] X.env)).all (fun x => x.1.isSome)
      && decide ((e :: []).length + ([] : List Keyword).length + (if ([] : List Keyword).isEmpty then 0 else 1) < 30)) = true := by rfl)
    (hline : (apos.endLine == cpos.line) = true := by rfl) (hs : starEach (e :: []) X.env = (false, eval e X.env) :: starEach [] X.env := by rfl) (hplain : (backTo cpos (starEach [] X.env)).any (·.1) = false := by rfl) :
    DE false X (.Call (.Attribute o "append" apos) [e] [] cpos) (wAppP kf wm we) := by
  refine ⟨PEimp (pe_bm PySem.F.plainAttrs_list PySem.F.slot_list_append PySem.F.type_list_append mt_append ho.pe (pa_cons he.pe pa_nil hs) hbase hfew hline hs hplain) ?_⟩
  rintro σ H Q ⟨F, B, env, As, R, s, hw, k⟩
  refine ⟨F, B, env, As, _, s, hw, fun v H1 F1 i d v0 A u d' A' po1 g1 g2 g3 f h1 => ?_⟩
  obtain ⟨xs, rfl, h1⟩ := ownD_inv h1
  obtain ⟨q, vs, rfl, e2⟩ := f.tyL
  refine ⟨.inl ⟨rfl, vs, .of e2⟩, F1, B, env, As, _, po1.so, h1, fun yv H2 F2 As2 ay y env2 po2 t2 g => ?_⟩
  obtain ⟨z1, z2, z3⟩ := po2.pure rfl
  subst z1 z2
  have f2 := f.frame po2.ext fun x hx => z3 x (mem_of_slot g3 hx)
  exact append_core (kf := kf) po2.so g1 g2 g3 f2 t2 g.1 g.2 fun H' F' As' po => k _ H' F' As' [] _ _ ((po1.trans po2).weak.trans po) (.sc po.so _) g.2
/-- extend, by states -/
theorem extend_core {K : PySem.W.Frag} {F H : Hp} {B : Addr → Prop} {env : En} {σ : St} {As : List (List Addr)} {i : Nat} {d : D} {v0 v yv : V} {A A' ay : List Addr} {u : D → D} {xs ys : List D} {o : Bool} {R : D → En → Prop} {Q : VK}
    (s : SO K F H B env σ As) (g1 : env[i]? = some (some d)) (g2 : σ[i]? = some (some v0)) (g3 : As[i]? = some A) (f : Foc K F H d v0 A u (.obj true .lst xs) v A') (t : TO K F H B As (.obj o .lst ys) yv ay) (hz : D.fzL ys = true) (hl : xs.length + ys.length ≤ sizeLine)
    (k : ∀ H' F' As', PostE K false F H B env σ As F' H' (env.set i (some (u (.lst true (xs ++ ys))))) As' → Q .non H') : rExtend v [yv] H Q := by
  obtain ⟨q, vs, A3, rfl, hq, r, nd3, ap, go⟩ := list_core s g1 g2 g3 f t.nd t.fr t.nb
  obtain ⟨q2, us, a', rfl, e2, r2⟩ := t.rep.lst_inv s.same
  obtain ⟨As', s', kb, _⟩ := go _ _ _ (r.app (r2.fz_mem hz)) (by simpa using nd3) fun x hx => .inl (by simpa using hx)
  refine ⟨q, q2, vs, us, rfl, rfl, hq, e2, by rw [← r.length, ← r2.length]; exact hl, ?_⟩
  exact k _ F As' ⟨Same.refl _, s', kb, fun z => nomatch z⟩
def wExtN (i : Nat) (we : WE) : WE := fun env R => ownL (env[i]?) fun _ => we env fun y e1 => ownL (e1[i]?) fun xs => match y with
  | .obj _ .lst ys => D.fzL ys = true ∧ xs.length + ys.length ≤ sizeLine ∧ R .non (e1.set i (some (.lst true (xs ++ ys))))
  | _ => False
theorem de_extN {i : Nat} (ho : PE X o (tVar i)) (he : DE p X e we)
    (hbase : attributeBase o "extend" X.env (eval o X.env) = eval o X.env := by rfl)
    (hfew : ((backTo cpos (starEach (e :: []) X.env)).all (fun x => !x.1) && (backToKw cpos (keywordEach [] X.env)).all (fun x => x.1.isSome)
      && decide ((e :: []).length + ([] : List Keyword).length + (if ([] : List Keyword).isEmpty then 0 else 1) < 30)) = true := by rfl)
    (hline : (apos.endLine == cpos.line) = true := by rfl) (hs : starEach (e :: []) X.env = (false, eval e X.env) :: starEach [] X.env := by rfl) (hplain : (backTo cpos (starEach [] X.env)).any (·.1) = false := by rfl) :
    DE false X (.Call (.Attribute o "extend" apos) [e] [] cpos) (wExtN i we) := by
  refine ⟨PEimp (pe_bm PySem.F.plainAttrs_list PySem.F.slot_list_extend PySem.F.type_list_extend mt_extend ho (pa_cons he.pe pa_nil hs) hbase hfew hline hs hplain) ?_⟩
  rintro σ H Q ⟨F, B, env, As, R, s, hw, k⟩
  obtain ⟨xs0, e0, hw⟩ := ownL_inv hw
  obtain ⟨v, A0, h1, h2, h3⟩ := s.env.get e0
  obtain ⟨q, vs, e1, e2⟩ := (Foc.root h3).tyL
  subst e1
  refine ⟨_, h1, .inl ⟨rfl, vs, .of e2⟩, F, B, env, As, _, s, hw, fun yv H1 F1 As1 ay y env1 po1 t1 g => ?_⟩
  obtain ⟨xs, g1, g⟩ := ownL_inv g
  obtain ⟨v', A, g2, g3, g4⟩ := po1.so.env.get g1
  rw [h1] at g2; cases g2
  split at g
  · exact extend_core (R := R) po1.so g1 h1 g3 (.root g4) t1 g.1 g.2.1 fun H' F' As' po => k _ H' F' As' [] _ _ (po1.weak.trans po) (.sc po.so _) g.2.2
  · exact g.elim
def wExtP (wm : WM) (we : WE) : WE := fun env R => wm env fun i d u => ownD d fun xs => we env fun y e1 => match y with
  | .obj _ .lst ys => D.fzL ys = true ∧ xs.length + ys.length ≤ sizeLine ∧ R .non (e1.set i (some (u (.lst true (xs ++ ys)))))
  | _ => False
theorem de_extP (ho : DM X o wm) (he : DE true X e we)
    (hbase : attributeBase o "extend" X.env (eval o X.env) = eval o X.env := by rfl)
    (hfew : ((backTo cpos (starEach (e :: []) X.env)).all (fun x => !x.1) && (backToKw cpos (keywordEach [] X.env)).all (fun x => x.1.isSome)
      && decide ((e :: []).length + ([] : List Keyword).length + (if ([] : List Keyword).isEmpty then 0 else 1) < 30)) = true := by rfl)
    (hline : (apos.endLine == cpos.line) = true := by rfl) (hs : starEach (e :: []) X.env = (false, eval e X.env) :: starEach [] X.env := by rfl) (hplain : (backTo cpos (starEach [] X.env)).any (·.1) = false := by rfl) :
    DE false X (.Call (.Attribute o "extend" apos) [e] [] cpos) (wExtP wm we) := by
  refine ⟨PEimp (pe_bm PySem.F.plainAttrs_list PySem.F.slot_list_extend PySem.F.type_list_extend mt_extend ho.pe (pa_cons he.pe pa_nil hs) hbase hfew hline hs hplain) ?_⟩
  rintro σ H Q ⟨F, B, env, As, R, s, hw, k⟩
  refine ⟨F, B, env, As, _, s, hw, fun v H1 F1 i d v0 A u d' A' po1 g1 g2 g3 f h1 => ?_⟩
  obtain ⟨xs, rfl, h1⟩ := ownD_inv h1
  obtain ⟨q, vs, rfl, e2⟩ := f.tyL
  refine ⟨.inl ⟨rfl, vs, .of e2⟩, F1, B, env, As, _, po1.so, h1, fun yv H2 F2 As2 ay y env2 po2 t2 g => ?_⟩
  obtain ⟨z1, z2, z3⟩ := po2.pure rfl
  subst z1 z2
  have f2 := f.frame po2.ext fun x hx => z3 x (mem_of_slot g3 hx)
  split at g
  · exact extend_core (R := R) po2.so g1 g2 g3 f2 t2 g.1 g.2.1 fun H' F' As' po => k _ H' F' As' [] _ _ ((po1.trans po2).weak.trans po) (.sc po.so _) g.2.2
  · exact g.elim
/-- place.pop() -/
def wPop (wm : WM) : WE := fun env R => wm env fun i d u => ownD d fun xs => ∃ x, xs[xs.length - 1]? = some x ∧ x.fz = true ∧ R x (env.set i (some (u (.lst true xs.dropLast))))
theorem de_pop (ho : DM X o wm) (hbase : attributeBase o "pop" X.env (eval o X.env) = eval o X.env := by rfl) (hline : (apos.endLine == cpos.line) = true := by rfl) :
    DE false X (.Call (.Attribute o "pop" apos) [] [] cpos) (wPop wm) := by
  refine ⟨PEimp (pe_bm0 PySem.F.plainAttrs_list PySem.F.slot_list_pop PySem.F.type_list_pop mt_pop ho.pe hbase hline) ?_⟩
  rintro σ H Q ⟨F, B, env, As, R, s, hw, k⟩
  refine ⟨F, B, env, As, _, s, hw, fun v H1 F1 i d v0 A u d' A' po1 g1 g2 g3 f h1 => ?_⟩
  obtain ⟨xs, rfl, x, hx, z, h1⟩ := ownD_inv h1
  obtain ⟨q, vs, A3, rfl, hq, r, nd3, ap, go⟩ := list_core (a := []) po1.so g1 g2 g3 f (by simpa using po1.so.nd) (fun _ z => nomatch z) (fun _ z => nomatch z)
  obtain ⟨w, A4, A5, A6, h3, h4, h5, h6⟩ := r.erase hx
  have := h5.fzNil z; subst this
  have e5 : ∀ {α : Type} (l : List α), l.eraseIdx (l.length - 1) = l.dropLast := fun l => by
    rw [List.dropLast_eq_take, List.eraseIdx_eq_take_drop_succ, List.drop_eq_nil_of_le (by omega), List.append_nil]
  obtain ⟨As', s', kb, _⟩ := go xs.dropLast vs.dropLast (A4 ++ A6) (by
      rw [← e5 xs, ← e5 vs, ← r.length]
      exact h6) (by rw [h4] at nd3; exact nodup3 nd3) fun x hx => .inl (by rw [h4]; simpa using hx)
  refine ⟨.inl ⟨rfl, vs, .of hq⟩, q, vs, w, rfl, rfl, hq, by rw [← r.length]; exact h3, ?_⟩
  exact k _ _ F1 As' [] x _ ⟨po1.ext, s', fun b hb => (kb b hb).trans (po1.keep b hb), fun z => nomatch z⟩ (.fz (h5.frame (Same.refl _) fun _ z => nomatch z) s') h1
/-- place.pop(i) -/
def wPopAt (wm : WM) (wi : WE) : WE := fun env R => wm env fun i d u => ownD d fun xs => wi env fun k e1 => asI k fun kk => -(2 ^ 63) ≤ kk ∧ kk < 2 ^ 63 ∧ ∃ j x, L2.ixN xs.length kk = some j ∧ xs[j]? = some x ∧ x.fz = true ∧ R x (e1.set i (some (u (.lst true (xs.eraseIdx j)))))
theorem de_popAt (ho : DM X o wm) (hi : DE true X e wi) (hbase : attributeBase o "pop" X.env (eval o X.env) = eval o X.env := by rfl)
    (hfew : ((backTo cpos (starEach (e :: []) X.env)).all (fun x => !x.1) && (backToKw cpos (keywordEach [] X.env)).all (fun x => x.1.isSome)
      && decide ((e :: []).length + ([] : List Keyword).length + (if ([] : List Keyword).isEmpty then 0 else 1) < 30)) = true := by rfl)
    (hline : (apos.endLine == cpos.line) = true := by rfl) (hs : starEach (e :: []) X.env = (false, eval e X.env) :: starEach [] X.env := by rfl) (hplain : (backTo cpos (starEach [] X.env)).any (·.1) = false := by rfl) :
    DE false X (.Call (.Attribute o "pop" apos) [e] [] cpos) (wPopAt wm wi) := by
  refine ⟨PEimp (pe_bm PySem.F.plainAttrs_list PySem.F.slot_list_pop PySem.F.type_list_pop mt_popAt ho.pe (pa_cons hi.pe pa_nil hs) hbase hfew hline hs hplain) ?_⟩
  rintro σ H Q ⟨F, B, env, As, R, s, hw, k⟩
  refine ⟨F, B, env, As, _, s, hw, fun v H1 F1 i d v0 A u d' A' po1 g1 g2 g3 f h1 => ?_⟩
  obtain ⟨xs, rfl, h1⟩ := ownD_inv h1
  obtain ⟨q0, vs0, e0, e2⟩ := f.tyL
  subst e0
  refine ⟨.inl ⟨rfl, vs0, .of e2⟩, F1, B, env, As, _, po1.so, h1, fun yv H2 F2 As2 ay y env2 po2 t2 g => ?_⟩
  obtain ⟨z1, z2, z3⟩ := po2.pure rfl
  subst z1 z2
  obtain ⟨kk, rfl, hk1, hk2, j, x, hj, hx, z, g⟩ := asI_inv g
  obtain ⟨rfl, _⟩ := t2.rep.sc_inv
  have f2 := f.frame po2.ext fun x hx => z3 x (mem_of_slot g3 hx)
  obtain ⟨q, vs, A3, e1, hq, r, nd3, ap, go⟩ := list_core (a := []) po2.so g1 g2 g3 f2 (by simpa using po2.so.nd) (fun _ z => nomatch z) (fun _ z => nomatch z)
  cases e1
  obtain ⟨w, A4, A5, A6, h3, h4, h5, h6⟩ := r.erase hx
  have := h5.fzNil z; subst this
  obtain ⟨As', s', kb, _⟩ := go _ _ (A4 ++ A6) h6 (by rw [h4] at nd3; exact nodup3 nd3) fun x hx => .inl (by rw [h4]; simpa using hx)
  have hj2 := ixN_seq hj
  refine ⟨q0, vs, kk, j, w, rfl, rfl, hq, hk1, hk2, by rw [← r.length]; exact hj2.1, h3, ?_⟩
  exact k _ _ F2 As' [] x _ ⟨po1.ext.trans po2.ext, s', fun b hb => (kb b hb).trans ((po2.keep b hb).trans (po1.keep b hb)), fun z => nomatch z⟩ (.fz (h5.frame (Same.refl _) fun _ z => nomatch z) s') g
end
end PL

/-! PLh: o[i] op= e, while, for, comprehensions. -/
namespace PL
open PySem L2
open PySem.Spec PyProof.Rows in
theorem get_list {X : Cx} : PGet X (rIxL X.K) := by
  intro pins s σ H x y v u Q I rx ry h
  obtain ⟨p, xs, i, z, rfl, rfl, hq, he, q⟩ := h
  cases rx
  obtain ⟨t, rfl⟩ := ry
  obtain ⟨its, r, pl, hz⟩ := I.list hq
  obtain ⟨j, h1, h2, h3, h4, h5⟩ := atI_get he
  obtain ⟨w, ew, rw'⟩ := r.get h2
  have hl := r.length
  have hn := line63
  have fin : EP X pins σ Q w s := ⟨z, H, I, rw', q⟩
  by_cases h0 : 0 ≤ i
  · have hj : i.toNat = j := by
      rw [seqIndex_of h0 h5] at h1
      exact Option.some.inj h1
    exact wpAny_getItem_list pl.isList h0 (by omega) (by rw [hj]; simpa using ew) fin
  · have hj : (i + (its.toArray.size : Int)).toNat = j := by
      rw [seqIndex_neg (by omega) h4] at h1
      rw [List.size_toArray, ← hl]
      exact Option.some.inj h1
    exact wpAny_getItem_list_neg pl.isList (by omega) (by rw [List.size_toArray] <;> omega) (by omega) (by rw [hj]; simpa using ew) fin
section
variable {X : Cx} {p : Bool} {kp : List Nat} {e o b : Expr} {wm : WM} {we wi : WE} {pos : Pos}
/-- place[i] op= e, e pure -/
def sAugIx (rd : RD2) (wm : WM) (wi we : WE) : WS := fun env RD => wm env fun i d u => ownD d fun xs => wi env fun k _ => asI k fun kk => ∃ j x, L2.ixN xs.length kk = some j ∧ xs[j]? = some x ∧ x.fz = true ∧
  we env fun y e1 => rd x y fun z => RD.nx (e1.set i (some (u (.lst true (xs.set j z)))))
theorem ds_augix {op : Operator} {r : R2} {rd : RD2} {tpos : Pos} (ho : DM X o wm) (hi : DE true X b wi) (he : DE true X e we) (hop : OpR X (inplaceOp op) r) (hr : Snd2 X.K r rd)
    (ha : ∀ ov iv new, augStore b ov iv new = (do holding [new, ov, iv] (setItem ov iv new); release [new, ov, iv] []; pure .next) := by intros; rfl) : DS kp X (.AugAssign (.Subscript o b tpos) op e pos) (sAugIx rd wm wi we) := by
  refine ⟨PSimp (ps_augS ho.pe hi.pe get_list he.pe (show PIp X op r from hop) set_list ha) ?_⟩
  rintro D σ H ⟨F, B, env, As, RD, s, hw, k1, k2, k3, k4⟩
  refine ⟨F, B, env, As, _, s, hw, fun v H1 F1 i d v0 A u d' A' po1 g1 g2 g3 f h1 => ?_⟩
  obtain ⟨xs, rfl, h1⟩ := ownD_inv h1
  refine ⟨F1, B, env, As, _, po1.so, h1, fun iv H2 F2 As2 ai kd env2 po2 t2 h2 => ?_⟩
  obtain ⟨z1, z2, z3⟩ := po2.pure rfl
  subst z1 z2
  obtain ⟨kk, rfl, j, x, hj, hx, z, h2⟩ := asI_inv h2
  obtain ⟨rfl, _⟩ := t2.rep.sc_inv
  have f2 := f.frame po2.ext fun x hx => z3 x (mem_of_slot g3 hx)
  obtain ⟨q, vs, w, A0, rfl, hq, hw2, hl, f3⟩ := f2.item hx
  obtain ⟨B1, B2, eB, r3, _⟩ := id f3
  have := r3.fzNil z; subst this
  refine ⟨q, vs, kk, w, rfl, rfl, .of hq, by unfold L2.atI; rw [← hl, hj]; exact hw2, ?_⟩
  refine ⟨F2, B, env2, As2, _, po2.so, h2, fun yv H3 F3 As3 ay y env3 po3 t3 h3 => ?_⟩
  obtain ⟨z1, z2, z3⟩ := po3.pure rfl
  subst z1 z2
  refine hr po3.so (r3.frame po3.ext fun _ z => nomatch z) t3.rep h3 fun zv H4 F4 az zd po4 t4 h4 => ?_
  have po34 := po3.trans po4
  have f4 := f2.frame po34.ext fun x hx => (po34.pure rfl).2.2 x (mem_of_slot g3 hx)
  refine set_core po4.so g1 g2 g3 f4 t4 hj h4 fun H5 As5 s5 kb h5 => ?_
  exact k1 σ H5 F4 As5 _ ⟨(po1.trans po2).ext.trans po34.ext, s5, fun b hb => (kb b hb).trans ((po34.keep b hb).trans ((po1.trans po2).keep b hb)), fun _ _ => rfl, rfl⟩ h5

/-! ### while -/
def sWhile (wt : WT) (wb : WS) : WS := fun env RD => ∃ I : Nat → En → Prop, (∃ m, I m env) ∧ ∀ m env, I m env → wt env fun c e1 => if c = true then wb e1 { RD with nx := fun e2 => ∃ m', m' < m ∧ I m' e2, ct := fun e2 => ∃ m', m' < m ∧ I m' e2, bk := RD.nx } else RD.nx e1
theorem ds_while {c : Expr} {body : List Stmt} {wt : WT} {wb : WS} (hp : PassesOwn (model X.prog X.w) X.A X.env X.xe) (hc : DT p X c wt) (hb : DSs kp X body wb) : DS kp X (.While c body [] pos) (sWhile wt wb) := by
  refine ⟨PSimp (ps_while hp hc.pt hb.ps) ?_⟩
  rintro D σ H ⟨F, B, env, As, RD, s, ⟨I, ⟨m0, h0⟩, turn⟩, k1, k2, k3, k4⟩
  refine ⟨fun m σ' H' => ∃ F' As' env', PostS X.K kp F H B σ F' H' env' σ' As' ∧ I m env', ⟨m0, F, As, env, .refl s, h0⟩, ?_⟩
  rintro m σ1 H1 ⟨F1, As1, env1, po1, h1⟩
  refine ⟨F1, B, env1, As1, _, po1.so, turn m env1 h1, fun b H2 F2 As2 e2 po2 h2 => ?_⟩
  have po12 := po1.trans (po2.ps (kp := kp))
  cases b with
  | false => exact k1 σ1 H2 F2 As2 e2 po12 h2
  | true =>
    refine ⟨fun σ' H' => ∃ F' As' env', PostS X.K kp F H B σ F' H' env' σ' As' ∧ ∃ m', m' < m ∧ I m' env', fun σ' H' ⟨F', As', env', po, m', lt, h⟩ => ⟨m', lt, F', As', env', po, h⟩, ?_⟩
    refine ⟨F2, B, e2, As2, _, po12.so, h2, fun σ3 H3 F3 As3 e3 po3 h3 => ⟨F3, As3, e3, po12.trans po3, h3⟩, fun σ3 H3 F3 As3 e3 po3 h3 => k1 σ3 H3 F3 As3 e3 (po12.trans po3) h3,
      fun σ3 H3 F3 As3 e3 po3 h3 => ⟨F3, As3, e3, po12.trans po3, h3⟩, fun v σ3 H3 F3 As3 a d e3 po3 t3 h3 => k4 v σ3 H3 F3 As3 a d e3 (po12.trans po3) t3 h3⟩

/-! ### what is walked -/
/-- what a turn yields: a thing at hand; a new tuple; a new tuple of a number and a new tuple -/
inductive Yld (K : PySem.W.Frag) (F H H' : Hp) (x : V) (d : D) : Prop
  | inl (h : H' = H ∧ Rep K F H d x [])
  | inr (h : ∃ T vs ds, H T = none ∧ H' = upd H T (.tup vs) ∧ x = .ref T ∧ d = .tup ds ∧ RepL K F H ds vs [])
  | two (h : ∃ T T2 vs ds, ∃ n : Int, H T = none ∧ H T2 = none ∧ T2 ≠ T ∧ H' = upd (upd H T (.tup vs)) T2 (.tup [.int n, .ref T]) ∧ x = .ref T2 ∧ d = .tup [.int n, .tup ds] ∧ RepL K F H ds vs [])
structure ItOk (K : PySem.W.Frag) (F : Hp) (J : It) (items : List D) : Prop where
  go : ∀ (i : Nat) (H : Hp), Same F H → i < items.length → J.go i H
  stop : ∀ (i : Nat) (H : Hp), Same F H → items.length ≤ i → J.stop i H
  yld : ∀ (i : Nat) (x : V) (H H' : Hp), J.yld i H x H' → Same F H → ∀ d, items[i]? = some d → Yld K F H H' x d
abbrev WI := En → (List D → En → Prop) → Prop
def liftI (K : PySem.W.Frag) (p : Bool) (w : WI) : TI := fun σ H Rr => ∃ F B env As R, SO K F H B env σ As ∧ w env R ∧
  ∀ J H' F' As' env' items, PostE K p F H B env σ As F' H' env' As' → ItOk K F' J items → R items env' → Rr J H'
structure DI (p : Bool) (X : Cx) (tg iter : Expr) (w : WI) : Prop where
  pi : PI X tg iter (liftI X.K p w)
theorem PIimp {X : Cx} {tg e : Expr} {t t' : TI} (h : PI X tg e t) (i : ∀ σ H Q, t' σ H Q → t σ H Q) : PI X tg e t' := ⟨fun pins s σ H Q I q => h.run pins s σ H Q I (i σ H Q q)⟩
/-- an item, as a value at hand -/
theorem ItOk.item {K : PySem.W.Frag} {F F' H H' : Hp} {B : Addr → Prop} {env : En} {σ : St} {As : List (List Addr)} {J : It} {items : List D} {i : Nat} {x : V} {d : D} (it : ItOk K F J items) (s : SO K F' H B env σ As) (e : Same F F') (y : J.yld i H x H') (hd : items[i]? = some d) :
    ∃ F2, PostE K true F' H B env σ As F2 H' env As ∧ TO K F2 H' B As d x [] := by
  rcases it.yld i x H H' y (e.trans s.same) d hd with ⟨rfl, r⟩ | ⟨T, vs, ds, hT, rfl, rfl, rfl, r⟩ | ⟨T, T2, vs, ds, n, hT, hT2, hne, rfl, rfl, rfl, r⟩
  · exact ⟨F', .refl s, .fz (r.frame e fun _ z => nomatch z) s⟩
  · have po := s.newF (o := .tup vs) hT
    exact ⟨_, po, .fz (.tup upd_same (r.frame (e.trans po.ext) fun _ z => nomatch z)) po.so⟩
  · have po := s.newF (o := .tup vs) hT
    have po2 := po.so.newF (o := .tup [.int n, .ref T]) (show upd H T (.tup vs) T2 = none by rw [upd_ne hne]; exact hT2)
    have r2 := r.frame (e.trans (po.trans po2).ext) (H' := upd (upd H T (.tup vs)) T2 (.tup [.int n, .ref T])) fun _ z => nomatch z
    exact ⟨_, po.trans po2, .fz (.tup upd_same (.cons (A := []) (B := []) .sc (.one (.tup (by rw [upd_ne hne.symm]; exact upd_same) r2)))) po2.so⟩
/-- the items of a list or a tuple -/
def seqOf : D → (List D → Prop) → Prop
  | .obj _ sh xs, k => isSeq sh = true ∧ k (D.frzL xs)
  | .tup xs, k => k (D.frzL xs)
  | _, _ => False
def iSeq (we : WE) : WI := fun env R => we env fun d e1 => seqOf d fun xs => R xs e1
theorem itl_ok {K : PySem.W.Frag} {F H0 : Hp} {a : Addr} {xs : List D} {vs : List V} (h : SqL K F a vs) (r : RepL K F H0 xs vs []) : ItOk K F (Itl K a) xs where
  go := fun i H s hi => ⟨vs, vs[i]'(by rw [← r.length]; exact hi), s.seq h, by simp [← r.length, hi]⟩
  stop := fun i H s hi => ⟨vs, s.seq h, by rw [← r.length]; exact hi⟩
  yld := fun i x H H' ⟨e, y⟩ s d hd => by
    obtain ⟨w, hw, rw'⟩ := r.fz_get hd
    have := y vs (s.seq h)
    rw [hw] at this; cases this
    exact .inl ⟨e, rw'.frame (Same.refl _) fun _ z => nomatch z⟩
theorem itt_ok {K : PySem.W.Frag} {F H0 : Hp} {a : Addr} {xs : List D} {vs : List V} (h : SqT K F a vs) (r : RepL K F H0 xs vs []) : ItOk K F (Itt K a) xs where
  go := fun i H s hi => ⟨vs, vs[i]'(by rw [← r.length]; exact hi), Same.sqT s h, by simp [← r.length, hi]⟩
  stop := fun i H s hi => ⟨vs, Same.sqT s h, by rw [← r.length]; exact hi⟩
  yld := fun i x H H' ⟨e, y⟩ s d hd => by
    obtain ⟨w, hw, rw'⟩ := r.fz_get hd
    have := y vs (Same.sqT s h)
    rw [hw] at this; cases this
    exact .inl ⟨e, rw'.frame (Same.refl _) fun _ z => nomatch z⟩
theorem Rep.frz_seq {K : PySem.W.Frag} {F H : Hp} {o : Bool} {sh : Sh} {xs : List D} {v : V} {a : List Addr} (hs : isSeq sh = true) (r : Rep K F H (.obj false sh xs) v a) : ∃ p vs, v = .ref p ∧ SqL K F p vs ∧ RepL K F H xs vs [] := by
  cases r with
  | frz h r =>
    cases sh with
    | lst => exact ⟨_, _, rfl, .of h, r⟩
    | sq => exact ⟨_, _, rfl, h, r⟩
    | _ => cases hs
def iSeqT (K : PySem.W.Frag) (tl : TE) : TI := fun σ H R => tl σ H fun x H1 => ∃ a, x = .ref a ∧ (((∃ xs, SqL K H1 a xs) ∧ R (Itl K a) H1) ∨ ((∃ xs, SqT K H1 a xs) ∧ R (Itt K a) H1))
open PySem.Spec PyProof.Rows in
theorem pi_seq {X : Cx} {tg l : Expr} {tl : TE} (hl : PE X l tl) : PI X tg l (iSeqT X.K tl) := by
  refine ⟨fun pins s σ H R I h => ?_⟩
  refine thn (hl.run pins s σ H _ I h) fun v s1 ⟨x, H1, I1, r1, q1⟩ => ?_
  obtain ⟨a, e, q⟩ := q1
  subst e
  cases r1
  have fp : ∀ b ∈ [s1.heap.objs.size], FpOk X pins H1 b := fun b hb => by
    have e : b = s1.heap.objs.size := by simpa using hb
    subst e
    exact I1.fpOk (Nat.le_refl _) (I1.hok.fresh (Nat.le_refl _))
  rcases q with ⟨⟨xs, hq⟩, q⟩ | ⟨⟨xs, hq⟩, q⟩
  · obtain ⟨its, rv, p, hz⟩ := I1.list hq
    refine wpAny_pyIter_list p.isList ?_
    exact ⟨s1.heap.objs.size, [s1.heap.objs.size], _, _, H1, rfl, I1.kept (t' := s1.toks) fun b o e => Heap.get?_push_of_some _ e, turn_list a _, ⟨_, Heap.get?_push_size _ rfl, rfl, rfl⟩, fp, q⟩
  · obtain ⟨its, rv, p, hz⟩ := I1.tuple hq
    refine wpAny_pyIter_tuple (show s1.heap.IsTuple a its.toArray from p) ?_
    exact ⟨s1.heap.objs.size, [s1.heap.objs.size], _, _, H1, rfl, I1.kept (t' := s1.toks) fun b o e => Heap.get?_push_of_some _ e, turn_tuple a _, ⟨_, Heap.get?_push_size _ rfl, rfl, rfl⟩, fp, q⟩
theorem di_seq {tg : Expr} (h : DE p X e we) : DI p X tg e (iSeq we) := by
  refine ⟨PIimp (pi_seq h.pe) ?_⟩
  rintro σ H Q ⟨F, B, env, As, R, s, hw, k⟩
  refine ⟨F, B, env, As, _, s, hw, fun v H1 F1 As1 a d e1 po1 t1 h1 => ?_⟩
  unfold seqOf at h1
  obtain ⟨po2, r2⟩ := po1.so.freeze t1
  have po12 := po1.trans (po2.imp fun _ => rfl)
  split at h1
  · obtain ⟨hs, h1⟩ := h1
    obtain ⟨q, vs, rfl, hq, rr⟩ := Rep.frz_seq (o := false) hs r2
    exact ⟨q, rfl, .inl ⟨⟨vs, po2.so.same.seq hq⟩, k _ H1 _ As1 e1 _ po12 (itl_ok hq rr) h1⟩⟩
  · cases r2 with
    | @tup q vs _ _ hq rr =>
      have hq := SqT.of (K := X.K) hq
      exact ⟨q, rfl, .inr ⟨⟨vs, Same.sqT po2.so.same hq⟩, k _ H1 _ As1 e1 _ po12 (itt_ok hq rr) h1⟩⟩
  · exact h1.elim
/-- range(n), range(a, b) -/
def rng (lo : Int) (n : Nat) : List D := (List.range n).map fun (i : Nat) => D.int (lo + (i : Int))
theorem rng_get (lo : Int) (n i : Nat) (h : i < n) : (rng lo n)[i]? = some (.int (lo + i)) := by simp [rng, h]
theorem itr_ok {K : PySem.W.Frag} {F : Hp} {lo : Int} {n : Nat} : ItOk K F (Itr lo n) (rng lo n) where
  go := fun i H s hi => show i < n by simpa [rng] using hi
  stop := fun i H s hi => show n ≤ i by simpa [rng] using hi
  yld := fun i x H H' ⟨e, y⟩ s d hd => by
    have hi : i < n := by
      have := (List.getElem?_eq_some_iff.mp hd).1
      simpa [rng] using this
    rw [rng_get lo n i hi] at hd
    cases hd
    subst y
    exact .inl ⟨e, .sc⟩
def as1I : List D → (Int → Prop) → Prop
  | [.sc (.int i)], k => k i
  | _, _ => False
def as2I : List D → (Int → Int → Prop) → Prop
  | [.sc (.int i), .sc (.int j)], k => k i j
  | _, _ => False
def iRng (wa : WA) : WI := fun env R => wa env fun ds e1 => as1I ds fun j => -(2 ^ 62) ≤ j ∧ j < 2 ^ 62 ∧ R (rng 0 j.toNat) e1
theorem di_range {tg a : Expr} {wa : WA} {q : Pos} (hg : Gl X "range") (hm : X.mg "range" = none) (ha : DA p X [a] wa) (hs : starEach [a] X.env = [(false, eval a X.env)] := by rfl) : DI p X tg (.Call (.Name "range" q) [a] [] pos) (iRng wa) := by
  refine ⟨PIimp (pi_range1 hg hm ha.pa hs) ?_⟩
  rintro σ H Q ⟨F, B, env, As, R, s, hw, k⟩
  refine ⟨F, B, env, As, _, s, hw, fun vs H1 F1 As1 a ds e1 po1 t1 h1 => ?_⟩
  unfold as1I at h1
  split at h1
  · obtain ⟨v, rfl, a', r⟩ := t1.rep.one_inv'
    obtain ⟨rfl, _⟩ := r.sc_inv
    exact ⟨_, rfl, h1.1, h1.2.1, k _ H1 F1 As1 e1 _ po1 itr_ok h1.2.2⟩
  · exact h1.elim
def iRng2 (wa : WA) : WI := fun env R => wa env fun ds e1 => as2I ds fun i j => -(2 ^ 62) ≤ i ∧ i < 2 ^ 62 ∧ -(2 ^ 62) ≤ j ∧ j < 2 ^ 62 ∧ R (rng i (j - i).toNat) e1
theorem di_range2 {tg a b : Expr} {wa : WA} {q : Pos} (hg : Gl X "range") (hm : X.mg "range" = none) (ha : DA p X [a, b] wa) (hs : starEach [a, b] X.env = [(false, eval a X.env), (false, eval b X.env)] := by rfl) (hs2 : starEach [b] X.env = [(false, eval b X.env)] := by rfl) : DI p X tg (.Call (.Name "range" q) [a, b] [] pos) (iRng2 wa) := by
  refine ⟨PIimp (pi_range2 hg hm ha.pa hs hs2) ?_⟩
  rintro σ H Q ⟨F, B, env, As, R, s, hw, k⟩
  refine ⟨F, B, env, As, _, s, hw, fun vs H1 F1 As1 a ds e1 po1 t1 h1 => ?_⟩
  unfold as2I at h1
  split at h1
  · obtain ⟨v, v2, rfl, ⟨_, r1⟩, ⟨_, r2⟩⟩ := t1.rep.two_inv
    obtain ⟨rfl, _⟩ := r1.sc_inv
    obtain ⟨rfl, _⟩ := r2.sc_inv
    exact ⟨_, _, rfl, ⟨h1.1, h1.2.1, h1.2.2.1, h1.2.2.2.1⟩, k _ H1 F1 As1 e1 _ po1 itr_ok h1.2.2.2.2⟩
  · exact h1.elim
/-- zip of two lists -/
def zipD (xs ys : List D) : List D := List.zipWith (fun x y => D.tup [x, y]) xs ys
def iZp (wa : WA) : WI := fun env R => wa env fun ds e1 => match ds with
  | [.obj _ sh xs, .obj _ sh2 ys] => isSeq sh = true ∧ isSeq sh2 = true ∧ R (zipD (D.frzL xs) (D.frzL ys)) e1
  | _ => False
theorem zipD_get {xs ys : List D} {i : Nat} {d : D} (h : (zipD xs ys)[i]? = some d) : ∃ x y, xs[i]? = some x ∧ ys[i]? = some y ∧ d = .tup [x, y] := by
  unfold zipD at h
  rw [List.getElem?_zipWith] at h
  cases hx : xs[i]? with
  | none => rw [hx] at h; simp at h
  | some x =>
    cases hy : ys[i]? with
    | none => rw [hx, hy] at h; simp at h
    | some y => rw [hx, hy] at h; simp at h; exact ⟨x, y, rfl, rfl, h.symm⟩
theorem di_zip {e2 : Expr} {wa : WA} {q tpos : Pos} {elts : List Expr} {kk : Nat} (hg : Gl X "zip") (hm : X.mg "zip" = none) (ha : DA p X [e, e2] wa)
    (hs : starEach [e, e2] X.env = (false, eval e X.env) :: starEach [e2] X.env := by rfl) (hpl : (backTo pos (starEach [e2] X.env)).any (·.1) = false := by rfl) :
    DI p X (.Tuple elts kk tpos) (.Call (.Name "zip" q) [e, e2] [] pos) (iZp wa) := by
  refine ⟨PIimp (pi_zip hg hm ha.pa hs hpl) ?_⟩
  rintro σ H Q ⟨F, B, env, As, R, s, hw, k⟩
  refine ⟨F, B, env, As, _, s, hw, fun vs H1 F1 As1 a ds e1 po1 t1 h1 => ?_⟩
  obtain ⟨po2, r2⟩ := po1.so.freezeL t1
  split at h1
  · obtain ⟨hs1, hs2, h1⟩ := h1
    obtain ⟨v, us, A1, A2, rfl, e0, q1, q2⟩ := r2.cons_inv
    obtain ⟨v2, us2, A3, A4, rfl, e3, q3, q4⟩ := q2.cons_inv
    obtain ⟨rfl, _⟩ := q4.nil_inv
    obtain ⟨a1, xs', rfl, hx, rx⟩ := Rep.frz_seq (o := false) hs1 q1
    obtain ⟨a2, ys', rfl, hy, ry⟩ := Rep.frz_seq (o := false) hs2 q3
    refine ⟨a1, a2, xs', ys', rfl, po2.so.same.seq hx, po2.so.same.seq hy, k _ H1 _ As1 e1 _ (po1.trans (po2.imp fun _ => rfl)) ⟨fun i H sm hi => ?_, fun i H sm hi => ?_, fun i x H H' y sm d hd => ?_⟩ h1⟩
    · have hz : i < (zipD (D.frzL _) (D.frzL _)).length := hi
      obtain ⟨x, y, h3, h4, _⟩ := zipD_get (List.getElem?_eq_getElem hz)
      obtain ⟨w1, g1, _⟩ := rx.fz_get h3
      obtain ⟨w2, g2, _⟩ := ry.fz_get h4
      exact ⟨xs', ys', w1, w2, sm.seq hx, sm.seq hy, g1, g2⟩
    · refine ⟨xs', ys', sm.seq hx, sm.seq hy, ?_⟩
      have := rx.length
      have := ry.length
      unfold zipD at hi
      rw [List.length_zipWith] at hi
      omega
    · obtain ⟨T, x1, y1, rfl, hT, rfl, gx, gy⟩ := y
      obtain ⟨x, y, h3, h4, rfl⟩ := zipD_get hd
      obtain ⟨w1, g1, p1⟩ := rx.fz_get h3
      obtain ⟨w2, g2, p2⟩ := ry.fz_get h4
      have e1 := gx _ (sm.seq hx)
      have e2 := gy _ (sm.seq hy)
      rw [g1] at e1; rw [g2] at e2
      cases e1; cases e2
      exact .inr ⟨T, _, _, hT, rfl, rfl, rfl, .cons (A := []) (B := []) (p1.frame (Same.refl _) fun _ z => nomatch z) (.one (p2.frame (Same.refl _) fun _ z => nomatch z))⟩
  · exact h1.elim
/-- enumerate of a list -/
def enumD : Nat → List D → List D
  | _, [] => []
  | n, x :: xs => .tup [.int (n : Int), x] :: enumD (n + 1) xs
theorem enumD_get : ∀ {xs : List D} {n i : Nat} {d : D}, (enumD n xs)[i]? = some d → ∃ x, xs[i]? = some x ∧ d = .tup [.int ((n + i : Nat) : Int), x]
  | [], n, i, d, h => by simp [enumD] at h
  | x :: xs, n, 0, d, h => by simp [enumD] at h; exact ⟨x, rfl, by simpa using h.symm⟩
  | x :: xs, n, i + 1, d, h => by
    simp only [enumD, List.getElem?_cons_succ] at h
    obtain ⟨y, h1, h2⟩ := enumD_get h
    exact ⟨y, by simpa using h1, by rw [h2, show n + 1 + i = n + (i + 1) by omega]⟩
theorem enumD_length : ∀ (xs : List D) (n : Nat), (enumD n xs).length = xs.length
  | [], _ => rfl
  | x :: xs, n => by simp [enumD, enumD_length xs]
def iEnm (wa : WA) : WI := fun env R => wa env fun ds e1 => match ds with
  | [.obj _ sh xs] => isSeq sh = true ∧ R (enumD 0 (D.frzL xs)) e1
  | _ => False
theorem di_enum {wa : WA} {q tpos : Pos} {elts : List Expr} {kk : Nat} (hg : Gl X "enumerate") (hm : X.mg "enumerate" = none) (ha : DA p X [e] wa) (hs : starEach [e] X.env = [(false, eval e X.env)] := by rfl) :
    DI p X (.Tuple elts kk tpos) (.Call (.Name "enumerate" q) [e] [] pos) (iEnm wa) := by
  refine ⟨PIimp (pi_enum hg hm ha.pa hs) ?_⟩
  rintro σ H Q ⟨F, B, env, As, R, s, hw, k⟩
  refine ⟨F, B, env, As, _, s, hw, fun vs H1 F1 As1 a ds e1 po1 t1 h1 => ?_⟩
  obtain ⟨po2, r2⟩ := po1.so.freezeL t1
  split at h1
  · obtain ⟨hs1, h1⟩ := h1
    obtain ⟨v, us, A1, A2, rfl, e0, q1, q2⟩ := r2.cons_inv
    obtain ⟨rfl, _⟩ := q2.nil_inv
    obtain ⟨a1, xs', rfl, hx, rx⟩ := Rep.frz_seq (o := false) hs1 q1
    refine ⟨a1, xs', rfl, po2.so.same.seq hx, k _ H1 _ As1 e1 _ (po1.trans (po2.imp fun _ => rfl)) ⟨fun i H sm hi => ?_, fun i H sm hi => ?_, fun i x H H' y sm d hd => ?_⟩ h1⟩
    · rw [enumD_length] at hi
      exact ⟨xs', xs'[i]'(by rw [← rx.length]; exact hi), sm.seq hx, by simp [← rx.length, hi]⟩
    · rw [enumD_length] at hi
      exact ⟨xs', sm.seq hx, by rw [← rx.length]; exact hi⟩
    · obtain ⟨T, x1, rfl, hT, rfl, gx⟩ := y
      obtain ⟨x, h3, rfl⟩ := enumD_get hd
      obtain ⟨w1, g1, p1⟩ := rx.fz_get h3
      have e1 := gx _ (sm.seq hx)
      rw [g1] at e1
      cases e1
      refine .inr ⟨T, _, _, hT, rfl, rfl, rfl, .cons (A := []) (B := []) ?_ (.one (p1.frame (Same.refl _) fun _ z => nomatch z))⟩
      rw [Nat.zero_add]
      exact .sc
  · exact h1.elim

/-! ### for -/
def loopD (g : WG) (wb : WS) : List D → WS
  | [], env, RD => RD.nx env
  | x :: xs, env, RD => g x env fun e1 => wb e1 { RD with nx := fun e2 => loopD g wb xs e2 RD, ct := fun e2 => loopD g wb xs e2 RD, bk := RD.nx }
def sFor (wi : WI) (g : WG) (wb : WS) : WS := fun env RD => wi env fun items e1 => loopD g wb items e1 RD
theorem ds_for {tg iter : Expr} {body : List Stmt} {wi : WI} {g : WG} {wb : WS} (hp : PassesOwn (model X.prog X.w) X.A X.env X.xe) (hc : X.calm = true) (hi : DI p X tg iter wi) (hg : DG kp X tg g) (hb : DSs kp X body wb)
    (hs : ∀ x, foldedSetIterable iter X.env x = pure x := by intro _; rfl) : DS kp X (.For tg iter body [] pos) (sFor wi g wb) := by
  refine ⟨PSimp (ps_for hp hc hi.pi hg.pg hb.ps hs) ?_⟩
  rintro D σ H ⟨F, B, env, As, RD, s, hw, k1, k2, k3, k4⟩
  refine ⟨F, B, env, As, _, s, hw, fun J H1 F1 As1 e1 items po1 it h1 => ?_⟩
  refine ⟨fun i m σ' H' => m = items.length - i ∧ i ≤ items.length ∧ ∃ F' As' env', PostS X.K kp F H B σ F' H' env' σ' As' ∧ Same F1 F' ∧ loopD g wb (items.drop i) env' RD,
    ⟨items.length, rfl, Nat.zero_le _, F1, As1, e1, po1.ps, Same.refl _, h1⟩, ?_⟩
  rintro i m σ2 H2 ⟨rfl, hle, F2, As2, e2, po2, sm, h2⟩
  by_cases hlt : i < items.length
  · refine .inr ⟨it.go i H2 (sm.trans po2.so.same) hlt, fun σ' H' => ∃ F' As' env', PostS X.K kp F H B σ F' H' env' σ' As' ∧ Same F1 F' ∧ loopD g wb (items.drop (i + 1)) env' RD,
      fun σ' H' ⟨F', As', env', po, sm', h⟩ => ⟨items.length - (i + 1), by omega, rfl, hlt, F', As', env', po, sm', h⟩, fun x H3 y => ?_⟩
    rw [List.drop_eq_getElem_cons hlt] at h2
    obtain ⟨F3, po3, t3⟩ := it.item po2.so sm y (List.getElem?_eq_getElem hlt)
    have po23 := po2.trans (po3.ps (kp := kp))
    refine ⟨F3, B, e2, As2, _, [], _, po3.so, t3, h2, fun σ4 H4 F4 As4 e4 po4 h4 => ?_⟩
    have po24 := po23.trans po4
    have sm4 := sm.trans (po3.ext.trans po4.ext)
    exact ⟨F4, B, e4, As4, _, po4.so, h4, fun σ5 H5 F5 As5 e5 po5 h5 => ⟨F5, As5, e5, po24.trans po5, sm4.trans po5.ext, h5⟩, fun σ5 H5 F5 As5 e5 po5 h5 => k1 σ5 H5 F5 As5 e5 (po24.trans po5) h5,
      fun σ5 H5 F5 As5 e5 po5 h5 => ⟨F5, As5, e5, po24.trans po5, sm4.trans po5.ext, h5⟩, fun v σ5 H5 F5 As5 a d e5 po5 t5 h5 => k4 v σ5 H5 F5 As5 a d e5 (po24.trans po5) t5 h5⟩
  · have e : i = items.length := by omega
    subst e
    rw [List.drop_length] at h2
    exact .inl ⟨it.stop _ H2 (sm.trans po2.so.same) (Nat.le_refl _), k1 σ2 H2 F2 As2 e2 po2 h2⟩
end
end PL

/-! PLi: comprehensions; calls of defs; a def by its body. -/
namespace PL
open PySem L2

/-! ### comprehensions -/
def wipeE {α : Type} (e : α) : List Nat → List α → List α
  | [], env => env
  | v :: vs, env => (wipeE e vs env).set v e
section
variable {K : PySem.W.Frag} {p : Bool} {kp : List Nat} {F F' F2 H H' H2 : Hp} {B : Addr → Prop} {env env' env2 : En} {σ σ' σ2 : St} {As As' As2 : List (List Addr)} {d d' d2 : D} {v v' v2 v0 : V} {A A' a a2 : List Addr} {ds : List D} {vs : List V} {u : D → D}
theorem wipe_eq (σ : St) : ∀ vs, wipe σ vs = wipeE none vs σ
  | [] => rfl
  | v :: vs => by simp only [wipe, wipeE, wipe_eq σ vs]
theorem wipeE_len {α : Type} (e : α) : ∀ (vs : List Nat) (l : List α), (wipeE e vs l).length = l.length
  | [], _ => rfl
  | v :: vs, l => by simp only [wipeE, List.length_set, wipeE_len e vs l]
theorem wipeE_in {α : Type} (e : α) : ∀ {vs : List Nat} {l : List α} {i : Nat}, i ∈ vs → i < l.length → (wipeE e vs l)[i]? = some e
  | v :: vs, l, i, h, hl => by
    simp only [wipeE]
    by_cases hv : v = i
    · subst hv; rw [List.getElem?_set_self (by rw [wipeE_len]; exact hl)]
    · rw [List.getElem?_set_ne hv]
      exact wipeE_in e ((List.mem_cons.mp h).resolve_left fun z => hv z.symm) hl
theorem wipeE_out {α : Type} (e : α) : ∀ {vs : List Nat} {l : List α} {i : Nat}, i ∉ vs → (wipeE e vs l)[i]? = l[i]?
  | [], l, i, _ => rfl
  | v :: vs, l, i, h => by
    simp only [wipeE]
    rw [List.getElem?_set_ne (fun z : v = i => h (by rw [z]; exact List.mem_cons_self ..)), wipeE_out e fun z => h (List.mem_cons_of_mem _ z)]
theorem wipe_sub : ∀ (vs : List Nat) {x : Addr}, x ∈ (wipeE [] vs As).flatten → x ∈ As.flatten
  | [], _, h => h
  | v :: vs, x, h => by
    simp only [wipeE] at h
    by_cases hl : v < (wipeE [] vs As).length
    · exact wipe_sub vs ((flat_at _ v _ (List.getElem?_eq_getElem hl)).mem_iff.mpr (List.mem_append_right _ h))
    · rw [List.set_eq_of_length_le (by omega)] at h; exact wipe_sub vs h
theorem SO.wipe (s : SO K F H B env σ As) : ∀ vs, SO K F H B (wipeE none vs env) (wipeE none vs σ) (wipeE [] vs As)
  | [] => s
  | v :: vs => by
    have h := (SO.wipe s vs).drop v
    simp only [wipeE]
    refine ⟨h.same, ?_, h.nd, h.fr, h.out⟩
    by_cases hl : v < (wipeE none vs env).length
    · exact h.env.slot (by simp [hl])
    · have e : (wipeE (α := Option V) none vs σ).set v none = wipeE none vs σ := List.set_eq_of_length_le (by have := (SO.wipe s vs).env.len.1; omega)
      rw [e]; exact h.env
/-- slots whose holders are given up may be told as they were -/
theorem EnvR.slots (r : EnvR K F H env σ As) (hl : σ'.length = σ.length) (h : ∀ i : Nat, env[i]? ≠ some none → σ'[i]? = σ[i]?) : EnvR K F H env σ' As := by
  induction r generalizing σ' with
  | nil => cases σ' with
    | nil => exact .nil
    | cons _ _ => simp at hl
  | @emp es σ As o r ih =>
    cases σ' with
    | nil => simp at hl
    | cons o' σ' => exact .emp (ih (by simpa using hl) fun i z => by have := h (i + 1) (by simpa using z); simpa using this)
  | @val d v A es σ As x r ih =>
    cases σ' with
    | nil => simp at hl
    | cons o' σ' =>
      have h0 := h 0 (by simp)
      simp at h0; subst h0
      exact .val x (ih (by simpa using hl) fun i z => by have := h (i + 1) (by simpa using z); simpa using this)
/-- what stands in a slot and is frozen stays so -/
def fzO : Option (Option D) → Option D
  | some (some d) => if d.fz = true then some d else none
  | _ => none
def restE (e0 : En) : List Nat → En → En
  | [], env => env
  | v :: vs, env => (restE e0 vs env).set v (fzO e0[v]?)
theorem fzO_some {o : Option (Option D)} {d : D} (h : fzO o = some d) : o = some (some d) ∧ d.fz = true := by
  unfold fzO at h
  split at h
  · split at h
    · cases h; exact ⟨rfl, by assumption⟩
    · cases h
  · cases h
theorem SO.rest {F0 : Hp} {H0 : Hp} {B0 : Addr → Prop} {As0 : List (List Addr)} {e0 : En} (s0 : SO K F0 H0 B0 e0 σ As0) (e : Same F0 F) (s : SO K F H B env σ As) : ∀ vs, ∃ As', SO K F H B (restE e0 vs env) σ As' ∧ ∀ x ∈ As'.flatten, x ∈ As.flatten
  | [] => ⟨As, s, fun _ z => z⟩
  | v :: vs => by
    obtain ⟨As1, s1, sub⟩ := SO.rest s0 e s vs
    simp only [restE]
    have s2 := s1.drop v
    have sub2 : ∀ x ∈ (As1.set v []).flatten, x ∈ As.flatten := fun x hx => by
      by_cases hl : v < As1.length
      · exact sub x ((flat_at As1 v As1[v] (by simp [hl])).mem_iff.mpr (List.mem_append_right _ hx))
      · rw [List.set_eq_of_length_le (by omega)] at hx; exact sub x hx
    cases hf : fzO e0[v]? with
    | none => exact ⟨_, s2, sub2⟩
    | some d =>
      obtain ⟨h1, h2⟩ := fzO_some hf
      obtain ⟨w, a, g1, g2, g3⟩ := s0.env.get h1
      have := g3.fzNil h2; subst this
      by_cases hl : v < As1.length
      · have s3 := s2.put (i := v) (s1.emptied hl) (.fz (g3.frame (F' := F) (H' := H) e fun _ z => nomatch z) s2) g1
        rw [set_set, set_set] at s3
        exact ⟨_, s3, sub2⟩
      · have e2 : (restE e0 vs env).set v (some d) = restE e0 vs env := List.set_eq_of_length_le (by have := s1.env.len.2; omega)
        rw [e2]
        exact ⟨_, s1, sub⟩
theorem TO.sub (t : TO K F H B As d v a) (nd : As'.flatten.Nodup) (h : ∀ x ∈ As'.flatten, x ∈ As.flatten) : TO K F H B As' d v a := by
  have n := List.nodup_append.mp t.nd
  exact ⟨t.rep, List.nodup_append.mpr ⟨n.1, nd, fun x hx y hy => n.2.2 x hx y (h y hy)⟩, t.fr, t.nb⟩
end
abbrev WTs := WT
structure DTs (p : Bool) (X : Cx) (ifs : List Expr) (w : WT) : Prop where
  pt : PTs X ifs (liftT X.K p w)
section
variable {X : Cx} {p : Bool} {c : Expr} {wt : WT}
def wYes : WT := fun env R => R true env
theorem PTsimp {X : Cx} {e : List Expr} {t t' : TT} (h : PTs X e t) (i : ∀ σ H Q, t' σ H Q → t σ H Q) : PTs X e t' := ⟨fun pins s σ H Q I q => h.run pins s σ H Q I (i σ H Q q)⟩
theorem dts_nil : DTs p X [] wYes := ⟨PTsimp pts_nil fun σ H Q ⟨F, B, env, As, R, s, hw, k⟩ => k true H F As env (.refl s) hw⟩
theorem dts_one (h : DT p X c wt) : DTs p X [c] wt := ⟨pts_one h.pt⟩
end
/-- the turns of a comprehension: e0 the names around, vs its own slots, kf: items stay own -/
def compD (kf : Bool) (vs : List Nat) (g : WG) (wt : WT) (we : WE) : List D → List D → En → (List D → En → Prop) → Prop
  | [], acc, env, R => R acc env
  | x :: xs, acc, env, R => g x (wipeE none vs env) fun e1 => wt e1 fun b e2 => if b = true then we e2 fun y e3 => acc.length < sizeLine ∧ compD kf vs g wt we xs (acc ++ [inK kf y]) e3 R else compD kf vs g wt we xs acc e2 R
def wComp (kf : Bool) (wi : WI) (vs : List Nat) (g : WG) (wt : WT) (we : WE) : WE := fun env R => wi env fun items e1 => compD kf vs g wt we items [] e1 fun acc e2 => R (.lst true acc) (restE e1 vs (wipeE none vs e2))
section
variable {X : Cx} {kf : Bool}
/-- what a comprehension's target may store -/
def outK (n : Nat) (vs : List Nat) : List Nat := (List.range n).filter fun i => !vs.contains i
theorem outK_mem {n i : Nat} {vs : List Nat} : i ∈ outK n vs ↔ i < n ∧ i ∉ vs := by simp [outK]
theorem SO.updB {K : PySem.W.Frag} {F H : Hp} {B : Addr → Prop} {env : En} {σ : St} {As : List (List Addr)} {p : Addr} {o : HO} (s : SO K F H B env σ As) (hp : B p) (hm : Mut (some o) := by trivial) : SO K F (upd H p o) B env σ As := by
  obtain ⟨h1, h2, h3⟩ := s.out p hp
  refine ⟨fun b w e => ?_, s.env.frame (Same.refl _) fun a ha => upd_ne fun z => h3 (z ▸ ha), s.nd, s.fr, fun b hb => ?_⟩
  · rw [upd_ne fun z => by rw [z, h1] at e; cases e]; exact s.same b w e
  · obtain ⟨k1, k2, k3⟩ := s.out b hb
    by_cases hbp : b = p
    · subst hbp; exact ⟨k1, ⟨o, upd_same, hm⟩, k3⟩
    · exact ⟨k1, k2.of_eq (upd_ne hbp), k3⟩
theorem comp_lift {K : PySem.W.Frag} {wi : WI} {vs : List Nat} {g : WG} {wt : WT} {we : WE} {ti : TI} {tg : TG} {tt : TT} {te : TE} {n : Nat} (hi : ∀ σ H Q, liftI K false wi σ H Q → ti σ H Q)
    (hg : ∀ v σ H Q, liftG K (outK n vs) g v σ H Q → tg v σ H Q) (ht : ∀ σ H Q, liftT K false wt σ H Q → tt σ H Q) (he : ∀ σ H Q, liftE K false we σ H Q → te σ H Q) :
    ∀ (σ : St) H Q, σ.length = n → liftE K false (wComp kf wi vs g wt we) σ H Q → tLc ti tg tt te vs σ H Q := by
  rintro σ H Q hn ⟨F, B, env, As, R, s, hw, k⟩
  refine hi σ H _ ⟨F, B, env, As, _, s, hw, fun J H1 F1 As1 e1 items po1 it h1 D hD => ?_⟩
  refine ⟨fun i m H' => m = items.length - i ∧ i ≤ items.length ∧ ∃ F' As' env' acc avs aa, Same F1 F' ∧ SO K F' H' B (wipeE none vs env') (wipeE none vs σ) As' ∧ (∀ b, B b → H' b = H1 b) ∧
      TO K F' H' B As' (.lst true acc) (.ref D) (D :: aa) ∧ H' D = some (.lst avs) ∧ RepL K F' H' acc avs aa ∧ compD kf vs g wt we (items.drop i) acc env' (fun acc e2 => R (.lst true acc) (restE e1 vs (wipeE none vs e2))), ⟨items.length, rfl, Nat.zero_le _, ?_⟩, ?_⟩
  · have po2 := po1.so.newO (o := .lst []) hD
    have s2 := po2.so.wipe vs
    have r0 : RepL K F1 (upd H1 D (.lst [])) [] [] [] := .nil
    refine ⟨F1, _, e1, [], [], [], Same.refl _, s2, po2.keep, ⟨.own (show CellO (upd H1 D (.lst [])) .lst D [] from upd_same) r0, ?_, fun x hx => ?_, fun x hx => ?_⟩, upd_same, r0, h1⟩
    · refine List.nodup_cons.mpr ⟨fun z => ?_, by simpa using s2.nd⟩
      have hz : D ∈ (wipeE [] vs As1).flatten := by simpa using z
      exact po1.so.notAs hD (wipe_sub vs hz)
    · rw [List.mem_singleton.mp hx]; exact po1.so.freeF hD
    · rw [List.mem_singleton.mp hx]; exact po1.so.notB hD
  · rintro i m H2 ⟨rfl, hle, F2, As2, e2, acc, avs, aa, sm, s2, kb, t2, hD2, r2, h2⟩
    by_cases hlt : i < items.length
    · refine .inr ⟨it.go i H2 (sm.trans s2.same) hlt, fun H' => ∃ F' As' env' acc avs aa, Same F1 F' ∧ SO K F' H' B (wipeE none vs env') (wipeE none vs σ) As' ∧ (∀ b, B b → H' b = H1 b) ∧
        TO K F' H' B As' (.lst true acc) (.ref D) (D :: aa) ∧ H' D = some (.lst avs) ∧ RepL K F' H' acc avs aa ∧ compD kf vs g wt we (items.drop (i + 1)) acc env' (fun acc e2 => R (.lst true acc) (restE e1 vs (wipeE none vs e2))),
        fun H' h => ⟨items.length - (i + 1), by omega, rfl, hlt, h⟩, fun x H3 y => ?_⟩
      rw [List.drop_eq_getElem_cons hlt] at h2
      have sp := s2.push t2
      obtain ⟨F3, po3, t3⟩ := it.item sp sm y (List.getElem?_eq_getElem hlt)
      rw [wipe_eq]
      -- the list stays while the turn runs
      have stay : ∀ {σ4 H4 F4 As4 e4}, PostS K (outK n vs) F2 H2 (Bx B (D :: aa)) (wipeE none vs σ) F4 H4 e4 σ4 As4 → H4 D = some (.lst avs) ∧ RepL K F4 H4 acc avs aa ∧ TO K F4 H4 B As4 (.lst true acc) (.ref D) (D :: aa) := fun po => by
        refine ⟨(po.keep D (.inr (List.mem_cons_self ..))).trans hD2, r2.frame po.ext fun x hx => po.keep x (.inr (List.mem_cons_of_mem _ hx)), t2.keepS po⟩
      have same : ∀ {σ4 H4 F4 As4 e4}, PostS K (outK n vs) F2 H2 (Bx B (D :: aa)) (wipeE none vs σ) F4 H4 e4 σ4 As4 → wipeE none vs σ4 = wipeE none vs σ := fun {σ4 _ _ _ _} po => by
        have hl4 : σ4.length = σ.length := by rw [po.len, wipeE_len]
        refine List.ext_getElem? fun j => ?_
        by_cases hj : j ∈ vs
        · by_cases hjl : j < σ.length
          · rw [wipeE_in none hj (by omega), wipeE_in none hj hjl]
          · rw [List.getElem?_eq_none (by rw [wipeE_len]; omega), List.getElem?_eq_none (by rw [wipeE_len]; omega)]
        · rw [wipeE_out none hj, wipeE_out none hj]
          by_cases hjl : j < n
          · rw [po.kp j (outK_mem.mpr ⟨hjl, hj⟩), wipeE_out none hj]
          · rw [List.getElem?_eq_none (by omega), List.getElem?_eq_none (by omega)]
      have back : ∀ {σ4 H4 F4 As4 e4}, PostS K (outK n vs) F2 H2 (Bx B (D :: aa)) (wipeE none vs σ) F4 H4 e4 σ4 As4 → SO K F4 H4 (Bx B (D :: aa)) (wipeE none vs e4) (wipeE none vs σ) (wipeE [] vs As4) := fun po => by
        rw [← same po]; exact po.so.wipe vs
      refine hg x _ H3 _ ⟨F3, Bx B (D :: aa), _, As2, _, [], _, po3.so, t3, h2, fun σ4 H4 F4 As4 e4 po4 h4 => ?_⟩
      have po24 := (po3.ps (kp := outK n vs)).trans po4
      refine ⟨by rw [wipe_eq, same po24], ?_⟩
      refine ht σ4 H4 _ ⟨F4, Bx B (D :: aa), e4, As4, _, po4.so, h4, fun b H5 F5 As5 e5 po5 h5 => ?_⟩
      have po25 := po24.trans (po5.ps (kp := outK n vs))
      cases b with
      | false =>
        obtain ⟨g1, g2, g3⟩ := stay po25
        have sb := back po25
        refine ⟨F5, _, e5, acc, avs, aa, sm.trans po25.ext, sb.pop, fun b hb => (po25.keep b (.inl hb)).trans (kb b hb), ⟨g3.rep, ?_, g3.fr, g3.nb⟩, g1, g2, h5⟩
        have n3 := List.nodup_append.mp g3.nd
        exact List.nodup_append.mpr ⟨n3.1, sb.nd, fun x hx z hz e => (sb.out x (.inr hx)).2.2 (e ▸ hz)⟩
      | true =>
        refine he σ4 H5 _ ⟨F5, Bx B (D :: aa), e5, As5, _, po5.so, h5, fun yv H6 F6 As6 ay y' e6 po6 t6 ⟨hl, h6⟩ => ?_⟩
        have po26 := po25.trans (po6.ps (kp := outK n vs))
        obtain ⟨F7, a7, po7, t7, sub7⟩ := in_ok kf po6.so t6
        have po27 := po26.trans (po7.ps (kp := outK n vs))
        obtain ⟨g1, g2, g3⟩ := stay po27
        have sb := back po27
        refine ⟨avs, g1, by rw [← r2.length]; exact hl, ?_⟩
        have nDaa : D ∉ aa := (List.nodup_cons.mp (List.nodup_append.mp g3.nd).1).1
        have nDa7 : D ∉ a7 := fun z => t7.nb D z (.inr (List.mem_cons_self ..))
        have rr : RepL K F7 (upd H6 D (.lst (avs ++ [yv]))) (acc ++ [inK kf y']) (avs ++ [yv]) (aa ++ a7) :=
          (g2.app (.one t7.rep)).frame (Same.refl _) fun x hx => upd_ne fun z => (List.mem_append.mp hx).elim (fun q => nDaa (z ▸ q)) fun q => nDa7 (z ▸ q)
        have su := sb.updB (o := .lst (avs ++ [yv])) (.inr (List.mem_cons_self ..))
        have a7out : ∀ x ∈ a7, x ∉ As6.flatten := fun x hx z => (List.nodup_append.mp t7.nd).2.2 x hx x z rfl
        refine ⟨F7, _, e6, acc ++ [inK kf y'], avs ++ [yv], aa ++ a7, sm.trans po27.ext, su.pop, fun b hb => ?_, ⟨.own (show CellO _ .lst D _ from upd_same) rr, ?_, fun x hx => ?_, fun x hx => ?_⟩, upd_same, rr, h6⟩
        · have nb : b ≠ D := fun z => g3.nb D (List.mem_cons_self ..) (z ▸ hb)
          exact (upd_ne nb).trans ((po27.keep b (.inl hb)).trans (kb b hb))
        · have n3 := List.nodup_append.mp g3.nd
          have n4 := List.nodup_cons.mp n3.1
          have ap : ∀ x ∈ aa, x ∉ a7 := fun x hx z => t7.nb x z (.inr (List.mem_cons_of_mem _ hx))
          refine List.nodup_append.mpr ⟨List.nodup_cons.mpr ⟨fun z => (List.mem_append.mp z).elim nDaa nDa7, List.nodup_append.mpr ⟨n4.2, (List.nodup_append.mp t7.nd).1, fun x hx z hz e => ap x hx (e ▸ hz)⟩⟩, sb.nd, fun x hx z hz e => ?_⟩
          subst e
          rcases List.mem_cons.mp hx with rfl | hx
          · exact (sb.out x (.inr (List.mem_cons_self ..))).2.2 hz
          · rcases List.mem_append.mp hx with q | q
            · exact (sb.out x (.inr (List.mem_cons_of_mem _ q))).2.2 hz
            · exact a7out x q (wipe_sub vs hz)
        · rcases List.mem_cons.mp hx with rfl | hx
          · exact g3.fr x (List.mem_cons_self ..)
          · rcases List.mem_append.mp hx with q | q
            · exact g3.fr x (List.mem_cons_of_mem _ q)
            · exact t7.fr x q
        · rcases List.mem_cons.mp hx with rfl | hx
          · exact g3.nb x (List.mem_cons_self ..)
          · rcases List.mem_append.mp hx with q | q
            · exact g3.nb x (List.mem_cons_of_mem _ q)
            · exact fun z => t7.nb x q (.inl z)
    · have e : i = items.length := by omega
      subst e
      rw [List.drop_length] at h2
      refine .inl ⟨it.stop _ H2 (sm.trans s2.same) (Nat.le_refl _), ?_⟩
      have nE : ∀ i : Nat, (wipeE none vs e2)[i]? ≠ some none → σ[i]? = (wipeE none vs σ)[i]? := fun j hj => by
        by_cases hv : j ∈ vs
        · by_cases hl : j < σ.length
          · exact absurd (wipeE_in none hv (by have := s2.env.len.1; rw [wipeE_len, wipeE_len] at this; omega)) hj
          · rw [List.getElem?_eq_none (by omega), List.getElem?_eq_none (by rw [wipeE_len]; omega)]
        · rw [wipeE_out none hv]
      have s3 : SO K F2 H2 B (wipeE none vs e2) σ As2 := ⟨s2.same, s2.env.slots (wipeE_len none vs σ).symm nE, s2.nd, s2.fr, s2.out⟩
      obtain ⟨As3, s4, sub⟩ := po1.so.rest sm s3 vs
      exact k (.ref D) H2 F2 As3 (D :: aa) _ _ ⟨po1.ext.trans sm, s4, fun b hb => (kb b hb).trans (po1.keep b hb), fun z => Bool.noConfusion z⟩ (t2.sub s4.nd sub) h2
theorem PEimpN {X : Cx} {e : Expr} {t t' : TE} (h : PE X e t) (i : ∀ (σ : St) H Q, σ.length = X.N.length → t' σ H Q → t σ H Q) : PE X e t' := ⟨fun pins s σ H Q I q => h.run pins s σ H Q I (i σ H Q I.len q)⟩
theorem PSimpN {X : Cx} {e : Stmt} {t t' : TS} (h : PS X e t) (i : ∀ D (σ : St) H, σ.length = X.N.length → t' D σ H → t D σ H) : PS X e t' := ⟨fun pins s σ H D I q => h.run pins s σ H D I (i D σ H I.len q)⟩
section
variable {elt tg iter : Expr} {ifs : List Expr} {scope : Scope} {own : List (Str × Nat)} {pos spos : Pos} {wi : WI} {g : WG} {wt : WT} {we : WE} {kp : List Nat}
theorem de_lc (kf : Bool) (hc : X.calm = true) (hN : X.N.Nodup) (hi : DI false X tg iter wi) (ok : BlkOk X.N X.env.scope scope own)
    (hg : ∀ (s : Shared) (H : Hp) (C : Addr) (cl : List (Str × Addr)) (fp : List Addr), DG (outK X.N.length (own.map (·.2))) (X.blk s H scope (compEnvC scope cl C X.env) fp) tg g)
    (ht : ∀ (s : Shared) (H : Hp) (C : Addr) (cl : List (Str × Addr)) (fp : List Addr), DTs false (X.blk s H scope (compEnvC scope cl C X.env) fp) ifs wt)
    (he : ∀ (s : Shared) (H : Hp) (C : Addr) (cl : List (Str × Addr)) (fp : List Addr), DE false (X.blk s H scope (compEnvC scope cl C X.env) fp) elt we) (hs : ∀ x, foldedSetIterable iter X.env x = pure x := by intro _; rfl) :
    DE false X (.ListComp elt [⟨tg, iter, ifs, 0⟩] scope pos) (wComp kf wi (own.map (·.2)) g wt we) :=
  ⟨PEimpN (pe_lc (g := liftG X.K (outK X.N.length (own.map (·.2))) g) (tt := liftT X.K false wt) (te := liftE X.K false we) hc hN hi.pi ok (fun s H C cl fp => (hg s H C cl fp).pg) (fun s H C cl fp => (ht s H C cl fp).pt) (fun s H C cl fp => (he s H C cl fp).pe) hs) fun σ H Q hn h =>
    comp_lift (fun _ _ _ h => h) (fun _ _ _ _ h => h) (fun _ _ _ h => h) (fun _ _ _ h => h) σ H Q hn h⟩
theorem ds_setLc {i : Nat} {y : Str} {py : Pos} (kf : Bool) (hc : X.calm = true) (hN : X.N.Nodup) (hy : X.N[i]? = some y) (hyl : X.env.scope.names.lookup y = some .local) (hk : i ∉ kp)
    (hsw : swapsWith (.ListComp elt [⟨tg, iter, ifs, 0⟩] scope pos) (some (.Name y py)) spos.line X.env = pure true) (hi : DI false X tg iter wi) (ok : BlkOk X.N X.env.scope scope own)
    (hg : ∀ (s : Shared) (H : Hp) (C : Addr) (cl : List (Str × Addr)) (fp : List Addr), DG (outK X.N.length (own.map (·.2))) (X.blk s H scope (compEnvC scope cl C X.env) fp) tg g)
    (ht : ∀ (s : Shared) (H : Hp) (C : Addr) (cl : List (Str × Addr)) (fp : List Addr), DTs false (X.blk s H scope (compEnvC scope cl C X.env) fp) ifs wt)
    (he : ∀ (s : Shared) (H : Hp) (C : Addr) (cl : List (Str × Addr)) (fp : List Addr), DE false (X.blk s H scope (compEnvC scope cl C X.env) fp) elt we) (hs : ∀ x, foldedSetIterable iter X.env x = pure x := by intro _; rfl) :
    DS kp X (.Assign [.Name y py] (.ListComp elt [⟨tg, iter, ifs, 0⟩] scope pos) spos) (sAsg (wComp kf wi (own.map (·.2)) g wt we) (gNm i)) := by
  refine ⟨PSimpN (ps_setLc (g := liftG X.K (outK X.N.length (own.map (·.2))) g) (tt := liftT X.K false wt) (te := liftE X.K false we) hc hN hy hyl hsw hi.pi ok (fun s H C cl fp => (hg s H C cl fp).pg) (fun s H C cl fp => (ht s H C cl fp).pt) (fun s H C cl fp => (he s H C cl fp).pe) hs) fun D σ H hn h => ?_⟩
  obtain ⟨F, B, env, As, RD, s, hw, k1, k2, k3, k4⟩ := h
  refine comp_lift (fun _ _ _ h => h) (fun _ _ _ _ h => h) (fun _ _ _ h => h) (fun _ _ _ h => h) σ H _ hn ⟨F, B, env, As, _, s, hw, fun v H1 F1 As1 a d e1 po1 t1 h1 => ?_⟩
  exact k1 _ H1 F1 _ _ (po1.ps.trans (po1.so.assignS t1 hk)) h1
end
end
end PL

/-! PLj: calls of defs; a def by its body. -/
namespace PL
open PySem L2

/-- an argument: a value, or what a name holds (it is lent) -/
inductive AV where
  | val (d : D) | ref (i : Nat)
abbrev WC := En → (List AV → En → Prop) → Prop
section
variable (K : PySem.W.Frag) (F H : Hp) (σ : St)
inductive IR : List AV → List V → List Addr → Prop
  | nil : IR [] [] []
  | val {d v a is vs b} : Rep K F H d v a → IR is vs b → IR (.val d :: is) (v :: vs) (a ++ b)
  | ref {i v is vs b} : σ[i]? = some (some v) → IR is vs b → IR (.ref i :: is) (v :: vs) b
end
structure TI (K : PySem.W.Frag) (F H : Hp) (B : Addr → Prop) (σ : St) (As : List (List Addr)) (is : List AV) (vs : List V) (a : List Addr) : Prop where
  rep : IR K F H σ is vs a
  nd : (a ++ As.flatten).Nodup
  fr : ∀ x ∈ a, F x = none
  nb : ∀ x ∈ a, ¬ B x
def liftC (K : PySem.W.Frag) (w : WC) : TA := fun σ H Q => ∃ F B env As R, SO K F H B env σ As ∧ w env R ∧
  ∀ vs H' F' As' a is env', PostE K false F H B env σ As F' H' env' As' → TI K F' H' B σ As' is vs a → R is env' → Q vs H'
structure DC (X : Cx) (es : List Expr) (w : WC) : Prop where
  pa : PA X es (liftC X.K w)
section
variable {K : PySem.W.Frag} {F F' H H' : Hp} {σ : St} {B : Addr → Prop} {env env' : En} {As As' : List (List Addr)}
theorem IR.frame {is vs a} (r : IR K F H σ is vs a) (e : Same F F') (k : ∀ x ∈ a, H' x = H x) : IR K F' H' σ is vs a := by
  induction r with
  | nil => exact .nil
  | val x r ih => exact .val (x.frame e fun y hy => k y (List.mem_append_left _ hy)) (ih fun y hy => k y (List.mem_append_right _ hy))
  | ref x r ih => exact .ref x (ih k)
theorem TI.keep {a is vs d v a2} {p : Bool} (t : TO K F H B As d v a) (s : PostE K p F H (Bx B a) env σ As F' H' env' As') (u : TI K F' H' (Bx B a) σ As' is vs a2) : TI K F' H' B σ As' (.val d :: is) (v :: vs) (a ++ a2) := by
  have t' := t.keep s
  have ap : ∀ x ∈ a2, x ∉ a := fun x hx z => u.nb x hx (.inr z)
  refine ⟨.val t'.rep u.rep, ?_, fun x hx => (List.mem_append.mp hx).elim (t'.fr x) (u.fr x), fun x hx => (List.mem_append.mp hx).elim (t'.nb x) fun z hb => u.nb x z (.inl hb)⟩
  rw [List.append_assoc]
  have h1 := List.nodup_append.mp t'.nd
  refine List.nodup_append.mpr ⟨h1.1, u.nd, fun x hx y hy e => ?_⟩
  subst e
  rcases List.mem_append.mp hy with hy | hy
  · exact ap x hy hx
  · exact h1.2.2 x hx x hy rfl
end
section
variable {X : Cx} {p : Bool} {e : Expr} {es : List Expr} {we : WE} {wc : WC} {pos : Pos}
def cNil : WC := fun env R => R [] env
def cVal (we : WE) (wc : WC) : WC := fun env R => we env fun d e1 => wc e1 fun is e2 => R (.val d :: is) e2
def cRef (i : Nat) (wc : WC) : WC := fun env R => (∃ d, env[i]? = some (some d)) ∧ wc env fun is e2 => R (.ref i :: is) e2
theorem dc_nil : DC X [] cNil := ⟨PAimp pa_nil fun σ H Q ⟨F, B, env, As, R, s, hw, k⟩ => k [] H F As [] [] env (.refl s) ⟨.nil, by simpa using s.nd, (fun _ z => nomatch z), (fun _ z => nomatch z)⟩ hw⟩
theorem dc_val (h : DE p X e we) (hs : DC X es wc) (st : starEach (e :: es) X.env = (false, eval e X.env) :: starEach es X.env := by rfl) : DC X (e :: es) (cVal we wc) := by
  refine ⟨PAimp (pa_cons h.pe hs.pa st) ?_⟩
  rintro σ H Q ⟨F, B, env, As, R, s, hw, k⟩
  refine ⟨F, B, env, As, _, s, hw, fun v H1 F1 As1 a d e1 po1 t1 h1 => ?_⟩
  refine ⟨F1, Bx B a, e1, As1, _, po1.so.push t1, h1, fun vs H2 F2 As2 b is e2 po2 t2 h2 => ?_⟩
  exact k _ H2 F2 As2 (a ++ b) _ e2 (po1.weak.trans po2.pop) (.keep t1 po2 t2) h2
theorem dc_ref {i : Nat} (h : PE X e (tVar i)) (hs : DC X es wc) (st : starEach (e :: es) X.env = (false, eval e X.env) :: starEach es X.env := by rfl) : DC X (e :: es) (cRef i wc) := by
  refine ⟨PAimp (pa_cons h hs.pa st) ?_⟩
  rintro σ H Q ⟨F, B, env, As, R, s, ⟨⟨d, hd⟩, hw⟩, k⟩
  obtain ⟨v, a, h1, h2, h3⟩ := s.env.get hd
  refine ⟨v, h1, F, B, env, As, _, s, hw, fun vs H2 F2 As2 b is e2 po2 t2 h2 => ?_⟩
  exact k _ H2 F2 As2 b _ e2 po2 ⟨.ref h1 t2.rep, t2.nd, t2.fr, t2.nb⟩ h2
end
/-- the arguments' data, the lent ones taken out of their slots -/
def takeA : En → List AV → Option (List D × En)
  | env, [] => some ([], env)
  | env, .val d :: r => (takeA env r).map fun q => (d :: q.1, q.2)
  | env, .ref i :: r => match env[i]? with
    | some (some d) => (takeA (env.set i none) r).map fun q => (d :: q.1, q.2)
    | _ => none
/-- the lent ones given back -/
def putA : En → List AV → En → En
  | env, .val _ :: r, _ :: os => putA env r os
  | env, .ref i :: r, o :: os => putA (env.set i o) r os
  | env, _, _ => env
section
variable {K : PySem.W.Frag} {F F' H H' : Hp} {σ : St} {B : Addr → Prop} {env env' : En} {As As' : List (List Addr)}
def Lent : List AV → List Nat
  | [] => []
  | .val _ :: r => Lent r
  | .ref i :: r => i :: Lent r
/-- the callee's entry -/
theorem take_ok : ∀ {is : List AV} {vs : List V} {a : List Addr} {env : En} {As : List (List Addr)} {ds : List D} {e2 : En}, SO K F H B env σ As → TI K F H B σ As is vs a → takeA env is = some (ds, e2) →
    ∃ As2 AA, SO K F H B e2 σ As2 ∧ EnvR K F H (ds.map some) (vs.map some) AA ∧ (AA.flatten ++ As2.flatten).Nodup ∧ (∀ x ∈ AA.flatten, F x = none ∧ ¬ B x) ∧
      (∀ x ∈ As2.flatten, x ∈ As.flatten) ∧ (∀ x ∈ AA.flatten, x ∈ a ∨ x ∈ As.flatten) ∧ (Lent is).Nodup ∧ (∀ i ∈ Lent is, As2[i]? = some [] ∧ ∃ d, env[i]? = some (some d)) ∧ (∀ i : Nat, As[i]? = some [] → As2[i]? = some []) := by
  intro is
  induction is with
  | nil =>
    intro vs a env As ds e2 s t h
    simp only [takeA, Option.some.injEq, Prod.mk.injEq] at h
    obtain ⟨rfl, rfl⟩ := h
    have := t.rep
    cases this
    exact ⟨As, [], s, .nil, by simpa using s.nd, (fun _ z => nomatch z), fun _ z => z, (fun _ z => nomatch z), .nil, (fun _ z => nomatch z), fun _ z => z⟩
  | cons x is ih =>
    intro vs a env As ds e2 s t h
    cases x with
    | val d =>
      simp only [takeA, Option.map_eq_some_iff] at h
      obtain ⟨⟨ds', e2'⟩, h1, h2⟩ := h
      simp only [Prod.mk.injEq] at h2
      obtain ⟨rfl, rfl⟩ := h2
      have tr := t.rep
      cases tr with
      | @val _ v a1 _ vs b r1 r2 =>
        have nd := t.nd
        rw [List.append_assoc] at nd
        have n1 := List.nodup_append.mp nd
        obtain ⟨As2, AA, q1, q2, q3, q4, q5, q6, q7, q8, q9⟩ := ih s ⟨r2, n1.2.1, fun x hx => t.fr x (List.mem_append_right _ hx), fun x hx => t.nb x (List.mem_append_right _ hx)⟩ h1
        refine ⟨As2, a1 :: AA, q1, .val r1 q2, ?_, fun x hx => ?_, q5, fun x hx => ?_, q7, q8, q9⟩
        · rw [List.flatten_cons, List.append_assoc]
          refine List.nodup_append.mpr ⟨n1.1, q3, fun x hx y hy e => ?_⟩
          subst e
          rcases List.mem_append.mp hy with z | z
          · rcases q6 x z with w | w
            · exact n1.2.2 x hx x (List.mem_append_left _ w) rfl
            · exact n1.2.2 x hx x (List.mem_append_right _ w) rfl
          · exact n1.2.2 x hx x (List.mem_append_right _ (q5 x z)) rfl
        · rw [List.flatten_cons] at hx
          rcases List.mem_append.mp hx with z | z
          · exact ⟨t.fr x (List.mem_append_left _ z), t.nb x (List.mem_append_left _ z)⟩
          · exact q4 x z
        · rw [List.flatten_cons] at hx
          rcases List.mem_append.mp hx with z | z
          · exact .inl (List.mem_append_left _ z)
          · exact (q6 x z).imp (List.mem_append_right _) id
    | ref i =>
      simp only [takeA] at h
      split at h
      · rename_i d hd
        simp only [Option.map_eq_some_iff] at h
        obtain ⟨⟨ds', e2'⟩, h1, h2⟩ := h
        simp only [Prod.mk.injEq] at h2
        obtain ⟨rfl, rfl⟩ := h2
        have tr := t.rep
        cases tr with
        | @ref _ v _ vs _ hv r2 =>
          obtain ⟨v', a1, g1, g2, s1, t1⟩ := s.take hd
          rw [hv] at g1; cases g1
          have pm := flat_at As i a1 g2
          have sub1 : ∀ x ∈ (As.set i []).flatten, x ∈ As.flatten := fun x hx => pm.mem_iff.mpr (List.mem_append_right _ hx)
          have n := List.nodup_append.mp t.nd
          obtain ⟨As2, AA, q1, q2, q3, q4, q5, q6, q7, q8, q9⟩ := ih s1 ⟨r2, List.nodup_append.mpr ⟨n.1, s1.nd, fun x hx y hy => n.2.2 x hx y (sub1 y hy)⟩, t.fr, t.nb⟩ h1
          have hi : As2[i]? = some [] := q9 i (s.emptied (s.lt hd))
          refine ⟨As2, a1 :: AA, q1, .val t1.rep q2, ?_, fun x hx => ?_, fun x hx => sub1 x (q5 x hx), fun x hx => ?_, ?_, fun j hj => ?_, fun j hj => q9 j ?_⟩
          · rw [List.flatten_cons, List.append_assoc]
            have n1 := List.nodup_append.mp t1.nd
            refine List.nodup_append.mpr ⟨n1.1, q3, fun x hx y hy e => ?_⟩
            subst e
            rcases List.mem_append.mp hy with z | z
            · rcases q6 x z with w | w
              · exact n.2.2 x w x (pm.mem_iff.mpr (List.mem_append_left _ hx)) rfl
              · exact n1.2.2 x hx x w rfl
            · exact n1.2.2 x hx x (q5 x z) rfl
          · rw [List.flatten_cons] at hx
            rcases List.mem_append.mp hx with z | z
            · exact ⟨t1.fr x z, t1.nb x z⟩
            · exact q4 x z
          · rw [List.flatten_cons] at hx
            rcases List.mem_append.mp hx with z | z
            · exact .inr (pm.mem_iff.mpr (List.mem_append_left _ z))
            · exact (q6 x z).imp id (sub1 x)
          · refine List.nodup_cons.mpr ⟨fun z => ?_, q7⟩
            obtain ⟨_, d', e⟩ := q8 i z
            have := s.lt hd
            have hl := s.env.len.2
            rw [List.getElem?_set_self (by omega)] at e
            cases e
          · rcases List.mem_cons.mp hj with rfl | hj
            · exact ⟨hi, d, hd⟩
            · obtain ⟨w1, d', w2⟩ := q8 j hj
              by_cases hji : i = j
              · subst hji; exact ⟨w1, d, hd⟩
              · rw [List.getElem?_set_ne hji] at w2
                exact ⟨w1, d', w2⟩
          · by_cases hji : i = j
            · subst hji; exact s.emptied (s.lt hd)
            · rw [List.getElem?_set_ne hji]; exact hj
      · cases h
/-- behind the call -/
theorem put_ok : ∀ {is : List AV} {vs : List V} {a : List Addr} {env os : En} {As AA : List (List Addr)}, SO K F H B env σ As → (Lent is).Nodup → (∀ i ∈ Lent is, As[i]? = some []) → IR K F' H' σ is vs a → EnvR K F H os (vs.map some) AA →
    (AA.flatten ++ As.flatten).Nodup → (∀ x ∈ AA.flatten, F x = none ∧ ¬ B x) → ∃ As', SO K F H B (putA env is os) σ As' ∧ ∀ x ∈ As'.flatten, x ∈ As.flatten ∨ x ∈ AA.flatten := by
  intro is
  induction is with
  | nil =>
    intro vs a env os As AA s _ _ _ _ _ _
    refine ⟨As, ?_, fun x hx => .inl hx⟩
    unfold putA
    exact s
  | cons x is ih =>
    intro vs a env os As AA s nl he ir ro nd hf
    cases x with
    | val d =>
      cases ir with
      | @val _ v a1 _ vs b r1 r2 =>
        cases ro with
        | @emp os _ AA _ ro =>
          obtain ⟨As', q1, q2⟩ := ih s nl he r2 ro (by simpa using nd) (by simpa using hf)
          exact ⟨As', q1, fun x hx => by simpa using q2 x hx⟩
        | @val d' _ A0 os _ AA x ro =>
          rw [List.flatten_cons, List.append_assoc] at nd
          obtain ⟨As', q1, q2⟩ := ih s nl he r2 ro (List.nodup_append.mp nd).2.1 fun x hx => hf x (by rw [List.flatten_cons]; exact List.mem_append_right _ hx)
          exact ⟨As', q1, fun x hx => (q2 x hx).imp id fun z => by rw [List.flatten_cons]; exact List.mem_append_right _ z⟩
    | ref i =>
      have hi := he i (List.mem_cons_self ..)
      have nl2 := List.nodup_cons.mp nl
      cases ir with
      | @ref _ v _ vs _ hv r2 =>
        cases ro with
        | @emp os _ AA _ ro =>
          have s1 := s.drop i
          have e1 : As.set i [] = As := set_self As i [] hi
          rw [e1] at s1
          obtain ⟨As', q1, q2⟩ := ih s1 nl2.2 (fun j hj => he j (List.mem_cons_of_mem _ hj)) r2 ro (by simpa using nd) (by simpa using hf)
          exact ⟨As', q1, fun x hx => by simpa using q2 x hx⟩
        | @val d' _ A0 os _ AA x ro =>
          rw [List.flatten_cons, List.append_assoc] at nd
          have n1 := List.nodup_append.mp nd
          have n2 := List.nodup_append.mp n1.2.1
          have ap : (A0 ++ As.flatten).Nodup := List.nodup_append.mpr ⟨n1.1, n2.2.1, fun x hx y hy => n1.2.2 x hx y (List.mem_append_right _ hy)⟩
          have s1 := s.put hi ⟨x, ap, fun y hy => (hf y (by simp [hy])).1, fun y hy => (hf y (by simp [hy])).2⟩ hv
          have pm := flat_set As i A0 (List.getElem?_eq_some_iff.mp hi).1
          rw [set_self As i [] hi] at pm
          obtain ⟨As', q1, q2⟩ := ih s1 nl2.2 (fun j hj => by
              rw [List.getElem?_set_ne (fun z : i = j => nl2.1 (z ▸ hj))]; exact he j (List.mem_cons_of_mem _ hj)) r2 ro (by
              refine List.nodup_append.mpr ⟨n2.1, pm.nodup_iff.mpr ap, fun x hx y hy e => ?_⟩
              subst e
              rcases List.mem_append.mp (pm.mem_iff.mp hy) with z | z
              · exact n1.2.2 x z x (List.mem_append_left _ hx) rfl
              · exact n2.2.2 x hx x z rfl) fun x hx => hf x (by rw [List.flatten_cons]; exact List.mem_append_right _ hx)
          refine ⟨As', q1, fun x hx => ?_⟩
          rw [List.flatten_cons]
          rcases q2 x hx with z | z
          · rcases List.mem_append.mp (pm.mem_iff.mp z) with w | w
            · exact .inr (List.mem_append_left _ w)
            · exact .inl w
          · exact .inr (List.mem_append_right _ z)
end
/-! ### what a def is, by data -/
abbrev WF := List D → (D → En → Prop) → Prop
/-- the promise of a def -/
def spD (K : PySem.W.Frag) (w : WF) : Sp := fun vs H Q _ => ∃ F B ds As R, SO K F H B (ds.map some) (vs.map some) As ∧ w ds R ∧
  ∀ v H' F' As' a r ds', PostE K false F H B (ds.map some) (vs.map some) As F' H' ds' As' → TO K F' H' B As' r v a → R r ds' → Q v H'
def wCall (f : WF) (wc : WC) : WE := fun env R => wc env fun is e1 => match takeA e1 is with
  | some (ds, e2) => f ds fun r ds' => R r (putA e2 is ds')
  | none => False
theorem IR.length {K : PySem.W.Frag} {F H : Hp} {σ : St} {is vs a} (r : IR K F H σ is vs a) : is.length = vs.length := by
  induction r with
  | nil => rfl
  | val _ _ ih => simp [ih]
  | ref _ _ ih => simp [ih]
theorem call_at {K : PySem.W.Frag} {f : WF} {E : XK} {F H : Hp} {B : Addr → Prop} {env : En} {σ : St} {As : List (List Addr)} {is : List AV} {vs : List V} {a : List Addr} {R : D → En → Prop} {Q : VK} (so : SO K F H B env σ As) (t1 : TI K F H B σ As is vs a)
    (h1 : match takeA env is with | some (ds, e2) => f ds fun r ds' => R r (putA e2 is ds') | none => False)
    (k : ∀ v H' F' As' c r env', PostE K false F H B env σ As F' H' env' As' → TO K F' H' B As' r v c → R r env' → Q v H') : spD K f vs H Q E := by
  split at h1
  · rename_i ds e2 ht
    obtain ⟨As2, AA, q1, q2, q3, q4, q5, q6, q7, q8, q9⟩ := take_ok so t1 ht
    have n3 := List.nodup_append.mp q3
    have sc : SO K F H (fun x => B x ∨ x ∈ As2.flatten) (ds.map some) (vs.map some) AA := by
      refine ⟨so.same, q2, n3.1, fun x hx => (q4 x hx).1, fun b hb => ?_⟩
      rcases hb with hb | hb
      · obtain ⟨k1, k2, k3⟩ := q1.out b hb
        exact ⟨k1, k2, fun z => (q4 b z).2 hb⟩
      · refine ⟨q1.fr b hb, ?_, fun z => n3.2.2 b z b hb rfl⟩
        exact q1.env.mut b hb
    refine ⟨F, _, ds, AA, _, sc, h1, fun v H2 F2 AA2 c r ds' po2 t2 h2 => ?_⟩
    have kA : ∀ x ∈ As2.flatten, H2 x = H x := fun x hx => po2.keep x (.inr hx)
    have s2 : SO K F2 H2 B e2 σ As2 := by
      refine ⟨po2.so.same, q1.env.frame po2.ext kA, q1.nd, fun x hx => (po2.so.out x (.inr hx)).1, fun b hb => ?_⟩
      obtain ⟨k1, k2, k3⟩ := po2.so.out b (.inl hb)
      exact ⟨k1, k2, (q1.out b hb).2.2⟩
    have ndd : (AA2.flatten ++ As2.flatten).Nodup := List.nodup_append.mpr ⟨po2.so.nd, q1.nd, fun x hx y hy e => (po2.so.out y (.inr hy)).2.2 (e ▸ hx)⟩
    obtain ⟨As3, s3, sub⟩ := put_ok s2 q7 (fun i hi => (q8 i hi).1) t1.rep po2.so.env ndd fun x hx => ⟨po2.so.fr x hx, fun hb => (po2.so.out x (.inl hb)).2.2 hx⟩
    refine k v H2 F2 As3 c r _ ⟨po2.ext, s3, fun b hb => po2.keep b (.inl hb), fun z => Bool.noConfusion z⟩ ⟨t2.rep, ?_, t2.fr, fun x hx hb => t2.nb x hx (.inl hb)⟩ h2
    have nt := List.nodup_append.mp t2.nd
    refine List.nodup_append.mpr ⟨nt.1, s3.nd, fun x hx y hy e => ?_⟩
    subst e
    rcases sub x hy with z | z
    · exact t2.nb x hx (.inr z)
    · exact nt.2.2 x hx x z rfl
  · exact h1.elim
theorem call_lift {K : PySem.W.Frag} {f : WF} {wc : WC} {E : XK} : ∀ σ H Q, liftE K false (wCall f wc) σ H Q → tCall (spD K f) [] E (liftC K wc) σ H Q := by
  rintro σ H Q ⟨F, B, env, As, R, s, hw, k⟩
  refine ⟨F, B, env, As, _, s, hw, fun vs H1 F1 As1 a is e1 po1 t1 h1 => ?_⟩
  show spD K f (vs ++ []) H1 Q E
  rw [List.append_nil]
  exact call_at po1.so t1 h1 fun v H' F' As' c r env' po t h => k v H' F' As' c r env' (po1.trans po) t h
/-- a def's promise, where no repr is under way: as the layer's own FnOk, with that one fact more of what runs around -/
structure FnG (P : Program) (w : World) (K : PySem.W.Frag) (mg : Str → Option Value) (base : Heap) (CX : CXT) (k : Nat) (f : Addr) (fd : FuncData) (ps : List Str) (sp : Sp) : Prop where
  len : ∀ vs H Q E, sp vs H Q E → vs.length = ps.length
  go : ∀ (A : Around), Room k A → A.guards = some [] → ∀ (outer : List Env) (s : Shared) (H : Hp), Env0 P w K mg base A outer s H → ∀ (args : Args) (us : List Value) (vs : List V), BindsTo s fd args (ps.zip us) → Vals vs us →
    ∀ (Q : VK) (E : XK), sp vs H Q E → codeAny (model P w) A (.call (.ref f) args) (CR CX outer P w H s Q E) s
theorem FnG.mono {P : Program} {w : World} {K : PySem.W.Frag} {mg : Str → Option Value} {base : Heap} {CX : CXT} {j k : Nat} {f : Addr} {fd : FuncData} {ps : List Str} {sp : Sp} (G : FnG P w K mg base CX j f fd ps sp) (h : j ≤ k) : FnG P w K mg base CX k f fd ps sp :=
  ⟨G.len, fun A hr => G.go A (hr.mono h)⟩
theorem FnG.imp {P : Program} {w : World} {K : PySem.W.Frag} {mg : Str → Option Value} {base : Heap} {CX : CXT} {k : Nat} {f : Addr} {fd : FuncData} {ps : List Str} {sp sp' : Sp} (G : FnG P w K mg base CX k f fd ps sp) (h : ∀ vs H Q E, sp' vs H Q E → sp vs H Q E) :
    FnG P w K mg base CX k f fd ps sp' := ⟨fun vs H Q E q => G.len vs H Q E (h _ _ _ _ q), fun A hr hg outer s H e0 args us vs hb rv Q E q => G.go A hr hg outer s H e0 args us vs hb rv Q E (h _ _ _ _ q)⟩
section
variable {X : Cx} {CX : CXT} {k : Nat} {f : Addr} {fd : FuncData} {ps : List Str} {x : Str} {q pos : Pos} {e : Expr} {es : List Expr} {w : WF} {wc : WC} {sp : Sp} {E : XK} {dvs : List V} {dfs : List Value} {ta : TA}
open PySem.Spec PyProof.Rows in
/-- it runs -/
theorem FnG.run (G : FnG X.prog X.w X.K X.mg X.base CX k f fd ps sp) (hr : Room k X.A) (hg : X.A.guards = some []) (hb : Binds X.K fd ps dfs) (hd : Vals dvs dfs) (hx : Passes CX X E) {pins : List (Addr × Obj)} {σ : L2.St} {H : Hp} {s : Shared} {us : List Value} {vs : List V} {Q : VK}
    (I : Inv X pins σ H s) (rv : Vals vs us) (h : sp (vs ++ dvs) H Q E) : wpAny (model X.prog X.w) X.A (call (.ref f) us) (EP X pins σ Q) X.xe s := by
  have rv2 := rv.append hd
  have bound := hb s us I.kIn (rv2.length ▸ G.len _ _ _ _ h)
  refine wpAny_call (codeAny_mono (G.go X.A hr hg X.stack s H I.env0 _ _ _ bound rv2 Q E h) ?_)
  rintro (e | fl) s' done
  · exact hx pins σ H s e s' I done
  · cases fl with
    | ret u => exact I.after done
    | _ => exact done.elim
open PySem.Spec PyProof.Rows in
theorem peg_call (G : FnG X.prog X.w X.K X.mg X.base CX k f fd ps sp) (hr : Room k X.A) (hgd : X.A.guards = some []) (hg : Gl X x) (hm : X.mg x = some (.ref f)) (hk : PySem.W.keepIn X.K (.ref f) = true) (hb : Binds X.K fd ps dfs) (hd : Vals dvs dfs) (hx : Passes CX X E) (ha : PA X (e :: es) ta)
    (hdb : (x == ("__debug__" : Str)) = false := by decide) (he : starEach (e :: es) X.env = (false, eval e X.env) :: starEach es X.env := by rfl) (hpl : (backTo pos (starEach es X.env)).any (·.1) = false := by rfl) :
    PE X (.Call (.Name x q) (e :: es) [] pos) (tCall sp dvs E ta) :=
  ⟨fun pins s σ H Q I h => wpAny_Call_Name_kw (ld_glob I hg hm (PySem.W.callWith_K (h₀ := X.base) I.ok.mod.kin hk (thn (ha.run pos pins s σ H _ I h) fun us s1 ⟨vs, H1, I1, rv, q⟩ => ⟨I1.kIn, G.run hr hgd hb hd hx I1 rv q⟩) he hpl) hdb)⟩
/-- f(e, ..), every parameter given by place -/
theorem de_call (G : FnG X.prog X.w X.K X.mg X.base CX0 k f fd ps (spD X.K w)) (hr : Room k X.A) (hgd : X.A.guards = some []) (hg : Gl X x) (hm : X.mg x = some (.ref f)) (hk : PySem.W.keepIn X.K (.ref f) = true) (hb : Binds X.K fd ps []) (ha : DC X (e :: es) wc)
    (hdb : (x == ("__debug__" : Str)) = false := by decide) (he : starEach (e :: es) X.env = (false, eval e X.env) :: starEach es X.env := by rfl) (hpl : (backTo pos (starEach es X.env)).any (·.1) = false := by rfl) :
    DE false X (.Call (.Name x q) (e :: es) [] pos) (wCall w wc) :=
  ⟨PEimp (peg_call G hr hgd hg hm hk hb .nil pass0 ha.pa hdb he hpl) call_lift⟩
end
open PySem.Spec PyProof.Rows in
/-- a def of the text, by its body -/
theorem fng_of {CX : CXT} {P : Program} {w : World} {K : PySem.W.Frag} {mg : Str → Option Value} {base : Heap} {k : Nat} {f : Addr} {fd : FuncData} {name qual : Str} {params : Arguments} {body : List Stmt} {sc : Scope} {dV kV doc pm cdv ct oc : Value} {an od : Option Addr}
    {osl : Array (Option Value)} {N ps : List Str} {sp : Sp} (hfd : fd = PySem.W.fnOf name qual params body sc dV kV doc pm an cdv ct) (lk : K.lookup f = some ⟨oc, od, .func fd, osl⟩) (hcd : PySem.W.codeIn K cdv qual = true) (S : FnScope N ps sc)
    (len : ∀ vs H Q E, sp vs H Q E → vs.length = ps.length)
    (hbody : ∀ (A : Around) (outer : List Env) (s : Shared) (H : Hp) (vs : List V) (Q : VK) (E : XK), Room k (A.deeper (PyProof.Rows.envOfC qual sc s.heap.objs.size f cdv)) → A.guards = some [] → sp vs H Q E →
      ∃ t, PSs (cxOf CX P w K mg base N qual sc f cdv A outer s H E) body t ∧ t { nx := fun _ H' => Q .non H', rt := Q } (L2.start N vs) H) : FnG P w K mg base CX (k + 1) f fd ps sp := by
  subst hfd
  refine ⟨len, fun A hr hg outer s H e0 args us vs hb rv Q E h => ?_⟩
  have keeps : ∀ b o, base.get? b = some o → s.heap.get? b = some o := fun b o e => (e0.bs b o e).1
  have KX := e0.mod.kin.keeps keeps
  have par : ∀ y ∈ ps.zip us, sc.names.lookup y.1 = some .local ∨ (sc.names.lookup y.1 = some .cell ∧ ((cellsFrom (s.heap.objs.size + 1) sc.names []).lookup y.1).isSome = true) := by
    rintro ⟨n, v⟩ hy
    exact (S.par n (List.of_mem_zip hy).1).imp id fun z => ⟨z, PySem.W.cellsFrom_some _ _ _ (.inl z)⟩
  refine codeAny_call_function hr.depth (KX _ _ lk) rfl S.co S.gen rfl (PySem.W.codeRec_of KX hcd) (hb _ _ _ _ (wpAny_newFunctionEnv_cells S.kind par ?_))
  rintro env rfl s1 ent
  refine ⟨(e0.mod.nolimit.keeps keeps).keeps ent.toInCall.keep, codeAny_func ?_⟩
  obtain ⟨t, ht, reading⟩ := hbody A outer s H vs Q E (hr.deeper _) hg h
  have I0 : Inv (cxOf CX P w K mg base N qual sc f cdv A outer s H E) [] (L2.start N vs) H s1 := inv_start S hr.hd e0 (len _ _ _ _ h) rv ent
  have out : ∀ {σ' : L2.St} {H' : Hp} {s' : Shared} {v : V} {u : Value}, Inv (cxOf CX P w K mg base N qual sc f cdv A outer s H E) [] σ' H' s' → RelV v u → Q v H' → CE outer P w H s Q u s' := fun J r q => ⟨_, _, J.os, J.bare, J.base, J.hok, r, q⟩
  refine wpAny_mono (ht.run [] s1 _ H _ I0 reading) ?_ fun _ _ z => z
  rintro (_ | u | _ | _) s' done
  all_goals first
    | (obtain ⟨v, σ', H', J, r, q⟩ := done; exact out J r q)
    | (obtain ⟨σ', H', J, q⟩ := done; exact out (v := V.non) (u := Value.none) J rfl q)
    | (obtain ⟨_, _, _, q⟩ := done; exact q.elim)
/-! ### a def by its body -/
/-- what its parameters hold at the end: mask tells which it never stores -/
def parm (mask : List Bool) (env : En) : En := List.zipWith (fun (b : Bool) o => if b = true then o else none) mask env
def fnW (mask : List Bool) (loc : Nat) (wb : WS) : WF := fun ds R => ds.length = mask.length ∧ wb (ds.map some ++ List.replicate loc none) ⟨fun env => R .non (parm mask env), fun r env => R r (parm mask env), fun _ => False, fun _ => False⟩
/-- the parameters that it never stores, by their places -/
def keptOf (mask : List Bool) : List Nat := (List.range mask.length).filter fun i => mask.getD i false
section
variable {K : PySem.W.Frag} {F F' H H' : Hp} {σ : St} {B : Addr → Prop} {env env' : En} {As As' : List (List Addr)}
theorem parm_env : ∀ {mask : List Bool} {vs : List V} {env : En} {σ : St} {As : List (List Addr)}, EnvR K F H env σ As → mask.length = vs.length → vs.length ≤ σ.length → (∀ i : Nat, mask[i]? = some true → σ[i]? = (vs.map some)[i]?) →
    ∃ As', EnvR K F H (parm mask env) (vs.map some) As' ∧ As'.flatten.Sublist As.flatten := by
  intro mask
  induction mask with
  | nil =>
    intro vs env σ As r hl _ _
    cases vs with
    | nil => exact ⟨[], .nil, List.nil_sublist _⟩
    | cons _ _ => simp at hl
  | cons b mask ih =>
    intro vs env σ As r hl hs h
    cases vs with
    | nil => simp at hl
    | cons v vs =>
      cases r with
      | nil => simp at hs
      | @emp es σ As o r =>
        obtain ⟨As', q1, q2⟩ := ih r (by simpa using hl) (by simpa using hs) fun i hi => by simpa using h (i + 1) (by simpa using hi)
        refine ⟨[] :: As', ?_, by simpa using q2⟩
        unfold parm
        simp only [List.zipWith_cons_cons, ite_self]
        exact .emp q1
      | @val d w A es σ As x r =>
        obtain ⟨As', q1, q2⟩ := ih r (by simpa using hl) (by simpa using hs) fun i hi => by simpa using h (i + 1) (by simpa using hi)
        cases b with
        | true =>
          have h0 := h 0 (by simp)
          simp at h0
          subst h0
          refine ⟨A :: As', ?_, by simpa using List.Sublist.append_left q2 A⟩
          unfold parm
          simp only [List.zipWith_cons_cons, if_true]
          exact .val x q1
        | false =>
          refine ⟨[] :: As', ?_, ?_⟩
          · unfold parm
            simp only [List.zipWith_cons_cons]
            exact .emp q1
          · simpa using q2.trans (List.sublist_append_right _ _)
theorem envR_pad {es : En} {σ : St} {As : List (List Addr)} (r : EnvR K F H es σ As) : ∀ n : Nat, EnvR K F H (es ++ List.replicate n none) (σ ++ List.replicate n none) (As ++ List.replicate n []) := by
  have pad : ∀ n : Nat, EnvR K F H (List.replicate n none) (List.replicate n none) (List.replicate n []) := fun n => by
    induction n with
    | zero => exact .nil
    | succ n ih => exact .emp ih
  intro n
  induction r with
  | nil => exact pad n
  | emp r ih => exact .emp ih
  | val x r ih => exact .val x ih
theorem flat_pad (As : List (List Addr)) (n : Nat) : (As ++ List.replicate n []).flatten = As.flatten := by
  rw [List.flatten_append, List.flatten_replicate_nil, List.append_nil]
end
section
variable {P : Program} {w : World} {K : PySem.W.Frag} {mg : Str → Option Value} {base : Heap}
/-- THE RULE: a def keeps the promise that its body's data tell -/
theorem fn_data {x qual : Str} {st : Stmt} {f : Addr} {fd : FuncData} {N ps : List Str} {k : Nat} {mask : List Bool} {loc : Nat} {wb : WS} (G : Fun K x qual st f fd) (S : FnScope N ps (defScope st)) (hN : N.length = mask.length + loc) (hps : ps.length = mask.length)
    (hbody : ∀ (cdv : Value) (A : Around) (outer : List Env) (s : Shared) (H : Hp) (E : XK), Room k (A.deeper (PyProof.Rows.envOfC qual (defScope st) s.heap.objs.size f cdv)) → (A.deeper (PyProof.Rows.envOfC qual (defScope st) s.heap.objs.size f cdv)).guards = some [] →
      DSs (keptOf mask) (cxOf CX0 P w K mg base N qual (defScope st) f cdv A outer s H E).nox (defBody st) wb) : FnG P w K mg base CX0 (k + 1) f fd ps (spD K (fnW mask loc wb)) := by
  obtain ⟨oc, od, kV, doc, pm, an, cdv, ct, osl, hfd, lk, hcd⟩ := G.ex
  refine fng_of hfd lk hcd S (fun vs H Q E h => ?_) (fun A outer s H vs Q E hr hgd h => ?_)
  · obtain ⟨F, B, ds, As, R, so, ⟨hl, _⟩, _⟩ := h
    have := so.env.len.1
    simp at this
    omega
  · obtain ⟨F, B, ds, As, R, so, ⟨hl, hw⟩, kk⟩ := h
    have hlv : vs.length = mask.length := by
      have := so.env.len.1
      simp at this
      omega
    refine ⟨_, (hbody cdv A outer s H E hr hgd).ps.nox, ?_⟩
    have es : L2.start N vs = vs.map some ++ List.replicate loc none := by
      unfold L2.start
      rw [hN, hlv]
      congr 2
      omega
    rw [es]
    have so' : SO K F H B (ds.map some ++ List.replicate loc none) (vs.map some ++ List.replicate loc none) (As ++ List.replicate loc []) :=
      ⟨so.same, envR_pad so.env loc, by rw [flat_pad]; exact so.nd, by rw [flat_pad]; exact so.fr, by rw [flat_pad]; exact so.out⟩
    -- the end
    have fin : ∀ {σ' H' F' As' env' r v a}, PostS K (keptOf mask) F H B (vs.map some ++ List.replicate loc none) F' H' env' σ' As' → TO K F' H' B As' r v a → R r (parm mask env') → Q v H' := fun {σ' H' F' As' env' r v a} po t h => by
      obtain ⟨As2, q1, q2⟩ := parm_env (mask := mask) (vs := vs) po.so.env hlv.symm (by rw [po.len]; simp) (fun i hi => by
        have hil : i < mask.length := (List.getElem?_eq_some_iff.mp hi).1
        rw [po.kp i (List.mem_filter.mpr ⟨List.mem_range.mpr hil, by rw [List.getD_eq_getElem?_getD, hi]; rfl⟩), List.getElem?_append_left (by rw [List.length_map]; omega)])
      have nd2 := q2.nodup po.so.nd
      refine kk v H' F' As2 a r _ ⟨po.ext, ⟨po.so.same, q1, nd2, fun x hx => po.so.fr x (q2.subset hx), fun b hb => ?_⟩, po.keep, fun z => Bool.noConfusion z⟩ (t.sub nd2 fun x hx => q2.subset hx) h
      obtain ⟨k1, k2, k3⟩ := po.so.out b hb
      exact ⟨k1, k2, fun z => k3 (q2.subset z)⟩
    exact ⟨F, B, _, _, _, so', hw, fun σ' H' F' As' env' po h => fin po (.sc po.so .non) h, fun _ _ _ _ _ _ h => h.elim, fun _ _ _ _ _ _ h => h.elim, fun v σ' H' F' As' a d env' po t h => fin po t h⟩
/-- a weaker promise -/
theorem fn_imp {k : Nat} {f : Addr} {fd : FuncData} {ps : List Str} {w1 w2 : WF} (G : FnG P w K mg base CX0 k f fd ps (spD K w1)) (h : ∀ ds R, w2 ds R → w1 ds R) : FnG P w K mg base CX0 k f fd ps (spD K w2) :=
  G.imp fun vs H Q E ⟨F, B, ds, As, R, so, hw, kk⟩ => ⟨F, B, ds, As, R, so, h ds R hw, kk⟩
end
end PL

/-! PLk: from the law's data to the law. -/
namespace PL
open PySem PySem.Spec PyProof.Rows L2

/-- the law's call, by its def's promise: H tells the script alone -/
theorem law_core {P : Program} {w : World} {K : PySem.W.Frag} {mg mb : Str → Option Value} {CX : CXT} {k : Nat} {fa a : Addr} {fd : FuncData} {x : Str} {sp : Sp} {s : Shared} {H : Hp}
    (KX : K.In s.heap) (hns : s.heap.Ns mainGlobals mg) (hb : s.heap.Ns builtinsNs mb) (hbb : ∀ x : Str, x ≠ "__name__" → mb x = bootBuiltins x) (hlim : s.heap.NoLimit) (hg : s.gens = #[]) (hr : Room k callerA)
    (F : ∀ base : Heap, K.In base → base.Ns mainGlobals mg → FnG P w K mg base CX k fa fd [x] sp) (hbind : ∀ (s : Shared) (u : Value), BindsTo s fd ⟨[u], []⟩ [(x, u)])
    (hO : Only H) (hok : HOk P w H s.heap) (hd : ∀ b o, s.heap.get? b = some o → (∃ es ep, o.data = .dict es ep) → H b = none) (hK : ∀ b o, K.lookup b = some o → H b = none)
    (hsp : sp [.ref a] H (fun v _ => v = .bl true) fun _ _ _ => False) (hCX : ∀ e s', CX [] H s (fun _ _ _ => False) e s' → False) :
    codeAny (model P w) callerA (.call (.ref fa) ⟨[.ref a], []⟩) (fun r s' => r = .ok (.ret (.bool true)) ∧ OldK s.heap s'.heap ∧ s'.os = s.os ∧ AllBare s'.gens) s := by
  have hide : ∀ {b : Addr} {m : Str → Option Value}, s.heap.Ns b m → (hidT s.heap H).Ns b m := by
    rintro b m ⟨o, es, ep, e, d, r⟩
    exact ⟨o, es, ep, hidT_get e (hd b o e ⟨es, ep, d⟩), d, r⟩
  have kin : K.In (hidT s.heap H) := fun b o e => hidT_get (KX b o e) (hK b o e)
  obtain ⟨mc, l1, l2⟩ := hlim
  have e0 : Env0 P w K mg (hidT s.heap H) callerA [] s H :=
    ⟨rfl, ⟨kin, hide hns, ⟨mb, hide hb, hbb⟩, mc, hide l1, l2⟩, fun b o e => of_hidT e, Nat.le_of_eq (hidT_size _ _), trivial, (fun b z => nomatch z), hok, .of_eq hg⟩
  have run := (F _ kin (hide hns)).go callerA hr rfl [] s H e0 ⟨[.ref a], []⟩ [.ref a] [.ref a] (hbind s (.ref a)) (.cons rfl .nil) _ _ hsp
  refine codeAny_mono run ?_
  rintro (e | fl) s' done
  · exact (hCX e s' done).elim
  · cases fl with
    | ret u =>
      obtain ⟨v, H', os, bare, un, hok', rv, rfl⟩ := done
      obtain rfl : u = Value.bool true := rv
      refine ⟨rfl, .of_keep ?_, os, bare⟩
      intro b o e
      rcases hO b with z | ⟨ob, xs, z⟩
      · exact un.keep b o e z (fun q => nomatch q) (fun q => nomatch q)
      · have h1 := (hok b _ z).1
        have h2 := (hok' b _ (un.frzs b ob _ z)).1
        rw [e] at h1
        exact h2.trans h1.symm
    | _ => exact done.elim
theorem law_callG {P : Program} {w : World} {K : PySem.W.Frag} {mg mb : Str → Option Value} {CX : CXT} {k : Nat} {fa a : Addr} {fd : FuncData} {x : Str} {sp : Sp} {s : Shared} {vs : List Value} {ns : List Int}
    (KX : K.In s.heap) (hns : s.heap.Ns mainGlobals mg) (hb : s.heap.Ns builtinsNs mb) (hbb : ∀ x : Str, x ≠ "__name__" → mb x = bootBuiltins x) (hlim : s.heap.NoLimit) (hg : s.gens = #[])
    (ha : s.heap.get? a = some { cls := .type "list", data := .seq vs.toArray }) (hi : IntsAre vs ns) (hl : ns.length ≤ sizeLine) (hr : Room k callerA)
    (F : ∀ base : Heap, K.In base → base.Ns mainGlobals mg → FnG P w K mg base CX k fa fd [x] sp) (hbind : ∀ (s : Shared) (u : Value), BindsTo s fd ⟨[u], []⟩ [(x, u)])
    (hsp : ∀ H : Hp, Only H → SqL K H a (ns.map V.int) → sp [.ref a] H (fun v _ => v = .bl true) fun _ _ _ => False) (hCX : ∀ H e s', CX [] H s (fun _ _ _ => False) e s' → False) :
    codeAny (model P w) callerA (.call (.ref fa) ⟨[.ref a], []⟩) (fun r s' => r = .ok (.ret (.bool true)) ∧ OldK s.heap s'.heap ∧ s'.os = s.os ∧ AllBare s'.gens) s := by
  have rv := vals_ints hi
  cases hk : K.lookup a with
  | some o =>
    have e := KX a o hk
    rw [ha] at e; cases e
    have ok : HOk P w (fun _ => none) s.heap := fun b u z => nomatch z
    refine law_core (H := fun _ => none) KX hns hb hbb hlim hg hr F hbind (fun _ => .inl rfl) ok (fun _ _ _ _ => rfl) (fun _ _ _ => rfl) (hsp _ (fun _ => .inl rfl) (.inr ⟨_, vs.toArray, _, hk, rfl, rfl, rfl, ?_, ?_⟩)) (hCX _)
    · rw [List.size_toArray, hi.length]; exact hl
    · exact rv
  | none =>
    let ob : Obj := { cls := .type "list", data := .seq vs.toArray }
    have at_ : ∀ b, upd (fun _ => none) a (.frz ob (.lst (ns.map V.int))) b ≠ none → b = a := fun b z => by
      by_cases h : b = a
      · exact h
      · exact absurd (upd_ne h) z
    have only : Only (upd (fun _ => none) a (.frz ob (.lst (ns.map V.int)))) := fun b => by
      by_cases h : b = a
      · subst h; exact .inr ⟨_, _, upd_same⟩
      · exact .inl (upd_ne h)
    have ok : HOk P w (upd (fun _ => none) a (.frz ob (.lst (ns.map V.int)))) s.heap := fun b u z => by
      obtain rfl := at_ b (by rw [z]; exact fun q => nomatch q)
      rw [upd_same] at z; cases z
      exact ⟨ha, by rw [List.length_map]; exact hl, vs, _, rv, ha⟩
    refine law_core (H := upd (fun _ => none) a (.frz ob (.lst (ns.map V.int)))) KX hns hb hbb hlim hg hr F hbind only ok (fun b o e => ?_) (fun b o e => ?_) (hsp _ only (.inl (.inr ⟨_, upd_same⟩))) (hCX _)
    · rintro ⟨es, ep, d⟩
      refine upd_ne fun h => ?_
      subst h
      rw [ha] at e; cases e; cases d
    · exact upd_ne fun h => by subst h; rw [hk] at e; cases e
/-- the walk of a law -/
theorem walkG {l : PySem.W.OpenLaw} {n k : Nat} {q : Program} {loose : List Str} {XP : (Str → Option Value) → Heap → Prop} {YP : World → Heap → Prop} {d : DefRec} {K : Params → PySem.W.Frag} {CX : World → CXT} {sp : World → Sp} {x : Str}
    (hn : l.most = some n) (hn2 : n ≤ sizeLine) (hdf : d.params.defaults = []) (hr : Room k callerA) (hY : ∀ (w : World) (h : Heap), YP w h → (K w.params).In h)
    (F : ∀ (w : World) (mg : Str → Option Value) (fa : Addr) (h : Heap), (K w.params).In h → h.Ns mainGlobals mg → mg d.name = some (.ref fa) → ∃ fd : FuncData, (∀ (s : Shared) (u : Value), BindsTo s fd ⟨[u], []⟩ [(x, u)]) ∧
      ∀ base : Heap, (K w.params).In base → base.Ns mainGlobals mg → FnG l.prog w (K w.params) mg base (CX w) k fa fd [x] (sp w))
    (hsp : ∀ (w : World) (H : Hp) (a : Addr) (ns : List Int), ns.length ≤ n → Only H → SqL (K w.params) H a (ns.map V.int) → sp w [.ref a] H (fun v _ => v = .bl true) fun _ _ _ => False)
    (hCX : ∀ (w : World) (H : Hp) (s : Shared) (e : Value) (s' : Shared), CX w [] H s (fun _ _ _ => False) e s' → False) : PySem.W.WalkO q loose XP YP l.row.toRowW d [] (fun f vs => PySem.call f vs) := by
  refine Att.attach_call hn hdf ?_
  intro w s₀ s₁ mg mb fa o pm cd doc a vs ns G Y ho hd hcd hmg hobj hints hlen hg
  have kin := hY w _ Y
  obtain ⟨fd, bnd, hF⟩ := F w mg fa _ kin G.T.g hmg
  exact law_callG kin G.T.g G.T.b G.T.builtins G.T.nolimit hg hobj hints (Nat.le_trans hlen hn2) hr hF bnd (fun H hO hS => hsp w H a ns hlen hO hS) fun H e s' => hCX w H s₁ e s'
/-- the law's data: the script's numbers in, True out -/
def LawOk (n : Nat) (w : WF) : Prop := ∀ ns : List Int, ns.length ≤ n → w [.obj false .sq (ns.map fun i => D.int i)] fun r _ => r = .bl true
theorem law_sp {K : PySem.W.Frag} {n : Nat} {w : WF} (h : LawOk n w) (H : Hp) (a : Addr) (ns : List Int) (hl : ns.length ≤ n) (hS : SqL K H a (ns.map V.int)) : spD K w [.ref a] H (fun v _ => v = .bl true) fun _ _ _ => False := by
  refine ⟨H, fun _ => False, _, [[]], _, ⟨Same.refl _, .val (.frz (sh := .sq) hS ?_) .nil, by simp, (fun x z => by simp at z), fun b z => z.elim⟩, h ns hl, ?_⟩
  · rw [show (ns.map fun i => D.int i) = (ns.map V.int).map D.sc from map_sc ns]
    exact RepL.sc_of _
  · rintro v H' F' As' a' r ds' _ t rfl
    exact t.rep.sc_inv.1
end PL

/-! PLl: calls by name (keywords too), isinstance, repr, truth of values, unary operators. -/
namespace PL
open PySem L2

/-! ### a def that may be called -/
structure Cal (P : Program) (w : World) (K : PySem.W.Frag) (mg : Str → Option Value) (base : Heap) (k : Nat) (x : Str) (st : Stmt) (ps : List Str) (wf : WF) : Prop where
  ex : ∃ (f : Addr) (fd : FuncData), FnG P w K mg base CX0 k f fd ps (spD K wf) ∧ mg x = some (.ref f) ∧ PySem.W.keepIn K (.ref f) = true ∧ Binds K fd ps [] ∧ Fun K x x st f fd
theorem Cal.imp {P : Program} {w : World} {K : PySem.W.Frag} {mg : Str → Option Value} {base : Heap} {k : Nat} {x : Str} {st : Stmt} {ps : List Str} {w1 w2 : WF} (C : Cal P w K mg base k x st ps w1) (h : ∀ ds R, w2 ds R → w1 ds R) : Cal P w K mg base k x st ps w2 := by
  obtain ⟨f, fd, h1, h2⟩ := C.ex
  exact ⟨f, fd, fn_imp h1 h, h2⟩
theorem Cal.mono {P : Program} {w : World} {K : PySem.W.Frag} {mg : Str → Option Value} {base : Heap} {k j : Nat} {x : Str} {st : Stmt} {ps : List Str} {w1 : WF} (C : Cal P w K mg base k x st ps w1) (h : k ≤ j) : Cal P w K mg base j x st ps w1 := by
  obtain ⟨f, fd, h1, h2⟩ := C.ex
  exact ⟨f, fd, h1.mono h, h2⟩
theorem Cal.mk' {P : Program} {w : World} {K : PySem.W.Frag} {mg : Str → Option Value} {base : Heap} {k : Nat} {x : Str} {st : Stmt} {ps : List Str} {wf : WF} {f : Addr} {fd : FuncData} (G : Fun K x x st f fd) (hm : mg x = some (.ref f)) (hb : Binds K fd ps []) (h : FnG P w K mg base CX0 k f fd ps (spD K wf)) : Cal P w K mg base k x st ps wf := ⟨f, fd, h, hm, G.kp, hb, G⟩
section
variable {X : Cx} {k j n : Nat} {x : Str} {st : Stmt} {ps ks : List Str} {q pos : Pos} {e : Expr} {es : List Expr} {kws : List Keyword} {w : WF} {wc wk : WC}
theorem de_cal (C : Cal X.prog X.w X.K X.mg X.base k x st ps w) (hr : Room j X.A) (hj : k ≤ j) (hgd : X.A.guards = some []) (hg : Gl X x) (ha : DC X (e :: es) wc)
    (hdb : (x == ("__debug__" : Str)) = false := by decide) (he : starEach (e :: es) X.env = (false, eval e X.env) :: starEach es X.env := by rfl) (hpl : (backTo pos (starEach es X.env)).any (·.1) = false := by rfl) :
    DE false X (.Call (.Name x q) (e :: es) [] pos) (wCall w wc) := by
  obtain ⟨f, fd, G, hm, hk, hb, _⟩ := C.ex
  exact de_call G (hr.mono hj) hgd hg hm hk hb ha hdb he hpl
/-! keywords -/
def pick {α : Type} (perm : List Nat) (l : List α) : List α := perm.filterMap fun i => l[i]?
/-- nothing own comes in by value -/
def plainA : List AV → Bool
  | [] => true
  | .val d :: r => d.fz && plainA r
  | .ref _ :: r => plainA r
theorem IR.plain {K : PySem.W.Frag} {F H : Hp} {σ : St} {is : List AV} {vs : List V} {a : List Addr} (r : IR K F H σ is vs a) (h : plainA is = true) : a = [] := by
  induction r with
  | nil => rfl
  | val x r ih =>
    simp only [plainA, Bool.and_eq_true] at h
    rw [x.fzNil h.1, ih h.2]; rfl
  | ref _ r ih => exact ih h
theorem IR.get {K : PySem.W.Frag} {F H : Hp} {σ : St} : ∀ {is : List AV} {vs : List V} {i : Nat}, IR K F H σ is vs [] → i < is.length → ∃ x v, is[i]? = some x ∧ vs[i]? = some v ∧ IR K F H σ [x] [v] [] := by
  intro is
  induction is with
  | nil => intro vs i r h; simp at h
  | cons x is ih =>
    intro vs i r h
    generalize hA : ([] : List Addr) = A at r
    cases r with
    | @val d v a _ vs b r1 r2 =>
      obtain ⟨rfl, rfl⟩ := List.append_eq_nil_iff.mp hA.symm
      cases i with
      | zero => exact ⟨_, _, rfl, rfl, .val (a := []) (b := []) r1 .nil⟩
      | succ i => exact ih r2 (by simpa using h)
    | @ref i' v _ vs b r1 r2 =>
      subst hA
      cases i with
      | zero => exact ⟨_, _, rfl, rfl, .ref r1 .nil⟩
      | succ i => exact ih r2 (by simpa using h)
theorem IR.cons1 {K : PySem.W.Frag} {F H : Hp} {σ : St} {x : AV} {v : V} {is : List AV} {vs : List V} (r : IR K F H σ [x] [v] []) (s : IR K F H σ is vs []) : IR K F H σ (x :: is) (v :: vs) [] := by
  generalize hA : ([] : List Addr) = A at r
  cases r with
  | val r1 r2 =>
    cases r2
    rw [List.append_nil] at hA; subst hA
    exact .val (a := []) (b := []) r1 s
  | ref r1 r2 =>
    subst hA
    exact .ref r1 s
theorem IR.pick {K : PySem.W.Frag} {F H : Hp} {σ : St} {is : List AV} {vs : List V} (r : IR K F H σ is vs []) : ∀ perm : List Nat, (∀ i ∈ perm, i < is.length) → IR K F H σ (pick perm is) (pick perm vs) []
  | [], _ => .nil
  | i :: perm, h => by
    obtain ⟨x, v, h1, h2, h3⟩ := r.get (h i (List.mem_cons_self ..))
    unfold PL.pick
    rw [List.filterMap_cons, h1, List.filterMap_cons, h2]
    exact IR.cons1 h3 (IR.pick r perm fun j hj => h j (List.mem_cons_of_mem _ hj))
theorem IR.app {K : PySem.W.Frag} {F H : Hp} {σ : St} {is js : List AV} {vs us : List V} (r : IR K F H σ is vs []) (s : IR K F H σ js us []) : IR K F H σ (is ++ js) (vs ++ us) [] := by
  generalize hA : ([] : List Addr) = A at r
  induction r with
  | nil => exact s
  | @val d v a _ vs b r1 r2 ih =>
    obtain ⟨rfl, rfl⟩ := List.append_eq_nil_iff.mp hA.symm
    exact .val (a := []) (b := []) r1 (ih rfl)
  | ref r1 r2 ih => exact .ref r1 (ih hA)
structure DCK (X : Cx) (kws : List Keyword) (w : WC) : Prop where
  pk : PK X kws (liftC X.K w)
theorem PKimp {X : Cx} {e : List Keyword} {t t' : TA} (h : PK X e t) (i : ∀ σ H Q, t' σ H Q → t σ H Q) : PK X e t' := ⟨fun pos pins s σ H Q I q => h.run pos pins s σ H Q I (i σ H Q q)⟩
theorem dck_nil : DCK X [] cNil := ⟨PKimp pk_nil fun σ H Q ⟨F, B, env, As, R, s, hw, k⟩ => k [] H F As [] [] env (.refl s) ⟨.nil, by simpa using s.nd, (fun _ z => nomatch z), (fun _ z => nomatch z)⟩ hw⟩
theorem dck_val {p : Bool} {we : WE} {nm : Option Str} {kpos : Pos} (h : DE p X e we) (hs : DCK X kws wc) : DCK X (⟨nm, e, kpos⟩ :: kws) (cVal we wc) := by
  refine ⟨PKimp (pk_cons h.pe hs.pk) ?_⟩
  rintro σ H Q ⟨F, B, env, As, R, s, hw, k⟩
  refine ⟨F, B, env, As, _, s, hw, fun v H1 F1 As1 a d e1 po1 t1 h1 => ?_⟩
  refine ⟨F1, Bx B a, e1, As1, _, po1.so.push t1, h1, fun vs H2 F2 As2 b is e2 po2 t2 h2 => ?_⟩
  exact k _ H2 F2 As2 (a ++ b) _ e2 (po1.weak.trans po2.pop) (.keep t1 po2 t2) h2
theorem dck_ref {i : Nat} {nm : Option Str} {kpos : Pos} (h : PE X e (tVar i)) (hs : DCK X kws wc) : DCK X (⟨nm, e, kpos⟩ :: kws) (cRef i wc) := by
  refine ⟨PKimp (pk_cons h hs.pk) ?_⟩
  rintro σ H Q ⟨F, B, env, As, R, s, ⟨⟨d, hd⟩, hw⟩, k⟩
  obtain ⟨v, a, h1, h2, h3⟩ := s.env.get hd
  refine ⟨v, h1, F, B, env, As, _, s, hw, fun vs H2 F2 As2 b is e2 po2 t2 h2 => ?_⟩
  exact k _ H2 F2 As2 b _ e2 po2 ⟨.ref h1 t2.rep, t2.nd, t2.fr, t2.nb⟩ h2
/-- f(e, .., k = v, ..) -/
def wCallK (n m : Nat) (perm : List Nat) (f : WF) (wc wk : WC) : WE := fun env R => wc env fun is e1 => is.length = n ∧ plainA is = true ∧ wk e1 fun js e2 => js.length = m ∧ plainA js = true ∧ (perm.all fun i => decide (i < (is ++ js).length)) = true ∧ match takeA e2 (pick perm (is ++ js)) with
  | some (ds, e3) => f ds fun r ds' => R r (putA e3 (pick perm (is ++ js)) ds')
  | none => False
def KB (K : PySem.W.Frag) (fd : FuncData) (ps : List Str) (n : Nat) (ks : List Str) (perm : List Nat) : Prop := ∀ (s : Shared) (us ws : List Value), K.In s.heap → us.length = n → ws.length = ks.length → BindsTo s fd ⟨us, ks.zip ws⟩ (ps.zip (pick perm (us ++ ws)))
theorem kb_of {K : PySem.W.Frag} {f : Addr} {fd : FuncData} {perm : List Nat} (G : Fun K x x st f fd) (h : ∀ (kV doc pm : Value) (an : Option Addr) (cdv ct : Value) (us ws : List Value), us.length = n → ws.length = ks.length →
    bindArgs (PySem.W.fnOf x x (defArgs st) (defBody st) (defScope st) .none kV doc pm an cdv ct) ⟨us, ks.zip ws⟩ = pure (ps.zip (pick perm (us ++ ws)))) : KB K fd ps n ks perm := by
  obtain ⟨oc, od, kV, doc, pm, an, cdv, ct, osl, rfl, lk, hcd⟩ := G.ex
  exact fun s us ws _ h1 h2 => .of_eq (h kV doc pm an cdv ct us ws h1 h2)
theorem valsPick {vs : List V} {us : List Value} (r : Vals vs us) : ∀ perm, Vals (pick perm vs) (pick perm us)
  | [] => .nil
  | i :: perm => by
    unfold PL.pick
    rw [List.filterMap_cons, List.filterMap_cons]
    cases h : vs[i]? with
    | none =>
      rw [r.none_of h]
      exact valsPick r perm
    | some v =>
      obtain ⟨u, h1, h2⟩ := r.get h
      rw [h1]
      exact .cons h2 (valsPick r perm)
theorem callk_core {K : PySem.W.Frag} {f : WF} {perm : List Nat} {wc wk : WC} {n m : Nat} : ∀ σ H Q, liftE K false (wCallK n m perm f wc wk) σ H Q → (liftC K wc) σ H fun vs H1 => vs.length = n ∧ (liftC K wk) σ H1 fun zs H2 => zs.length = m ∧ spD K f (pick perm (vs ++ zs)) H2 Q E0 := by
  rintro σ H Q ⟨F, B, env, As, R, s, hw, k⟩
  refine ⟨F, B, env, As, _, s, hw, fun vs H1 F1 As1 a is e1 po1 t1 ⟨hn, hp1, h1⟩ => ?_⟩
  have := t1.rep.plain hp1; subst this
  refine ⟨by rw [← t1.rep.length]; exact hn, F1, B, e1, As1, _, po1.so, h1, fun zs H2 F2 As2 b js e2 po2 t2 ⟨hm, hp2, hpm, h2⟩ => ⟨by rw [← t2.rep.length]; exact hm, ?_⟩⟩
  have := t2.rep.plain hp2; subst this
  have ir := ((t1.rep.frame po2.ext fun _ z => nomatch z).app t2.rep).pick perm (by simpa using hpm)
  have tt : TI K F2 H2 B σ As2 (pick perm (is ++ js)) (pick perm (vs ++ zs)) [] := ⟨ir, by simpa using po2.so.nd, (fun _ z => nomatch z), fun _ z => nomatch z⟩
  have po12 := po1.trans po2
  exact call_at po2.so tt h2 fun v H' F' As' c r env' po t h => k v H' F' As' c r env' (po12.trans po) t h
open PySem.Spec PyProof.Rows in
theorem peg_callK {f : Addr} {fd : FuncData} {sp : Sp} {perm : List Nat} {ta tk : TA} (G : FnG X.prog X.w X.K X.mg X.base CX0 k f fd ps sp) (hr : Room k X.A) (hgd : X.A.guards = some []) (hg : Gl X x) (hm : X.mg x = some (.ref f)) (hkp : PySem.W.keepIn X.K (.ref f) = true) (hb : KB X.K fd ps (es.length + 1) ks perm)
    (ha : PA X (e :: es) ta) (hk : PK X kws tk) (hall : (backToKw pos (keywordEach kws X.env)).all (·.1.isSome) = true := by rfl) (hks : (backToKw pos (keywordEach kws X.env)).filterMap (·.1) = ks := by rfl) (hlen : kws.length = ks.length := by rfl)
    (hdb : (x == ("__debug__" : Str)) = false := by decide) (he : starEach (e :: es) X.env = (false, eval e X.env) :: starEach es X.env := by rfl)
    (hpl : ((backTo pos (starEach (e :: es) X.env)).any (·.1) || (backToKw pos (keywordEach kws X.env)).any (·.1.isNone)) = false := by rfl) :
    PE X (.Call (.Name x q) (e :: es) kws pos) (fun σ H Q => ta σ H fun vs H1 => vs.length = es.length + 1 ∧ tk σ H1 fun zs H2 => zs.length = ks.length ∧ sp (pick perm (vs ++ zs)) H2 Q E0) := by
  refine ⟨fun pins s σ H Q I h => wpAny_Call_Name_kw (ld_glob I hg hm (PySem.W.callWith_KW (h₀ := X.base) I.ok.mod.kin hkp hall (thn (ha.run pos pins s σ H _ I h) ?_) hpl he) hdb)⟩
  rintro us s1 ⟨vs, H1, I1, rv, hl, q1⟩
  refine thn (hk.run pos pins s1 σ H1 _ I1 q1) ?_
  rintro ws s2 ⟨zs, H2, I2, rz, hlz, q2⟩
  refine ⟨I2.kIn, ?_⟩
  rw [hks]
  have rr : Vals (pick perm (vs ++ zs)) (pick perm (us ++ ws)) := valsPick (rv.append rz) perm
  refine wpAny_call (codeAny_mono (G.go X.A hr hgd X.stack s2 H2 I2.env0 ⟨us, ks.zip ws⟩ _ _ (hb s2 us ws I2.kIn (rv.length ▸ hl) (rz.length ▸ hlz)) rr Q E0 q2) ?_)
  rintro (e | fl) s' done
  · exact done.elim
  · cases fl with
    | ret u => exact I2.after done
    | _ => exact done.elim
open PySem.Spec PyProof.Rows in
theorem peg_callK0 {f : Addr} {fd : FuncData} {sp : Sp} {perm : List Nat} {tk : TA} (G : FnG X.prog X.w X.K X.mg X.base CX0 k f fd ps sp) (hr : Room k X.A) (hgd : X.A.guards = some []) (hg : Gl X x) (hm : X.mg x = some (.ref f)) (hkp : PySem.W.keepIn X.K (.ref f) = true) (hb : KB X.K fd ps 0 ks perm)
    (hk : PK X kws tk) (hall : (backToKw pos (keywordEach kws X.env)).all (·.1.isSome) = true := by rfl) (hks : (backToKw pos (keywordEach kws X.env)).filterMap (·.1) = ks := by rfl)
    (hdb : (x == ("__debug__" : Str)) = false := by decide) (hpl : ((backTo pos (starEach [] X.env)).any (·.1) || (backToKw pos (keywordEach kws X.env)).any (·.1.isNone)) = false := by rfl) :
    PE X (.Call (.Name x q) [] kws pos) (fun σ H Q => tk σ H fun zs H2 => zs.length = ks.length ∧ sp (pick perm zs) H2 Q E0) := by
  refine ⟨fun pins s σ H Q I h => wpAny_Call_Name_kw (ld_glob I hg hm (PySem.W.callWith_KW0 (h₀ := X.base) I.ok.mod.kin hkp hall (thn (hk.run pos pins s σ H _ I h) ?_) hpl) hdb)⟩
  rintro ws s2 ⟨zs, H2, I2, rz, hlz, q2⟩
  refine ⟨I2.kIn, ?_⟩
  rw [hks]
  refine wpAny_call (codeAny_mono (G.go X.A hr hgd X.stack s2 H2 I2.env0 ⟨[], ks.zip ws⟩ _ _ (hb s2 [] ws I2.kIn rfl (rz.length ▸ hlz)) (valsPick (by simpa using rz) perm) Q E0 q2) ?_)
  rintro (e | fl) s' done
  · exact done.elim
  · cases fl with
    | ret u => exact I2.after done
    | _ => exact done.elim
/-- f(e, .., k = v, ..), some given by place -/
theorem de_calK {perm : List Nat} (C : Cal X.prog X.w X.K X.mg X.base k x st ps w) (hr : Room j X.A) (hj : k ≤ j) (hgd : X.A.guards = some []) (hg : Gl X x) (ha : DC X (e :: es) wc) (hk : DCK X kws wk)
    (hbind : ∀ (kV doc pm : Value) (an : Option Addr) (cdv ct : Value) (us ws : List Value), us.length = es.length + 1 → ws.length = ks.length → bindArgs (PySem.W.fnOf x x (defArgs st) (defBody st) (defScope st) .none kV doc pm an cdv ct) ⟨us, ks.zip ws⟩ = pure (ps.zip (pick perm (us ++ ws))))
    (hall : (backToKw pos (keywordEach kws X.env)).all (·.1.isSome) = true := by rfl) (hks : (backToKw pos (keywordEach kws X.env)).filterMap (·.1) = ks := by rfl) (hlen : kws.length = ks.length := by rfl)
    (hdb : (x == ("__debug__" : Str)) = false := by decide) (he : starEach (e :: es) X.env = (false, eval e X.env) :: starEach es X.env := by rfl)
    (hpl : ((backTo pos (starEach (e :: es) X.env)).any (·.1) || (backToKw pos (keywordEach kws X.env)).any (·.1.isNone)) = false := by rfl) :
    DE false X (.Call (.Name x q) (e :: es) kws pos) (wCallK (es.length + 1) ks.length perm w wc wk) := by
  obtain ⟨f, fd, G, hm, hkp, hb, D⟩ := C.ex
  exact ⟨PEimp (peg_callK G (hr.mono hj) hgd hg hm hkp (kb_of D hbind) ha.pa hk.pk hall hks hlen hdb he hpl) callk_core⟩
theorem de_calK0 {perm : List Nat} (C : Cal X.prog X.w X.K X.mg X.base k x st ps w) (hr : Room j X.A) (hj : k ≤ j) (hgd : X.A.guards = some []) (hg : Gl X x) (hk : DCK X kws wk)
    (hbind : ∀ (kV doc pm : Value) (an : Option Addr) (cdv ct : Value) (us ws : List Value), us.length = 0 → ws.length = ks.length → bindArgs (PySem.W.fnOf x x (defArgs st) (defBody st) (defScope st) .none kV doc pm an cdv ct) ⟨us, ks.zip ws⟩ = pure (ps.zip (pick perm (us ++ ws))))
    (hall : (backToKw pos (keywordEach kws X.env)).all (·.1.isSome) = true := by rfl) (hks : (backToKw pos (keywordEach kws X.env)).filterMap (·.1) = ks := by rfl)
    (hdb : (x == ("__debug__" : Str)) = false := by decide) (hpl : ((backTo pos (starEach [] X.env)).any (·.1) || (backToKw pos (keywordEach kws X.env)).any (·.1.isNone)) = false := by rfl) :
    DE false X (.Call (.Name x q) [] kws pos) (wCallK 0 ks.length perm w cNil wk) := by
  obtain ⟨f, fd, G, hm, hkp, hb, D⟩ := C.ex
  refine ⟨PEimp (peg_callK0 G (hr.mono hj) hgd hg hm hkp (kb_of D hbind) hk.pk hall hks hdb hpl) fun σ H Q h => ?_⟩
  obtain ⟨F, B, env, As, R, s, ⟨_, _, hw⟩, kk⟩ := h
  have := callk_core (K := X.K) (f := w) (perm := perm) (wc := cNil) (wk := wk) (n := 0) (m := ks.length) σ H Q ⟨F, B, env, As, R, s, ⟨rfl, rfl, hw⟩, kk⟩
  obtain ⟨F2, B2, env2, As2, R2, s2, ⟨_, _, hw2⟩, kk2⟩ := (show liftE X.K false (wCallK 0 ks.length perm w cNil wk) σ H Q from ⟨F, B, env, As, R, s, ⟨rfl, rfl, hw⟩, kk⟩)
  refine ⟨F, B, env, As, _, s, hw, fun zs H2 F2 As2 b js e2 po2 t2 ⟨hm, hp2, hpm, h2⟩ => ⟨by rw [← t2.rep.length]; exact hm, ?_⟩⟩
  have := t2.rep.plain hp2; subst this
  have ir := t2.rep.pick perm (by simpa using hpm)
  exact call_at po2.so ⟨ir, by simpa using po2.so.nd, (fun _ z => nomatch z), fun _ z => nomatch z⟩ h2 fun v H' F' As' c r env' po t h => kk v H' F' As' c r env' (po2.trans po) t h
end

/-! ### isinstance with built-in types, repr, truth -/
def tyS : D → Option String
  | .sc .non => some "NoneType"
  | .sc (.bl _) => some "bool"
  | .sc (.int _) => some "int"
  | .sc (.str _) => some "str"
  | .tup _ => some "tuple"
  | .obj _ .lst _ => some "list"
  | .obj _ (.dK _) _ => some "dict"
  | .obj _ (.dT _) _ => some "dict"
  | _ => none
def isTy (T U : String) : Bool := T == U || (T == "bool" && U == "int")
theorem kit_all {K : PySem.W.Frag} {T U : String} (hT : T ∈ ["NoneType", "bool", "int", "str", "tuple", "list", "dict"]) (hU : U ∈ ["list", "tuple", "bool", "str", "int"]) : PySem.W.kitOne K (.type T) (.type U) = some (isTy T U) := by
  refine kit_ty ?_
  have : ∀ T ∈ ["NoneType", "bool", "int", "str", "tuple", "list", "dict"], ∀ U ∈ ["list", "tuple", "bool", "str", "int"], kitB T U = some (isTy T U) := by decide +kernel
  exact this T hT U hU
theorem tyS_mem {d : D} {T : String} (h : tyS d = some T) : T ∈ ["NoneType", "bool", "int", "str", "tuple", "list", "dict"] := by
  unfold tyS at h
  split at h <;> first | (cases h; decide) | cases h
theorem Rep.ty {K : PySem.W.Frag} {F H : Hp} {d : D} {v : V} {a : List Addr} {T : String} (r : Rep K F H d v a) (s : Same F H) (h : tyS d = some T) : TyX K H v (.type T) := by
  unfold tyS at h
  split at h
  · cases h; obtain ⟨rfl, _⟩ := r.sc_inv; exact .base .non
  · cases h; obtain ⟨rfl, _⟩ := r.sc_inv; exact .base (.bl _)
  · cases h; obtain ⟨rfl, _⟩ := r.sc_inv; exact .base (.int _)
  · cases h; obtain ⟨rfl, _⟩ := r.sc_inv; exact .base (.str _)
  · cases h
    obtain ⟨p, vs, rfl, e, _⟩ := r.tup_inv s
    rcases e with (e | ⟨o, e⟩) | ⟨o, its, n, e, c, _⟩
    · exact .base (.tup e)
    · exact .fTuple e
    · exact .kTuple e c
  · cases h; obtain ⟨p, vs, a', rfl, e, _⟩ := r.lst_inv s; exact .base (.lst e)
  · cases h
    cases r with
    | own c _ => exact .base (.dK c.1)
    | frz c _ => exact .base (.dK (s _ _ c.1))
  · cases h
    cases r with
    | own c _ => exact .base (.dT c.1)
    | frz c _ => exact .base (.dT (s _ _ c.1))
  · cases h
def rIsiAll (K : PySem.W.Frag) : List V → Hp → VK → Prop := fun xs H Q => rIsi K xs H Q ∨ rIsiT K xs H Q
theorem call_isiA {X : Cx} : CallR X (.builtin "isinstance") (rIsiAll X.K) := call_isi.or call_isiT
def rdIsi : RDA
  | [x, .sc (.ty U)], R => ∃ T, tyS x = some T ∧ U ∈ ["list", "tuple", "bool", "str", "int"] ∧ R (.bl (isTy T U))
  | [x, .tup [.sc (.ty U), .sc (.ty W)]], R => ∃ T, tyS x = some T ∧ U ∈ ["list", "tuple", "bool", "str", "int"] ∧ W ∈ ["list", "tuple", "bool", "str", "int"] ∧ R (.bl (isTy T U || isTy T W))
  | _, _ => False
theorem SqT.tup {K : PySem.W.Frag} {F H : Hp} {p : Addr} {vs : List V} (h : H p = some (.tup vs)) : True := trivial
theorem sIsi {K : PySem.W.Frag} : SndA K (fun xs H Q => rIsi K xs H Q ∨ ∃ x tp cs t us b, xs = [x, .ref tp] ∧ SqT K H tp cs ∧ Paired ClsV cs us ∧ TyX K H x t ∧ PySem.W.kitAny K t us = some b ∧ Q (.bl b) H) rdIsi := by
  intro F H B env σ As ds vs a R Q s r h k
  unfold rdIsi at h
  split at h
  · obtain ⟨T, hT, hU, h⟩ := h
    obtain ⟨v, v2, rfl, ⟨_, r1⟩, ⟨_, r2⟩⟩ := r.two_inv
    obtain ⟨rfl, _⟩ := r2.sc_inv
    exact .inl ⟨_, _, _, _, _, rfl, .ty _, r1.ty s.same hT, kit_all (tyS_mem hT) hU, out_sc s h k⟩
  · obtain ⟨T, hT, hU, hW, h⟩ := h
    obtain ⟨v, v2, rfl, ⟨_, r1⟩, ⟨_, r2⟩⟩ := r.two_inv
    obtain ⟨p, us, rfl, e, q⟩ := r2.tup_inv s.same
    obtain ⟨u1, us1, A1, A2, rfl, _, q1, q2⟩ := q.cons_inv
    obtain ⟨u2, us2, A3, A4, rfl, _, q3, q4⟩ := q2.cons_inv
    obtain ⟨rfl, _⟩ := q4.nil_inv
    obtain ⟨rfl, _⟩ := q1.sc_inv
    obtain ⟨rfl, _⟩ := q3.sc_inv
    refine .inr ⟨_, p, _, _, _, _, rfl, e, .cons (.ty _) (.cons (.ty _) .nil), r1.ty s.same hT, ?_, out_sc s h k⟩
    refine kitAny_cons (kit_all (tyS_mem hT) hU) (fun e1 => ?_) fun e1 => by rw [e1]; rfl
    rw [e1, Bool.false_or]
    exact kitAny_cons (kit_all (tyS_mem hT) hW) (fun e2 => by rw [e2]; rfl) fun e2 => by rw [e2]
  · exact h.elim
open PySem.Spec PyProof.Rows in
theorem call_isiS {X : Cx} : CallR X (.builtin "isinstance") (fun xs H Q => rIsi X.K xs H Q ∨ ∃ x tp cs t us b, xs = [x, .ref tp] ∧ SqT X.K H tp cs ∧ Paired ClsV cs us ∧ TyX X.K H x t ∧ PySem.W.kitAny X.K t us = some b ∧ Q (.bl b) H) := by
  refine CallR.or call_isi ?_
  rintro pins s σ H xs us Q I r ⟨x, tp, cs, t, ws, b, rfl, hT, k, ty, e, q⟩
  obtain ⟨u1, u2, rfl, r1, r2⟩ := vals2 r
  cases (show u2 = Value.ref tp from r2)
  obtain ⟨P, Z, p, hx⟩ := kit_of I r1 ty
  obtain ⟨its, rv, ⟨⟨oc, od, dt, sl⟩, h1, h2, n, h3⟩, _⟩ := I.tuple hT
  cases ClsV.all k rv
  cases h2; cases h3
  exact PySem.W.kia_tup Z I.kIn p h1 e hx fun tk => ⟨.bl b, H, I.tok tk, rfl, q⟩
/-- repr of a list or a tuple of data -/
def rRepr (K : PySem.W.Frag) : List V → Hp → VK → Prop := fun xs H Q => ∃ p d, xs = [.ref p] ∧ Dp K H (.ref p) d ∧ d.showable = true ∧ d.canLay0 = true ∧ d.depth ≤ 63 ∧ d.shown.length ≤ sizeLine ∧ Q (.str d.shown) H
mutual
theorem noDict : ∀ {d : PyData}, d.canLay0 = true → d.hasDict = false
  | .none, _ => rfl
  | .bool _, _ => rfl
  | .int _, _ => rfl
  | .str _, _ => rfl
  | .list xs, h => by simp only [PyData.canLay0] at h; simp only [PyData.hasDict, noDictL h]
  | .tuple xs, h => by simp only [PyData.canLay0] at h; simp only [PyData.hasDict, noDictL h]
  | .dict _, h => by simp [PyData.canLay0] at h
theorem noDictL : ∀ {ds : List PyData}, PyData.canLayAll0 ds = true → PyData.hasDictAll ds = false
  | [], _ => rfl
  | d :: ds, h => by
    simp only [PyData.canLayAll0, Bool.and_eq_true] at h
    simp only [PyData.hasDictAll, noDict h.1, noDictL h.2, Bool.or_self]
end
open PySem.Spec PyProof.Rows in
theorem call_repr {X : Cx} (hgd : X.A.guards = some []) (hu : X.A.units + 64 < cLine) : CallR X (.builtin "repr") (rRepr X.K) := by
  rintro pins s σ H xs us Q I r ⟨p, d, rfl, dp, h1, h2, h3, h4, q⟩
  obtain ⟨u, rfl, ru⟩ := r.one
  obtain rfl : u = Value.ref p := ru
  obtain ⟨as, rd⟩ := Dp.reads I d _ _ dp rfl
  exact repr_of_reads' rd h1 (fun z => by rw [noDict h2] at z; cases z) hgd (by omega) (fun _ _ e => e) (fun h' u tk hk => ⟨.str d.shown, H, I.kept hk, ⟨_, rfl⟩, q⟩) h4
def isBox : D → Bool
  | .tup _ => true
  | .obj _ .lst _ => true
  | _ => false
def rdRepr : RDA
  | [x], R => isBox x = true ∧ x.py.showable = true ∧ x.py.canLay0 = true ∧ x.py.depth ≤ 63 ∧ x.py.shown.length ≤ sizeLine ∧ R (.str x.py.shown)
  | _, _ => False
theorem sRepr {K : PySem.W.Frag} : SndA K (rRepr K) rdRepr := by
  intro F H B env σ As ds vs a R Q s r h k
  unfold rdRepr at h
  split at h
  · obtain ⟨h0, h1, h2, h3, h4, h⟩ := h
    obtain ⟨v, rfl, a', r⟩ := r.one_inv'
    have dp := (Rep.dps s.same).1 r h2
    obtain ⟨p, rfl⟩ : ∃ p, v = .ref p := by
      cases r with
      | sc => simp [isBox] at h0
      | tup _ _ => exact ⟨_, rfl⟩
      | own _ _ => exact ⟨_, rfl⟩
      | frz _ _ => exact ⟨_, rfl⟩
    exact ⟨p, _, rfl, dp, h1, h2, h3, h4, out_sc s h k⟩
  · exact h.elim
/-! truth of any value -/
def truD : D → (Bool → Prop) → Prop
  | .sc .non, k => k false
  | .sc (.bl b), k => k b
  | .sc (.int i), k => k (i != 0)
  | .sc (.str y), k => y.length ≤ sizeLine ∧ k ((y.length : Int) != 0)
  | .tup xs, k => k (!xs.isEmpty)
  | .obj _ sh xs, k => isSeq sh = true ∧ k (!xs.isEmpty)
  | _, _ => False
theorem isE_eq {α β : Type} {xs : List α} {ys : List β} (h : xs.length = ys.length) : xs.isEmpty = ys.isEmpty := by
  cases xs <;> cases ys <;> simp_all
theorem Rep.tru {K : PySem.W.Frag} {F H : Hp} {d : D} {v : V} {a : List Addr} {k : Bool → Prop} (r : Rep K F H d v a) (s : Same F H) (h : truD d k) : ∃ b, TruV K v H b ∧ k b := by
  unfold truD at h
  split at h
  · obtain ⟨rfl, _⟩ := r.sc_inv; exact ⟨_, rfl, h⟩
  · obtain ⟨rfl, _⟩ := r.sc_inv; exact ⟨_, rfl, h⟩
  · obtain ⟨rfl, _⟩ := r.sc_inv; exact ⟨_, rfl, h⟩
  · obtain ⟨rfl, _⟩ := r.sc_inv; exact ⟨_, ⟨h.1, rfl⟩, h.2⟩
  · obtain ⟨p, vs, rfl, e, q⟩ := r.tup_inv s
    exact ⟨_, .inr (.inl ⟨vs, e, rfl⟩), by rw [← isE_eq q.length]; exact h⟩
  · obtain ⟨p, vs, a', rfl, e, q⟩ := r.seq_inv h.1 s
    exact ⟨_, .inl ⟨vs, e, rfl⟩, by rw [← isE_eq q.length]; exact h.2⟩
  · exact h.elim
section
variable {X : Cx} {p : Bool} {e : Expr} {we : WE} {wb : WB} {pos : Pos}
def wTru (w : WE) : WT := fun env R => w env fun d e1 => truD d fun b => R b e1
theorem dt_tru (h : DE p X e we) (he : ∀ whole, isTrue e X.env whole = (do let v ← whole; standAt e.pos; holding [v] (truthy v))) : DT p X e (wTru we) := by
  refine ⟨PTimp (pt_truth h.pe he) ?_⟩
  rintro σ H Q ⟨F, B, env, As, R, s, hw, k⟩
  refine ⟨F, B, env, As, _, s, hw, fun v H1 F1 As1 a x e1 po1 t1 h1 => ?_⟩
  obtain ⟨b, h2, h3⟩ := t1.rep.tru po1.so.same h1
  exact ⟨b, h2, k b H1 F1 As1 e1 po1 h3⟩
/-- not x, -x as values -/
def wNotV (w : WE) : WE := fun env R => w env fun d e1 => asB d fun b => R (.bl (!b)) e1
theorem de_not (h : DE p X e we) : DE p X (.UnaryOp .Not e pos) (wNotV we) := by
  refine ⟨PEimp (pe_not h.pe) ?_⟩
  rintro σ H Q ⟨F, B, env, As, R, s, hw, k⟩
  refine ⟨F, B, env, As, _, s, hw, fun v H1 F1 As1 a x e1 po1 t1 h1 => ?_⟩
  obtain ⟨b, rfl, h2⟩ := asB_inv h1
  obtain ⟨rfl, _⟩ := t1.rep.sc_inv
  exact ⟨b, rfl, k _ H1 F1 As1 [] _ e1 po1 (.sc po1.so _) h2⟩
def wNeg (w : WE) : WE := fun env R => w env fun d e1 => asI d fun b => R (.int (-b)) e1
theorem de_neg (h : DE p X e we) : DE p X (.UnaryOp .USub e pos) (wNeg we) := by
  refine ⟨PEimp (pe_un un_neg h.pe) ?_⟩
  rintro σ H Q ⟨F, B, env, As, R, s, hw, k⟩
  refine ⟨F, B, env, As, _, s, hw, fun v H1 F1 As1 a x e1 po1 t1 h1 => ?_⟩
  obtain ⟨b, rfl, h2⟩ := asI_inv h1
  obtain ⟨rfl, _⟩ := t1.rep.sc_inv
  exact ⟨b, rfl, k _ H1 F1 As1 [] _ e1 po1 (.sc po1.so _) h2⟩
/-! and, or as values -/
variable {a b : Expr} {rest : List Expr} {wa wr : WE}
def wAndV (wa wb : WE) : WE := fun env R => wa env fun d e1 => asB d fun c => if c = true then wb e1 R else R (.bl false) e1
def wOrV (wa wb : WE) : WE := fun env R => wa env fun d e1 => asB d fun c => if c = true then R (.bl true) e1 else wb e1 R
theorem de_one {op} (h : DE p X a wa) : DE p X (.BoolOp op [a] pos) wa := ⟨pe_one h.pe⟩
theorem de_and (ha : DE p X a wa) (hb : DE p X (.BoolOp .And (b :: rest) pos) wr) : DE p X (.BoolOp .And (a :: b :: rest) pos) (wAndV wa wr) := by
  refine ⟨PEimp (pe_and ha.pe hb.pe) ?_⟩
  rintro σ H Q ⟨F, B, env, As, R, s, hw, k⟩
  refine ⟨F, B, env, As, _, s, hw, fun v H1 F1 As1 a x e1 po1 t1 h1 => ?_⟩
  obtain ⟨c, rfl, h2⟩ := asB_inv h1
  obtain ⟨rfl, _⟩ := t1.rep.sc_inv
  refine ⟨c, rfl, ?_⟩
  cases c with
  | true => exact ⟨F1, B, e1, As1, R, po1.so, h2, fun v H2 F2 As2 a d e2 po2 t2 h2 => k v H2 F2 As2 a d e2 (po1.trans po2) t2 h2⟩
  | false => exact k _ H1 F1 As1 [] _ e1 po1 (.sc po1.so _) h2
theorem de_or (ha : DE p X a wa) (hb : DE p X (.BoolOp .Or (b :: rest) pos) wr) : DE p X (.BoolOp .Or (a :: b :: rest) pos) (wOrV wa wr) := by
  refine ⟨PEimp (pe_or ha.pe hb.pe) ?_⟩
  rintro σ H Q ⟨F, B, env, As, R, s, hw, k⟩
  refine ⟨F, B, env, As, _, s, hw, fun v H1 F1 As1 a x e1 po1 t1 h1 => ?_⟩
  obtain ⟨c, rfl, h2⟩ := asB_inv h1
  obtain ⟨rfl, _⟩ := t1.rep.sc_inv
  refine ⟨c, rfl, ?_⟩
  cases c with
  | false => exact ⟨F1, B, e1, As1, R, po1.so, h2, fun v H2 F2 As2 a d e2 po2 t2 h2 => k v H2 F2 As2 a d e2 (po1.trans po2) t2 h2⟩
  | true => exact k _ H1 F1 As1 [] _ e1 po1 (.sc po1.so _) h2
/-- a < b < c -/
def wChain (rd rd' : RD2) (wa wb wc : WE) : WE := fun env R => wa env fun x e1 => wb e1 fun y e2 => y.fz = true ∧ rd x y fun z => asB z fun c => if c = true then wc e2 fun u e3 => rd' y u fun z => R z e3 else R (.bl false) e2
/-- a built-in type as a value -/
theorem de_ty {x : Str} {n : String} (hg : Gl X x) (hm : X.mg x = none) (hv : bootBuiltins x = some (.type n)) (hn : x ≠ "__name__" := by decide) (hd : (x == ("__debug__" : Str)) = false := by decide) : DE p X (.Name x pos) (wC (.sc (.ty n))) := de_of_c (pe_bltn hg hm hv rfl hn hd)
/-- a module's constant that is a scalar -/
theorem de_glob {x : Str} {v : V} {u : Value} (hg : Gl X x) (hm : X.mg x = some u) (r : RelV v u) (hd : (x == ("__debug__" : Str)) = false := by decide) : DE p X (.Name x pos) (wC (.sc v)) := de_of_c (pe_glob hg hm r hd)
end
end PL

/-! PLm: names that hold frozen things, items read where they lie, chains, pairs of names. -/
namespace PL
open PySem L2
section
variable {X : Cx} {p : Bool} {kp : List Nat} {e a b c : Expr} {es : List Expr} {kws : List Keyword} {we wi wa wb wc : WE} {wb' : WB} {pos : Pos}
/-- a name that gets a value frozen -/
def gFz (i : Nat) : WG := fun d env R => R (env.set i (some d.frz))
theorem SO.assignF {K : PySem.W.Frag} {F H : Hp} {B : Addr → Prop} {env : En} {σ : St} {As : List (List Addr)} {d : D} {v : V} {a : List Addr} (s : SO K F H B env σ As) (t : TO K F H B As d v a) {i : Nat} (h : i ∉ kp) :
    ∃ F' As', PostS K kp F H B σ F' H (env.set i (some d.frz)) (σ.set i (some v)) As' := by
  obtain ⟨po, r⟩ := s.freeze t
  exact ⟨_, _, po.ps.trans (po.so.assignS (.fz r po.so) h)⟩
theorem dg_fz {i : Nat} (h : PG X e (gName i)) (hi : i ∉ kp) : DG kp X e (gFz i) :=
  ⟨PGimp h fun v σ H Q ⟨F, B, env, As, d, a, R, s, t, hw, k⟩ => by
    obtain ⟨F', As', po⟩ := s.assignF t hi
    exact k _ H F' As' _ po hw⟩
theorem ds_setF {i : Nat} {x : Str} {pos' : Pos} (hN : X.N.Nodup) (hi : X.N[i]? = some x) (hx : Loc X.env.scope x) (h : DE p X e we) (hk : i ∉ kp) (hs : swapsWith e (some (.Name x pos')) pos.line X.env = pure false := by rfl) (hf : X.fn x = true ∨ X.env.scope.names.lookup x = some .local := by first | exact .inl rfl | exact .inr rfl | assumption) :
    DS kp X (.Assign [.Name x pos'] e pos) (sAsg we (gFz i)) :=
  ⟨PSimp (ps_set hN hi hx h.pe hs hf) (asg_lift (fun _ _ _ h => h) fun v σ H Q ⟨F, B, env, As, d, a, R, s, t, hw, k⟩ => by
    obtain ⟨F', As', po⟩ := s.assignF t hk
    exact k _ H F' As' _ po hw)⟩
section
variable {elt tg iter : Expr} {ifs : List Expr} {scope : Scope} {own : List (Str × Nat)} {spos : Pos} {wi : WI} {g : WG} {wt : WT}
theorem ds_setLcF {i : Nat} {y : Str} {py : Pos} (kf : Bool) (hc : X.calm = true) (hN : X.N.Nodup) (hy : X.N[i]? = some y) (hyl : X.env.scope.names.lookup y = some .local) (hk : i ∉ kp)
    (hsw : swapsWith (.ListComp elt [⟨tg, iter, ifs, 0⟩] scope pos) (some (.Name y py)) spos.line X.env = pure true) (hi : DI false X tg iter wi) (ok : BlkOk X.N X.env.scope scope own)
    (hg : ∀ (s : Shared) (H : Hp) (C : Addr) (cl : List (Str × Addr)) (fp : List Addr), DG (outK X.N.length (own.map (·.2))) (X.blk s H scope (compEnvC scope cl C X.env) fp) tg g)
    (ht : ∀ (s : Shared) (H : Hp) (C : Addr) (cl : List (Str × Addr)) (fp : List Addr), DTs false (X.blk s H scope (compEnvC scope cl C X.env) fp) ifs wt)
    (he : ∀ (s : Shared) (H : Hp) (C : Addr) (cl : List (Str × Addr)) (fp : List Addr), DE false (X.blk s H scope (compEnvC scope cl C X.env) fp) elt we) (hs : ∀ x, foldedSetIterable iter X.env x = pure x := by intro _; rfl) :
    DS kp X (.Assign [.Name y py] (.ListComp elt [⟨tg, iter, ifs, 0⟩] scope pos) spos) (sAsg (wComp kf wi (own.map (·.2)) g wt we) (gFz i)) := by
  refine ⟨PSimpN (ps_setLc (g := liftG X.K (outK X.N.length (own.map (·.2))) g) (tt := liftT X.K false wt) (te := liftE X.K false we) hc hN hy hyl hsw hi.pi ok (fun s H C cl fp => (hg s H C cl fp).pg) (fun s H C cl fp => (ht s H C cl fp).pt) (fun s H C cl fp => (he s H C cl fp).pe) hs) fun D σ H hn h => ?_⟩
  obtain ⟨F, B, env, As, RD, s, hw, k1, k2, k3, k4⟩ := h
  refine comp_lift (fun _ _ _ h => h) (fun _ _ _ _ h => h) (fun _ _ _ h => h) (fun _ _ _ h => h) σ H _ hn ⟨F, B, env, As, _, s, hw, fun v H1 F1 As1 a d e1 po1 t1 h1 => ?_⟩
  obtain ⟨F', As', po⟩ := po1.so.assignF t1 hk
  exact k1 _ H1 F' _ _ (po1.ps.trans po) h1
end
/-- an argument that comes in frozen -/
def cValF (we : WE) (wc : WC) : WC := fun env R => we env fun d e1 => wc e1 fun is e2 => R (.val d.frz :: is) e2
theorem ti_frz {K : PySem.W.Frag} {F F' H H' : Hp} {σ : St} {B : Addr → Prop} {env env' : En} {As As' : List (List Addr)} {is vs d v a} (r : Rep K F H d v []) (s : PostE K false F H B env σ As F' H' env' As') (u : TI K F' H' B σ As' is vs a) : TI K F' H' B σ As' (.val d :: is) (v :: vs) a :=
  ⟨by simpa using IR.val (a := []) (r.frame s.ext fun _ z => nomatch z) u.rep, u.nd, u.fr, u.nb⟩
theorem dc_valF {wc : WC} (h : DE p X e we) (hs : DC X es wc) (st : starEach (e :: es) X.env = (false, eval e X.env) :: starEach es X.env := by rfl) : DC X (e :: es) (cValF we wc) := by
  refine ⟨PAimp (pa_cons h.pe hs.pa st) ?_⟩
  rintro σ H Q ⟨F, B, env, As, R, s, hw, k⟩
  refine ⟨F, B, env, As, _, s, hw, fun v H1 F1 As1 a d e1 po1 t1 h1 => ?_⟩
  obtain ⟨po2, r2⟩ := po1.so.freeze t1
  refine ⟨_, B, e1, As1, _, po2.so, h1, fun vs H2 F2 As2 b is e2 po3 t2 h2 => ?_⟩
  exact k _ H2 F2 As2 b _ e2 ((po1.weak.trans po2.weak).trans po3) (ti_frz r2 po3 t2) h2
theorem dck_valF {wc : WC} {nm : Option Str} {kpos : Pos} (h : DE p X e we) (hs : DCK X kws wc) : DCK X (⟨nm, e, kpos⟩ :: kws) (cValF we wc) := by
  refine ⟨PKimp (pk_cons h.pe hs.pk) ?_⟩
  rintro σ H Q ⟨F, B, env, As, R, s, hw, k⟩
  refine ⟨F, B, env, As, _, s, hw, fun v H1 F1 As1 a d e1 po1 t1 h1 => ?_⟩
  obtain ⟨po2, r2⟩ := po1.so.freeze t1
  refine ⟨_, B, e1, As1, _, po2.so, h1, fun vs H2 F2 As2 b is e2 po3 t2 h2 => ?_⟩
  exact k _ H2 F2 As2 b _ e2 ((po1.weak.trans po2.weak).trans po3) (ti_frz r2 po3 t2) h2
/-- an item, read where it lies -/
def bIx (wb : WB) (wi : WE) : WB := fun env R => wb env fun d => wi env fun k _ => asI k fun kk => match d with
  | .obj _ sh xs => isSeq sh = true ∧ ∃ x, atI xs kk = some x ∧ R x
  | .tup xs => ∃ x, atI xs kk = some x ∧ R x
  | _ => False
theorem RepL.atI_sub {K : PySem.W.Frag} {F H : Hp} {xs : List D} {vs : List V} {a : List Addr} {i : Int} {x : D} (r : RepL K F H xs vs a) (e : L2.atI xs i = some x) : ∃ v a', L2.atI vs i = some v ∧ Rep K F H x v a' ∧ a'.Sublist a := by
  unfold L2.atI at e ⊢
  rw [← r.length]
  cases h : L2.ixN xs.length i with
  | none => rw [h] at e; cases e
  | some j =>
    rw [h] at e
    obtain ⟨v, A1, A0, A2, h1, h2, h3, _⟩ := r.get e
    refine ⟨v, A0, h1, h3, ?_⟩
    rw [h2, List.append_assoc]
    exact (List.sublist_append_left _ _).trans (List.sublist_append_right _ _)
theorem VO.part {K : PySem.W.Frag} {F H : Hp} {B : Addr → Prop} {As : List (List Addr)} {d d' : D} {v v' : V} {a a' : List Addr} (t : VO K F H B As d v a) (r : Rep K F H d' v' a') (s : a'.Sublist a) : VO K F H B As d' v' a' := by
  refine ⟨r, t.at_.imp (fun h x hx => h x (s.subset hx)) fun h => ⟨r, ?_, fun x hx => h.fr x (s.subset hx), fun x hx => h.nb x (s.subset hx)⟩⟩
  exact (List.Sublist.append_right s _).nodup h.nd
theorem Rep.seq_inv2 {K : PySem.W.Frag} {F H : Hp} {o : Bool} {sh : Sh} {xs : List D} {v : V} {a : List Addr} (h : isSeq sh = true) (r : Rep K F H (.obj o sh xs) v a) (s : Same F H) : ∃ p vs a', v = .ref p ∧ SqL K H p vs ∧ RepL K F H xs vs a' ∧ a'.Sublist a := by
  cases r with
  | own c r =>
    cases sh with
    | lst => exact ⟨_, _, _, rfl, .of c, r, List.sublist_cons_self ..⟩
    | sq => exact c.elim
    | _ => cases h
  | frz c r =>
    cases sh with
    | lst => exact ⟨_, _, _, rfl, .of (s _ _ c), r, List.Sublist.refl _⟩
    | sq => exact ⟨_, _, _, rfl, s.seq c, r, List.Sublist.refl _⟩
    | _ => cases h
theorem db_ix (ha : DB X a wb') (hb : DE true X b wi) (hs : PlainIx b) : DB X (.Subscript a b pos) (bIx wb' wi) := by
  refine ⟨PEimp (pe_ix ix_seq ha.pe hb.pe hs) ?_⟩
  rintro σ H Q ⟨F, B, env, As, R, s, hw, k⟩
  refine ⟨F, B, env, As, _, s, hw, fun v H1 F1 a d po1 t1 h1 => ?_⟩
  obtain ⟨B', hB, s', kp⟩ := t1.keep po1.so (F' := F) (H' := H)
  refine ⟨F1, B', env, As, _, s', h1, fun y H2 F2 As2 a2 kd e2 po2 t2 h2 => ?_⟩
  obtain ⟨t1', po2', _⟩ := kp _ _ _ _ po2
  obtain ⟨kk, rfl, h2⟩ := asI_inv h2
  obtain ⟨rfl, _⟩ := t2.rep.sc_inv
  obtain ⟨z1, z2, _⟩ := po2.pure rfl
  subst z1 z2
  split at h2
  · obtain ⟨hsq, x, e, h2⟩ := h2
    obtain ⟨q, vs, a', rfl, e1, r1, sb1⟩ := t1'.rep.seq_inv2 hsq po2'.so.same
    obtain ⟨w, a3, e3, r3, sb⟩ := r1.atI_sub e
    exact .inl ⟨q, vs, kk, w, rfl, rfl, e1, e3, k w H2 F2 a3 x (po1.trans po2') (t1'.part r3 (sb.trans sb1)) h2⟩
  · obtain ⟨x, e, h2⟩ := h2
    obtain ⟨q, vs, rfl, e1, r1⟩ := t1'.rep.tup_inv po2'.so.same
    obtain ⟨w, a3, e3, r3, sb⟩ := r1.atI_sub e
    exact .inr (.inl ⟨q, vs, kk, w, rfl, rfl, e1, e3, k w H2 F2 a3 x (po1.trans po2') (t1'.part r3 sb) h2⟩)
  · exact h2.elim
/-- a value read where it lies that is frozen, as a value at hand -/
def wOfB (wb : WB) : WE := fun env R => wb env fun d => d.fz = true ∧ R d env
theorem de_ofB (h : DB X e wb') : DE p X e (wOfB wb') := by
  refine ⟨PEimp h.pe ?_⟩
  rintro σ H Q ⟨F, B, env, As, R, s, hw, k⟩
  refine ⟨F, B, env, As, _, s, hw, fun v H1 F1 a d po1 t1 ⟨z, h1⟩ => ?_⟩
  have := t1.rep.fzNil z; subst this
  exact k v H1 F1 As [] d env (po1.imp fun _ => rfl) (.fz t1.rep po1.so) h1
/-! ### a < b < c -/
theorem chain_lift {r r' : R2} {rd rd' : RD2} (hr : Snd2 X.K r rd) (hr' : Snd2 X.K r' rd') : ∀ σ H Q, liftE X.K p (wChain rd rd' wa wb wc) σ H Q → tChain r r' (liftE X.K p wa) (liftE X.K p wb) (liftE X.K p wc) σ H Q := by
  rintro σ H Q ⟨F, B, env, As, R, s, hw, k⟩
  refine ⟨F, B, env, As, _, s, hw, fun v H1 F1 As1 a x e1 po1 t1 h1 => ?_⟩
  refine ⟨F1, Bx B a, e1, As1, _, po1.so.push t1, h1, fun u H2 F2 As2 b y e2 po2 t2 ⟨yz, h2⟩ => ?_⟩
  refine hr po2.so.pop (t1.keep po2).rep t2.rep h2 fun zv H3 F3 c z po3 t3 h3 => ?_
  obtain ⟨cb, rfl, h3⟩ := asB_inv h3
  obtain ⟨rfl, _⟩ := t3.rep.sc_inv
  refine ⟨cb, rfl, ?_⟩
  have po13 := (po1.trans po2.pop).trans (po3.imp fun _ => rfl)
  cases cb with
  | false => exact k _ H3 F3 As2 [] _ e2 po13 (.sc po3.so _) h3
  | true =>
    have r2 := t2.rep
    have := r2.fzNil yz; subst this
    refine ⟨F3, B, e2, As2, _, po3.so, h3, fun w H4 F4 As4 c4 d4 e4 po4 t4 h4 => ?_⟩
    refine hr' po4.so (r2.frame (po3.ext.trans po4.ext) fun _ z => nomatch z) t4.rep h4 fun zv H5 F5 c5 z5 po5 t5 h5 => ?_
    exact k _ H5 F5 As4 c5 z5 e4 ((po13.trans po4).trans (po5.imp fun _ => rfl)) t5 h5
theorem de_chain {op op' : CmpOp} {r r' : R2} {rd rd' : RD2} (ho : OpR X (compareOp op) r) (hr : Snd2 X.K r rd) (ho' : OpR X (compareOp op') r') (hr' : Snd2 X.K r' rd') (ha : DE p X a wa) (hb : DE p X b wb) (hc : DE p X c wc)
    (hm : lastMarks [op, op'] [b, c] = false := by with_unfolding_all rfl) : DE p X (.Compare a [op, op'] [b, c] pos) (wChain rd rd' wa wb wc) := ⟨PEimp (pe_chain ho ho' ha.pe hb.pe hc.pe hm) (chain_lift hr hr')⟩
theorem dt_chain {op op' : CmpOp} {r r' : R2} {rd rd' : RD2} (ho : OpR X (compareOp op) r) (hr : Snd2 X.K r rd) (ho' : OpR X (compareOp op') r') (hr' : Snd2 X.K r' rd') (ha : DE p X a wa) (hb : DE p X b wb) (hc : DE p X c wc)
    (hm : lastMarks [op, op'] [b, c] = false := by with_unfolding_all rfl) : DT p X (.Compare a [op, op'] [b, c] pos) (wTst (wChain rd rd' wa wb wc)) := ⟨PTimp (pt_chain ho ho' ha.pe hb.pe hc.pe hm) (tst_lift (chain_lift hr hr'))⟩
/-- a, b = e1, e2: two plain names -/
def sPar (i j : Nat) (wa : WA) : WS := fun env RD => wa env fun ds e1 => match ds with
  | [d1, d2] => RD.nx ((e1.set i (some d1.frz)).set j (some d2.frz))
  | _ => False
theorem ds_par {i j : Nat} {x y : Str} {px py pt : Pos} {kt k2 pt2} {wa : WA} (hc : X.calm = true) (hN : X.N.Nodup) (hi : X.N[i]? = some x) (hj : X.N[j]? = some y) (hij : i ≠ j)
    (hx : X.env.scope.names.lookup x = some .local) (hy : X.env.scope.names.lookup y = some .local) (ha : DA p X [a, b] wa) (hki : i ∉ kp) (hkj : j ∉ kp)
    (hw : swappedStores [.Tuple [.Name x px, .Name y py] kt pt] (.Tuple [a, b] k2 pt2) X.env = pure (some [x, y]))
    (hs : swapsWithSole [.Tuple [.Name x px, .Name y py] kt pt] (.Tuple [a, b] k2 pt2) pos.line X.env = pure false := by rfl) :
    DS kp X (.Assign [.Tuple [.Name x px, .Name y py] kt pt] (.Tuple [a, b] k2 pt2) pos) (sPar i j wa) := by
  refine ⟨PSimp (ps_par hc hN hi hj hij hx hy ha.pa hw hs) ?_⟩
  rintro D σ H ⟨F, B, env, As, RD, s, hw, k1, k2, k3, k4⟩
  refine ⟨F, B, env, As, _, s, hw, fun vs H1 F1 As1 a ds e1 po1 t1 h1 => ?_⟩
  split at h1
  · obtain ⟨po2, r2⟩ := po1.so.freezeL t1
    obtain ⟨v, us, A1, A2, rfl, e, q1, q2⟩ := r2.cons_inv
    obtain ⟨v2, us2, A3, A4, rfl, e2, q3, q4⟩ := q2.cons_inv
    obtain ⟨rfl, _⟩ := q4.nil_inv
    obtain ⟨rfl, rfl⟩ := List.append_eq_nil_iff.mp e.symm
    obtain ⟨rfl, rfl⟩ := List.append_eq_nil_iff.mp e2.symm
    refine ⟨v, v2, rfl, ?_⟩
    have p3 := po2.so.assignS (kp := kp) (.fz q1 po2.so) hki
    have p4 := p3.so.assignS (kp := kp) (i := j) (.fz q3 p3.so) hkj
    exact k1 _ H1 _ _ _ (po1.ps.trans (po2.ps.trans (p3.trans p4))) h1
  · exact h1.elim
end
end PL

/-! PLn: xs[::-1] of lists and tuples. -/
namespace PL
open PySem PySem.Spec PyProof.Rows L2 HT
section
variable {prog : Program} {w : World} {A : Around} {E : Value → Shared → Prop} {s : Shared}
theorem rev_places (n : Nat) : Builtin.Slice.slicePlaces ((n : Int) - 1) (-1) (-1) = n := by
  unfold Builtin.Slice.slicePlaces
  rw [if_neg (by decide)]
  split
  · show ((((n : Int) - 1 - -1 - 1) / (- -1)) + 1).toNat = n
    rw [show (- -1 : Int) = 1 by decide, Int.ediv_one]; omega
  · simp; omega
theorem sliceApplied_rev {sl : Addr} {vl vu vs : Value} {n : Nat} {Q : Int × Int × Nat → Shared → Prop} (hs : s.heap.IsSliceOf sl vl vu vs) (pl : IsPart vl none) (pu : IsPart vu none) (ps : IsPart vs (some (-1)))
    (h : Q ((n : Int) - 1, -1, n) s) : wpAny (model prog w) A (Builtin.Slice.sliceApplied (.ref sl) (pure (n : Int))) Q E s := by
  obtain ⟨os, hos, hcs, hds⟩ := id hs
  unfold Builtin.Slice.sliceApplied Builtin.Slice.sliceFields
  refine wpAny_bind (wpAny_bind (wpAny_field hos hds (x := vl) rfl (wpAny_bind (wpAny_field hos hds (x := vu) rfl (wpAny_bind (wpAny_field hos hds (x := vs) rfl (wpAny_pure ?_)))))))
  refine wpAny_bind (slicePart_ ps ?_)
  show wpAny _ _ (if ((-1 : Int) == 0) = true then _ else _) _ _ s
  rw [if_neg (by decide)]
  refine wpAny_bind (slicePart_ pl (wpAny_bind (slicePart_ pu (wpAny_bind (wpAny_pure (wpAny_pure ?_))))))
  show Q ((n : Int) - 1, -1, Builtin.Slice.slicePlaces ((n : Int) - 1) (-1) (-1)) s
  rw [rev_places]
  exact h
theorem pick_rev (xs : Array Value) : ((List.range xs.size).filterMap fun (m : Nat) => xs[(((xs.size : Nat) : Int) - 1 + (m : Int) * (-1)).toNat]?) = xs.toList.reverse := by
  have e : (fun (m : Nat) => xs[(((xs.size : Nat) : Int) - 1 + (m : Int) * (-1)).toNat]?) = (xs[·]?) ∘ fun m => xs.size - 1 - m := by
    funext m
    show xs[_]? = xs[_]?
    rw [show (((xs.size : Nat) : Int) - 1 + (m : Int) * (-1)).toNat = xs.size - 1 - m by omega]
  rw [e, ← List.filterMap_map, PySem.W.krv_range, List.filterMap_reverse, PySem.W.krv_all]
theorem getItem_tuple_rev {t sl : Addr} {items : Array Value} {vl vu vs : Value} {Q : Value → Shared → Prop} (ht : IsTup s.heap t items) (hs : s.heap.IsSliceOf sl vl vu vs) (pl : IsPart vl none) (pu : IsPart vu none) (ps : IsPart vs (some (-1)))
    (h : Q (.ref s.heap.objs.size) { s with heap := s.heap.push { cls := .type "tuple", data := .seq items.toList.reverse.toArray } }) (hsz : items.size ≤ sizeLine) : wpAny (model prog w) A (getItem (.ref t) (.ref sl)) Q E s := by
  have ok : sizeOk (.seq items.toList.reverse.toArray) := by
    show items.toList.reverse.toArray.size ≤ sizeLine
    simpa using hsz
  obtain ⟨os, hos, hcs, hds⟩ := id hs
  have hTs : s.TypeIs (.ref sl) "slice" := ⟨os, hos, hcs⟩
  unfold getItem
  try with_reducible refine wpAny_holding ?_
  first | refine wpAny_bind (wpAny_pure ?_) | skip
  refine wpAny_bind (wpAny_sequenceKey ht.typeIs (by decide) ?_)
  refine wpAny_bind (wpAny_callSpecial?_slot (name := Str.ofString "__getitem__") ht.typeIs slot_tuple_getitem (wpAny_call_entry slot_tuple_getitem ht.typeIs entry_tuple_getitem ?_ (args_tuple_getitem _ _)))
  show wpAny _ _ (Builtin.Tuple.tupleItemsOf (.ref t) >>= _) _ _ s
  refine wpAny_bind (tupleItemsOf_ ht (wpAny_bind (wpAny_typeOf hTs ?_)))
  rw [if_pos (by decide)]
  refine wpAny_bind (sliceApplied_rev hs pl pu ps ?_)
  show wpAny _ _ (if ((((items.size : Nat) : Int) - 1) == 0 && (-1 : Int) == 1 && items.size == items.size) = true then _ else _) _ _ s
  rw [if_neg (by simp), pick_rev]
  first
    | exact wpAny_bind (m := Builtin.Tuple.tupleExact _) (wpAny_newObj_type (wpAny_pure ⟨_, rfl, wpAny_pure h⟩) ok)
    | exact wpAny_bind (m := Builtin.Tuple.tupleExact _) (wpAny_newObj_type (wpAny_bind (wpAny_pure (wpAny_pure ⟨_, rfl, wpAny_pure h⟩))) ok)
    | exact wpAny_bind (wpAny_bind (m := Builtin.Tuple.tupleExact _) (wpAny_newObj_type (wpAny_pure (wpAny_pure ⟨_, rfl, wpAny_pure h⟩)) ok))
    | exact wpAny_bind (wpAny_bind (m := Builtin.Tuple.tupleExact _) (wpAny_newObj_type (wpAny_pure ⟨_, rfl, wpAny_pure h⟩) ok))
end
/-- xs[::-1], a list or a tuple -/
def tRevA (K : PySem.W.Frag) (te : TE) : TE := fun σ H Q => te σ H fun x H1 => ∃ a xs, x = .ref a ∧ ((SqL K H1 a xs ∧ ∀ p, H1 p = none → Q (.ref p) (upd H1 p (.lst xs.reverse))) ∨ (SqT K H1 a xs ∧ ∀ p, H1 p = none → Q (.ref p) (upd H1 p (.tup xs.reverse))))
theorem pe_revA {X : Cx} {e : Expr} {te : TE} {k : Nat} {p1 p2 p3 pos : Pos} (he : PE X e te) : PE X (.Subscript e (.Slice none none (some (.UnaryOp .USub (.Constant (.int 1) k p1) p2)) p3) pos) (tRevA X.K te) := by
  refine ⟨fun pins s σ H Q I h => Subscript_ (thn (he.run pins s σ H _ I h) ?_)⟩
  rintro v s1 ⟨x, H1, I1, r1, a, xs, rfl, q⟩
  obtain rfl : v = Value.ref a := r1
  have step : PO X (some (.UnaryOp .USub (.Constant (.int 1) k p1) p2)) (tPart (tUn (rU fun i => .int (-i)) (tC (.int 1)))) := po_some (pe_un un_neg pe_int)
  refine wpAny_Slice (thn (po_none.run pins s1 σ H1 (fun o H2 => o = none ∧ H2 = H1) I1 ⟨rfl, rfl⟩) ?_)
  rintro vl s2 ⟨l, H2, I2, pl, rfl, rfl⟩
  refine thn (po_none.run pins s2 σ H2 (fun o H3 => o = none ∧ H3 = H2) I2 ⟨rfl, rfl⟩) ?_
  rintro vu s3 ⟨u, H3, I3, pu, rfl, rfl⟩
  refine thn (step.run pins s3 σ H3 (fun o H4 => o = some (-1) ∧ H4 = H3) I3 ⟨1, rfl, -1, rfl, rfl, rfl⟩) ?_
  rintro vs s4 ⟨o, H4, I4, ps, rfl, rfl⟩
  have I5 : Inv X pins σ H4 { s4 with heap := s4.heap.push { cls := .type "slice", data := .fields #[vl, vu, vs] } } := I4.kept (t' := s4.toks) fun b ob q => Heap.get?_push_of_some _ q
  show wpAny (model X.prog X.w) X.A (subscriptTail e (.Slice none none (some (.UnaryOp .USub (.Constant (.int 1) k p1) p2)) p3) (.ref a) (.ref s4.heap.objs.size)) (EP X pins σ Q) X.xe { s4 with heap := s4.heap.push { cls := .type "slice", data := .fields #[vl, vu, vs] } }
  rcases q with ⟨hx, q⟩ | ⟨hx, q⟩
  · obtain ⟨its, r, ht, hz⟩ := I5.list hx
    have hlen := r.length
    refine tail_any (ops := [.ref a, .ref s4.heap.objs.size]) ht.isList.typeIs PySem.slot_list_getitem.lookup (wpAny_getItem_list_slice ht.isList (Heap.IsSliceOf.new _ vl vu vs) pl pu ps (by decide) ?_ (by rw [List.size_toArray]; omega)) (by with_unfolding_all rfl)
    rw [PySem.W.krv_pick]
    exact ⟨.ref _, _, I5.laid (t' := s4.toks) (o := .lst xs.reverse) (fun b ob q => Heap.get?_push_of_some _ q) (Nat.le_refl _) ⟨by rw [List.length_reverse]; exact hz, _, 0, r.reverse, Heap.get?_push_size _ rfl⟩, rfl, q _ (I5.hok.fresh (Nat.le_refl _))⟩
  · obtain ⟨its, r, ht, hz⟩ := I5.tuple hx
    have hlen := r.length
    refine tail_any (ops := [.ref a, .ref s4.heap.objs.size]) ht.typeIs slot_tuple_getitem.lookup (getItem_tuple_rev ht (Heap.IsSliceOf.new _ vl vu vs) pl pu ps ?_ (by rw [List.size_toArray]; omega)) (by with_unfolding_all rfl)
    exact ⟨.ref _, _, I5.laid (t' := s4.toks) (o := .tup xs.reverse) (fun b ob q => Heap.get?_push_of_some _ q) (Nat.le_refl _) ⟨by rw [List.length_reverse]; exact hz, _, r.reverse, IsTup.new _ _⟩, rfl, q _ (I5.hok.fresh (Nat.le_refl _))⟩
theorem RepL.rev {K : PySem.W.Frag} {F H : Hp} : ∀ {xs : List D} {vs : List V}, RepL K F H xs vs [] → RepL K F H xs.reverse vs.reverse []
  | [], vs, r => by obtain ⟨rfl, _⟩ := r.nil_inv; exact .nil
  | x :: xs, vs, r => by
    obtain ⟨v, us, A1, A2, rfl, e, r1, r2⟩ := r.cons_inv
    obtain ⟨rfl, rfl⟩ := List.append_eq_nil_iff.mp e.symm
    simpa using (RepL.rev r2).app (.one r1)
def rdRev : D → (D → Prop) → Prop
  | .obj _ sh xs, R => isSeq sh = true ∧ D.fzL xs = true ∧ R (.lst true xs.reverse)
  | .tup xs, R => D.fzL xs = true ∧ R (.tup xs.reverse)
  | _, _ => False
section
variable {X : Cx} {p : Bool} {e : Expr} {we : WE} {wb : WB} {k : Nat} {p1 p2 p3 pos : Pos}
theorem rev_core {K : PySem.W.Frag} {F H : Hp} {B : Addr → Prop} {env : En} {σ : L2.St} {As : List (List Addr)} {x : D} {v : V} {a : List Addr} {R : D → Prop} {Q : VK} (s : SO K F H B env σ As) (r : Rep K F H x v a) (h : rdRev x R)
    (k : ∀ v' H' F' c z, PostE K true F H B env σ As F' H' env As → TO K F' H' B As z v' c → R z → Q v' H') : ∃ a xs, v = .ref a ∧ ((SqL K H a xs ∧ ∀ p, H p = none → Q (.ref p) (upd H p (.lst xs.reverse))) ∨ (SqT K H a xs ∧ ∀ p, H p = none → Q (.ref p) (upd H p (.tup xs.reverse)))) := by
  unfold rdRev at h
  split at h
  · obtain ⟨p, us, a2, rfl, e1, r1⟩ := r.seq_inv h.1 s.same
    exact ⟨p, us, rfl, .inl ⟨e1, out_lst s (r1.fz_mem h.2.1).rev h.2.2 k⟩⟩
  · obtain ⟨p, us, rfl, e1, r1⟩ := r.tup_inv s.same
    exact ⟨p, us, rfl, .inr ⟨e1, out_tup s (r1.fz_mem h.1).rev h.2 k⟩⟩
  · exact h.elim
def wRev (w : WE) : WE := fun env R => w env fun d e1 => rdRev d fun z => R z e1
theorem de_rev (h : DE p X e we) : DE p X (.Subscript e (.Slice none none (some (.UnaryOp .USub (.Constant (.int 1) k p1) p2)) p3) pos) (wRev we) := by
  refine ⟨PEimp (pe_revA h.pe) ?_⟩
  rintro σ H Q ⟨F, B, env, As, R, s, hw, k⟩
  refine ⟨F, B, env, As, _, s, hw, fun v H1 F1 As1 a d e1 po1 t1 h1 => ?_⟩
  exact rev_core po1.so t1.rep h1 fun v' H3 F3 c z po3 t3 h3 => k v' H3 F3 As1 c z e1 (po1.trans (po3.imp fun _ => rfl)) t3 h3
def wRevB (w : WB) : WE := fun env R => w env fun d => rdRev d fun z => R z env
theorem de_revB (h : DB X e wb) : DE p X (.Subscript e (.Slice none none (some (.UnaryOp .USub (.Constant (.int 1) k p1) p2)) p3) pos) (wRevB wb) := by
  refine ⟨PEimp (pe_revA h.pe) ?_⟩
  rintro σ H Q ⟨F, B, env, As, R, s, hw, k⟩
  refine ⟨F, B, env, As, _, s, hw, fun v H1 F1 a d po1 t1 h1 => ?_⟩
  exact rev_core po1.so t1.rep h1 fun v' H3 F3 c z po3 t3 h3 => k v' H3 F3 As c z env ((po1.trans po3).imp fun _ => rfl) t3 h3
end
/-- list(range(n)), list(range(a, b)) -/
theorem rng_rep {K : PySem.W.Frag} {F H : Hp} (a b : Int) : RepL K F H (rng a (b - a).toNat) (rgV a b) [] := by
  have : rng a (b - a).toNat = (rgV a b).map D.sc := by
    unfold rng rgV
    rw [List.map_map]
    rfl
  rw [this]
  exact RepL.sc_of _
section
variable {X : Cx} {p : Bool} {e e2 : Expr} {we we2 : WE} {q q2 pos pos2 : Pos}
def wListRg (w : WE) : WE := fun env R => w env fun d e1 => asI d fun n => RgOk 0 n ∧ R (.lst true (rng 0 (n - 0).toNat)) e1
theorem de_listRg (hc : X.calm = true) (hg : Gl X "list") (hm : X.mg "list" = none) (hg2 : Gl X "range") (hm2 : X.mg "range" = none) (h : DE p X e we) (na : starEach [e] X.env = (false, eval e X.env) :: starEach [] X.env := by rfl)
    (na2 : starEach [.Call (.Name "range" q2) [e] [] pos2] X.env = (false, eval (.Call (.Name "range" q2) [e] [] pos2) X.env) :: starEach [] X.env := by rfl) : DE p X (.Call (.Name "list" q) [.Call (.Name "range" q2) [e] [] pos2] [] pos) (wListRg we) := by
  refine ⟨PEimp (pe_listRg hc hg hm (prg_1 hg2 hm2 h.pe na) na2) ?_⟩
  rintro σ H Q ⟨F, B, env, As, R, s, hw, k⟩
  refine ⟨F, B, env, As, _, s, hw, fun v H1 F1 As1 a d e1 po1 t1 h1 => ?_⟩
  obtain ⟨n, rfl, h1, h2⟩ := asI_inv h1
  obtain ⟨rfl, _⟩ := t1.rep.sc_inv
  exact ⟨n, rfl, h1, out_lst (R := fun z => R z e1) po1.so (rng_rep 0 n) h2 fun v' H3 F3 c z po3 t3 h3 => k v' H3 F3 As1 c z e1 (po1.trans (po3.imp fun _ => rfl)) t3 h3⟩
def wListRg2 (w w2 : WE) : WE := fun env R => w env fun d e1 => w2 e1 fun d2 e2 => asI d fun m => asI d2 fun n => RgOk m n ∧ R (.lst true (rng m (n - m).toNat)) e2
theorem de_listRg2 (hc : X.calm = true) (hg : Gl X "list") (hm : X.mg "list" = none) (hg2 : Gl X "range") (hm2 : X.mg "range" = none) (h : DE p X e we) (h2 : DE p X e2 we2) (na : starEach [e, e2] X.env = (false, eval e X.env) :: starEach [e2] X.env := by rfl) (na1 : starEach [e2] X.env = (false, eval e2 X.env) :: starEach [] X.env := by rfl)
    (na2 : starEach [.Call (.Name "range" q2) [e, e2] [] pos2] X.env = (false, eval (.Call (.Name "range" q2) [e, e2] [] pos2) X.env) :: starEach [] X.env := by rfl) : DE p X (.Call (.Name "list" q) [.Call (.Name "range" q2) [e, e2] [] pos2] [] pos) (wListRg2 we we2) := by
  refine ⟨PEimp (pe_listRg hc hg hm (prg_2 hg2 hm2 h.pe h2.pe na na1 (by rw [na1]; rfl)) na2) ?_⟩
  rintro σ H Q ⟨F, B, env, As, R, s, hw, k⟩
  refine ⟨F, B, env, As, _, s, hw, fun v H1 F1 As1 a d e1 po1 t1 h1 => ?_⟩
  refine ⟨F1, Bx B a, e1, As1, _, po1.so.push t1, h1, fun u H2 F2 As2 b d2 e2 po2 t2 g0 => ?_⟩
  obtain ⟨m, rfl, g1⟩ := asI_inv g0
  obtain ⟨n, rfl, h3, h4⟩ := asI_inv g1
  obtain ⟨rfl, _⟩ := t1.rep.sc_inv
  obtain ⟨rfl, _⟩ := t2.rep.sc_inv
  exact ⟨m, n, rfl, rfl, h3, out_lst (R := fun z => R z e2) po2.so.pop (rng_rep m n) h4 fun v' H3 F3 c z po3 t3 h3 => k v' H3 F3 As2 c z e2 ((po1.trans po2.pop).trans (po3.imp fun _ => rfl)) t3 h3⟩
end
theorem not_outK {n i : Nat} {vs : List Nat} (h : i ∈ vs) : i ∉ outK n vs := fun z => (outK_mem.mp z).2 h
/-- a recursion that has no turns left: nothing is promised -/
theorem fn_data0 {P : Program} {w : World} {K : PySem.W.Frag} {mg : Str → Option Value} {base : Heap} {f : Addr} {fd : FuncData} {ps : List Str} {k : Nat} : FnG P w K mg base CX0 k f fd ps (spD K fun _ _ => False) :=
  ⟨fun _ _ _ _ ⟨_, _, _, _, _, _, z, _⟩ => z.elim, fun _ _ _ _ _ _ _ _ _ _ _ _ _ _ ⟨_, _, _, _, _, _, z, _⟩ => z.elim⟩
/-- a module's constant that is a whole number -/
theorem de_globI {X : Cx} {p : Bool} {x : Str} {i : Int} {pos : Pos} (hg : Gl X x) (hm : ∃ t, X.mg x = some (.int i t)) (hd : (x == ("__debug__" : Str)) = false := by decide) : DE p X (.Name x pos) (wC (.int i)) := by
  obtain ⟨t, hm⟩ := hm
  exact de_glob hg hm (show RelV (V.int i) (Value.int i t) from ⟨t, rfl⟩) hd
/-! is, is not, of truth values -/
def rdIsB : RD2
  | .sc (.bl a), .sc (.bl b), R => R (.bl (decide (a = b)))
  | _, _, _ => False
def rdNotB : RD2
  | .sc (.bl a), .sc (.bl b), R => R (.bl (!decide (a = b)))
  | _, _, _ => False
theorem sIsB {K : PySem.W.Frag} : Snd2 K rIsB rdIsB := by
  intro F H B env σ As x y v u a b R Q s rx ry h k
  unfold rdIsB at h
  split at h
  · obtain ⟨rfl, _⟩ := rx.sc_inv
    obtain ⟨rfl, _⟩ := ry.sc_inv
    exact ⟨_, _, rfl, rfl, out_sc s h k⟩
  · exact h.elim
theorem sNotB {K : PySem.W.Frag} : Snd2 K rNotB rdNotB := by
  intro F H B env σ As x y v u a b R Q s rx ry h k
  unfold rdNotB at h
  split at h
  · obtain ⟨rfl, _⟩ := rx.sc_inv
    obtain ⟨rfl, _⟩ := ry.sc_inv
    exact ⟨_, _, rfl, rfl, out_sc s h k⟩
  · exact h.elim
end PL

/-! PLo: sorted ints; name[i] op= e with an index that draws; name.insert(i, e). -/
namespace PL
open PySem L2
def rdSorted : RDA
  | [.obj _ sh xs], R => isSeq sh = true ∧ ∃ ns : List Int, xs = ns.map (fun n => D.sc (V.int n)) ∧ ∀ ns' : List Int, ns'.Perm ns → ns'.Pairwise (· ≤ ·) → R (.lst true (ns'.map fun n => D.sc (V.int n)))
  | _, _ => False
theorem sSorted {K : PySem.W.Frag} : SndA K (rSortedI K) rdSorted := by
  intro F H B env σ As ds vs a R Q s r h k
  unfold rdSorted at h
  split at h
  · obtain ⟨hs, ns, rfl, h⟩ := h
    obtain ⟨v, rfl, a', r⟩ := r.one_inv'
    obtain ⟨p, us, a2, rfl, e1, r1⟩ := r.seq_inv hs s.same
    rw [map_sc] at r1
    obtain ⟨rfl, _⟩ := r1.sc_inv
    refine ⟨p, ns, rfl, e1, fun ns' q hp hs hq => ?_⟩
    have := h ns' hp hs
    exact out_lst s (by rw [map_sc]; exact RepL.sc_of _) this k q hq
  · exact h.elim
section
variable {X : Cx} {p : Bool} {kp : List Nat} {e o b : Expr} {we wi : WE} {pos : Pos}
/-- name[i] op= e -/
def sAugNx (rd : RD2) (i : Nat) (wi we : WE) : WS := fun env RD => (∃ d, env[i]? = some (some d)) ∧ wi env fun k e1 => asI k fun kk => ownL (e1[i]?) fun xs => ∃ j x, L2.ixN xs.length kk = some j ∧ xs[j]? = some x ∧ x.fz = true ∧
  we e1 fun y e2 => ownL (e2[i]?) fun ys => ∃ j2, L2.ixN ys.length kk = some j2 ∧ rd x y fun z => RD.nx (e2.set i (some (.lst true (ys.set j2 z))))
theorem ds_augNx {op : Operator} {r : R2} {rd : RD2} {i : Nat} {tpos : Pos} (ho : PE X o (tVar i)) (hi : DE p X b wi) (he : DE p X e we) (hop : OpR X (inplaceOp op) r) (hr : Snd2 X.K r rd)
    (ha : ∀ ov iv new, augStore b ov iv new = (do holding [new, ov, iv] (setItem ov iv new); release [new, ov, iv] []; pure .next) := by intros; rfl) : DS kp X (.AugAssign (.Subscript o b tpos) op e pos) (sAugNx rd i wi we) := by
  refine ⟨PSimp (ps_augS ho hi.pe get_list he.pe (show PIp X op r from hop) set_list ha) ?_⟩
  rintro D σ H ⟨F, B, env, As, RD, s, ⟨⟨d, hd⟩, hw⟩, k1, k2, k3, k4⟩
  obtain ⟨v, A0, h1, _, _⟩ := s.env.get hd
  refine ⟨v, h1, F, B, env, As, _, s, hw, fun iv H2 F2 As2 ai kd env2 po2 t2 h2 => ?_⟩
  obtain ⟨kk, rfl, h2⟩ := asI_inv h2
  obtain ⟨rfl, _⟩ := t2.rep.sc_inv
  obtain ⟨xs, g1, j, x, hj, hx, z, h2⟩ := ownL_inv h2
  obtain ⟨v', A, g2, g3, g4⟩ := po2.so.env.get g1
  rw [h1] at g2; cases g2
  obtain ⟨q, vs, w, A1, rfl, hq, hw2, hl, f3⟩ := (Foc.root g4).item hx
  obtain ⟨B1, B2, eB, r3, _⟩ := id f3
  have := r3.fzNil z; subst this
  refine ⟨q, vs, kk, w, rfl, rfl, .of hq, by unfold L2.atI; rw [← hl, hj]; exact hw2, ?_⟩
  refine ⟨F2, B, env2, As2, _, po2.so, h2, fun yv H3 F3 As3 ay y env3 po3 t3 h3 => ?_⟩
  obtain ⟨ys, g5, j2, hj2, h3⟩ := ownL_inv h3
  refine hr po3.so (r3.frame po3.ext fun _ z => nomatch z) t3.rep h3 fun zv H4 F4 az zd po4 t4 h4 => ?_
  obtain ⟨v', A3, g6, g7, g8⟩ := po4.so.env.get g5
  rw [h1] at g6; cases g6
  refine set_core po4.so g5 h1 g7 (.root g8) t4 hj2 h4 fun H5 As5 s5 kb h5 => ?_
  exact k1 σ H5 F4 As5 _ ⟨po2.ext.trans (po3.ext.trans po4.ext), s5, fun b hb => (kb b hb).trans ((po4.keep b hb).trans ((po3.keep b hb).trans (po2.keep b hb))), fun _ _ => rfl, rfl⟩ h5
/-- name.insert(i, e), frozen items -/
def wInsN (i : Nat) (wi we : WE) : WE := fun env R => ownL (env[i]?) fun _ => wi env fun k e1 => asI k fun kk => we e1 fun y e2 => ownL (e2[i]?) fun xs => D.fzL xs = true ∧ xs.length < sizeLine ∧ 0 ≤ kk ∧ kk < 2 ^ 63 ∧
  R .non (e2.set i (some (.lst true (xs.take kk.toNat ++ [y.frz] ++ xs.drop kk.toNat))))
theorem RepL.takeDrop {K : PySem.W.Frag} {F H : Hp} {xs : List D} {vs : List V} (r : RepL K F H xs vs []) (n : Nat) : RepL K F H (xs.take n) (vs.take n) [] ∧ RepL K F H (xs.drop n) (vs.drop n) [] := by
  have h1 := r.cut 0 n
  have h2 := r.cut n xs.length
  rw [List.drop_zero, List.drop_zero] at h1
  rw [List.take_of_length_le (by rw [List.length_drop]; omega), List.take_of_length_le (by rw [List.length_drop, ← r.length]; omega)] at h2
  exact ⟨h1, h2⟩
theorem de_insN {apos cpos : Pos} {i : Nat} (ho : PE X o (tVar i)) (hi : DE p X b wi) (he : DE p X e we)
    (hbase : attributeBase o "insert" X.env (eval o X.env) = eval o X.env := by rfl)
    (hfew : ((backTo cpos (starEach (b :: [e]) X.env)).all (fun x => !x.1) && (backToKw cpos (keywordEach [] X.env)).all (fun x => x.1.isSome)
      && decide ((b :: [e]).length + ([] : List Keyword).length + (if ([] : List Keyword).isEmpty then 0 else 1) < 30)) = true := by rfl)
    (hline : (apos.endLine == cpos.line) = true := by rfl) (hs : starEach (b :: [e]) X.env = (false, eval b X.env) :: starEach [e] X.env := by rfl) (hs2 : starEach (e :: []) X.env = (false, eval e X.env) :: starEach [] X.env := by rfl) (hplain : (backTo cpos (starEach [e] X.env)).any (·.1) = false := by rfl) :
    DE false X (.Call (.Attribute o "insert" apos) [b, e] [] cpos) (wInsN i wi we) := by
  refine ⟨PEimp (pe_bm PySem.F.plainAttrs_list PySem.F.slot_list_insert PySem.F.type_list_insert mt_insert ho (pa_cons hi.pe (pa_cons he.pe pa_nil hs2) hs) hbase hfew hline hs hplain) ?_⟩
  rintro σ H Q ⟨F, B, env, As, R, s, hw, k⟩
  obtain ⟨xs0, e0, hw⟩ := ownL_inv hw
  obtain ⟨v, A0, h1, h2, h3⟩ := s.env.get e0
  obtain ⟨q, vs, e1, e2⟩ := (Foc.root h3).tyL
  subst e1
  refine ⟨_, h1, .inl ⟨rfl, vs, .of e2⟩, F, B, env, As, _, s, hw, fun kv H0 F0 As0 ak kd env0 po0 t0 g => ?_⟩
  obtain ⟨kk, rfl, g⟩ := asI_inv g
  obtain ⟨rfl, _⟩ := t0.rep.sc_inv
  refine ⟨F0, B, env0, As0, _, po0.so, g, fun yv H1 F1 As1 ay y env1 po1 t1 g => ?_⟩
  obtain ⟨xs, g1, z, hl, k0, k1, g⟩ := ownL_inv g
  obtain ⟨v', A, g2, g3, g4⟩ := po1.so.env.get g1
  rw [h1] at g2; cases g2
  obtain ⟨po2, ry⟩ := po1.so.freeze t1
  have g4' := g4.frame po2.ext fun _ _ => rfl
  obtain ⟨q', ws, A3, eq, hq, r, nd3, ap, go⟩ := list_core (a := []) po2.so g1 h1 g3 (.root g4') (by simpa using po2.so.nd) (fun _ z => nomatch z) (fun _ z => nomatch z)
  cases eq
  have := r.fzNil z; subst this
  obtain ⟨rt, rd⟩ := r.takeDrop kk.toNat
  obtain ⟨As', s', kb, _⟩ := go _ _ _ ((rt.app (.one ry)).app rd) (by simp) (fun _ z => by simp at z)
  refine ⟨q, ws, kk, yv, rfl, rfl, hq, by rw [← r.length]; exact hl, k0, k1, ?_⟩
  exact k _ _ _ As' [] _ _ ((po0.weak.trans po1.weak).trans (po2.weak.trans ⟨.refl _, s', fun b hb => kb b hb, fun z => nomatch z⟩)) (.sc s' _) g
end
/-! xs[::step] of a tuple, step 1 or -1 -/
section
open PySem.Spec PyProof.Rows HT
variable {prog : Program} {w : World} {A : Around} {E : Value → Shared → Prop} {s : Shared}
theorem one_places (n : Nat) : Builtin.Slice.slicePlaces 0 (n : Int) 1 = n := by
  unfold Builtin.Slice.slicePlaces
  split
  · split
    · show ((((n : Int) - 0 - 1) / 1) + 1).toNat = n
      rw [Int.ediv_one]; omega
    · omega
  · omega
theorem sliceApplied_one {sl : Addr} {vl vu vs : Value} {n : Nat} {Q : Int × Int × Nat → Shared → Prop} (hs : s.heap.IsSliceOf sl vl vu vs) (pl : IsPart vl none) (pu : IsPart vu none) (ps : IsPart vs (some 1))
    (h : Q (0, 1, n) s) : wpAny (model prog w) A (Builtin.Slice.sliceApplied (.ref sl) (pure (n : Int))) Q E s := by
  obtain ⟨os, hos, hcs, hds⟩ := id hs
  unfold Builtin.Slice.sliceApplied Builtin.Slice.sliceFields
  refine wpAny_bind (wpAny_bind (wpAny_field hos hds (x := vl) rfl (wpAny_bind (wpAny_field hos hds (x := vu) rfl (wpAny_bind (wpAny_field hos hds (x := vs) rfl (wpAny_pure ?_)))))))
  refine wpAny_bind (slicePart_ ps ?_)
  show wpAny _ _ (if ((1 : Int) == 0) = true then _ else _) _ _ s
  rw [if_neg (by decide)]
  refine wpAny_bind (slicePart_ pl (wpAny_bind (slicePart_ pu (wpAny_bind (wpAny_pure (wpAny_pure ?_))))))
  show Q (0, 1, Builtin.Slice.slicePlaces 0 (n : Int) 1) s
  rw [one_places]
  exact h
theorem getItem_tuple_one {t sl : Addr} {items : Array Value} {vl vu vs : Value} {Q : Value → Shared → Prop} (ht : IsTup s.heap t items) (hs : s.heap.IsSliceOf sl vl vu vs) (pl : IsPart vl none) (pu : IsPart vu none) (ps : IsPart vs (some 1))
    (h : Q (.ref t) s) : wpAny (model prog w) A (getItem (.ref t) (.ref sl)) Q E s := by
  obtain ⟨os, hos, hcs, hds⟩ := id hs
  have hTs : s.TypeIs (.ref sl) "slice" := ⟨os, hos, hcs⟩
  unfold getItem
  try with_reducible refine wpAny_holding ?_
  first | refine wpAny_bind (wpAny_pure ?_) | skip
  refine wpAny_bind (wpAny_sequenceKey ht.typeIs (by decide) ?_)
  refine wpAny_bind (wpAny_callSpecial?_slot (name := Str.ofString "__getitem__") ht.typeIs slot_tuple_getitem (wpAny_call_entry slot_tuple_getitem ht.typeIs entry_tuple_getitem ?_ (args_tuple_getitem _ _)))
  show wpAny _ _ (Builtin.Tuple.tupleItemsOf (.ref t) >>= _) _ _ s
  refine wpAny_bind (tupleItemsOf_ ht (wpAny_bind (wpAny_typeOf hTs ?_)))
  rw [if_pos (by decide)]
  refine wpAny_bind (sliceApplied_one hs pl pu ps ?_)
  show wpAny _ _ (if ((0 : Int) == 0 && (1 : Int) == 1 && items.size == items.size) = true then _ else _) _ _ s
  rw [if_pos (by simp)]
  unfold Builtin.Tuple.tupleIsExact
  refine wpAny_bind (wpAny_bind (wpAny_typeOf ht.typeIs (wpAny_pure ?_)))
  rw [if_pos (by decide)]
  refine wpAny_bind (wpAny_rule ?_)
  first
    | exact wpAny_pure ⟨_, rfl, wpAny_pure h⟩
    | exact ⟨_, rfl, wpAny_pure h⟩
/-- xs[::st] of a tuple -/
def tRevS (K : PySem.W.Frag) (te ts : TE) : TE := fun σ H Q => te σ H fun x H1 => tPart ts σ H1 fun o H2 => ∃ a xs, x = .ref a ∧ SqT K H2 a xs ∧ ((o = some (-1) ∧ ∀ p, H2 p = none → Q (.ref p) (upd H2 p (.tup xs.reverse))) ∨ (o = some 1 ∧ Q (.ref a) H2))
theorem pe_revS {X : Cx} {e st : Expr} {te ts : TE} {p3 pos : Pos} (he : PE X e te) (hst : PE X st ts) : PE X (.Subscript e (.Slice none none (some st) p3) pos) (tRevS X.K te ts) := by
  refine ⟨fun pins s σ H Q I h => Subscript_ (thn (he.run pins s σ H _ I h) ?_)⟩
  rintro v s1 ⟨x, H1, I1, r1, q⟩
  have step : PO X (some st) (tPart ts) := po_some hst
  refine wpAny_Slice (thn (po_none.run pins s1 σ H1 (fun o H2 => o = none ∧ H2 = H1) I1 ⟨rfl, rfl⟩) ?_)
  rintro vl s2 ⟨l, H2, I2, pl, rfl, rfl⟩
  refine thn (po_none.run pins s2 σ H2 (fun o H3 => o = none ∧ H3 = H2) I2 ⟨rfl, rfl⟩) ?_
  rintro vu s3 ⟨u, H3, I3, pu, rfl, rfl⟩
  refine thn (step.run pins s3 σ H3 _ I3 q) ?_
  rintro vs s4 ⟨o, H4, I4, ps, a, xs, rfl, hx, q⟩
  obtain rfl : v = Value.ref a := r1
  have I5 : Inv X pins σ H4 { s4 with heap := s4.heap.push { cls := .type "slice", data := .fields #[vl, vu, vs] } } := I4.kept (t' := s4.toks) fun b ob q => Heap.get?_push_of_some _ q
  show wpAny (model X.prog X.w) X.A (subscriptTail e (.Slice none none (some st) p3) (.ref a) (.ref s4.heap.objs.size)) (EP X pins σ Q) X.xe { s4 with heap := s4.heap.push { cls := .type "slice", data := .fields #[vl, vu, vs] } }
  obtain ⟨its, r, ht, hz⟩ := I5.tuple hx
  have hlen := r.length
  rcases q with ⟨rfl, q⟩ | ⟨rfl, q⟩
  · refine tail_any (ops := [.ref a, .ref s4.heap.objs.size]) ht.typeIs slot_tuple_getitem.lookup (getItem_tuple_rev ht (Heap.IsSliceOf.new _ vl vu vs) pl pu ps ?_ (by rw [List.size_toArray]; omega)) (by with_unfolding_all rfl)
    exact ⟨.ref _, _, I5.laid (t' := s4.toks) (o := .tup xs.reverse) (fun b ob q => Heap.get?_push_of_some _ q) (Nat.le_refl _) ⟨by rw [List.length_reverse]; exact hz, _, r.reverse, IsTup.new _ _⟩, rfl, q _ (I5.hok.fresh (Nat.le_refl _))⟩
  · refine tail_any (ops := [.ref a, .ref s4.heap.objs.size]) ht.typeIs slot_tuple_getitem.lookup (getItem_tuple_one ht (Heap.IsSliceOf.new _ vl vu vs) pl pu ps ?_) (by with_unfolding_all rfl)
    exact ⟨.ref _, _, I5, rfl, q⟩
/-- xs[::k] of frozen items, k 1 or -1 -/
def rdStep : D → Int → (D → Prop) → Prop
  | .tup xs, k, R => D.fzL xs = true ∧ (k = 1 ∨ k = -1) ∧ R (.tup (if k = 1 then xs else xs.reverse))
  | _, _, _ => False
def wRevS (we ws : WE) : WE := fun env R => we env fun d e1 => ws e1 fun k e2 => asI k fun kk => rdStep d kk fun z => R z e2
theorem de_revS {X : Cx} {p : Bool} {e st : Expr} {we ws : WE} {p3 pos : Pos} (h : DE p X e we) (hst : DE p X st ws) : DE p X (.Subscript e (.Slice none none (some st) p3) pos) (wRevS we ws) := by
  refine ⟨PEimp (pe_revS h.pe hst.pe) ?_⟩
  rintro σ H Q ⟨F, B, env, As, R, s, hw, k⟩
  refine ⟨F, B, env, As, _, s, hw, fun v H1 F1 As1 a d e1 po1 t1 h1 => ?_⟩
  refine ⟨F1, Bx B a, e1, As1, _, po1.so.push t1, h1, fun u H2 F2 As2 b kd e2 po2 t2 g0 => ?_⟩
  obtain ⟨m, rfl, g1⟩ := asI_inv g0
  obtain ⟨rfl, _⟩ := t2.rep.sc_inv
  refine ⟨m, rfl, ?_⟩
  unfold rdStep at g1
  split at g1
  · rename_i xs kk R'
    obtain ⟨z, hk, g⟩ := g1
    have t1' := t1.keep po2
    obtain ⟨q, us, rfl, e1', r1⟩ := t1'.rep.tup_inv po2.so.same
    have r2 := r1.fz_mem z
    have po12 := po1.trans po2.pop
    refine ⟨q, us, rfl, e1', ?_⟩
    rcases hk with rfl | rfl
    · refine .inr ⟨rfl, ?_⟩
      rw [if_pos rfl] at g
      exact k _ H2 F2 As2 [] _ e2 po12 (.fz (by
        have := t1'.rep
        rw [this.fzNil (by simpa [D.fz] using z)] at this
        exact this) po12.so) g
    · refine .inl ⟨rfl, ?_⟩
      rw [if_neg (by decide)] at g
      exact out_tup po2.so.pop r2.rev g fun v' H3 F3 c z' po3 t3 h3 => k v' H3 F3 As2 c z' e2 (po12.trans (po3.imp fun _ => rfl)) t3 h3
  · exact g1.elim
end
/-! a pure expression in which a name's own value is looked at as frozen; scalars, or a list of scalars, come out -/
def outD : D → Bool
  | .sc _ => true
  | .obj true .lst xs => (D.scs xs).isSome
  | _ => false
def seeE (env : En) : En := env.map fun o => o.map D.frz
/-- w, where all own values are looked at as frozen -/
def wView (w : WE) : WE := fun env R => w (seeE env) fun r _ => outD r = true ∧ R r env
theorem EnvR.see {K : PySem.W.Frag} {F F' H : Hp} {env : En} {σ : L2.St} {As : List (List Addr)} (r : EnvR K F H env σ As) (e : Same F F') (h : ∀ a ∈ As.flatten, F' a = H a) : EnvR K F' H (seeE env) σ (As.map fun _ => []) := by
  induction r with
  | nil => exact .nil
  | emp _ ih => exact .emp (ih fun a ha => h a (by simpa using ha))
  | val r _ ih => exact .val (r.freeze e fun a ha => h a (by rw [List.flatten_cons]; exact List.mem_append_left _ ha)) (ih fun a ha => h a (by rw [List.flatten_cons]; exact List.mem_append_right _ ha))
theorem empties {α β : Type} (l : List α) : (l.map fun _ => ([] : List β)).flatten = [] := by
  induction l with
  | nil => rfl
  | cons _ _ ih => simpa using ih
theorem de_view {X : Cx} {p q : Bool} {e : Expr} {w : WE} (h : DE q X e w) : DE p X e (wView w) := by
  refine ⟨PEimp h.pe ?_⟩
  rintro σ H Q ⟨F, B, env, As, R, s, hw, k⟩
  have ef := fzAt_same (H := H) s.fr
  have there : ∀ x ∈ As.flatten, ∃ o, H x = some o := s.env.there
  have s2 : SO X.K (fzAt F H As.flatten) H B (seeE env) σ (As.map fun _ => []) := ⟨fzAt_sub s.same, s.env.see ef fun a ha => fzAt_in ha, by rw [empties]; exact List.nodup_nil, (by rw [empties]; exact fun _ z => nomatch z), fun b hb => by
    obtain ⟨g1, g2, g3⟩ := s.out b hb
    exact ⟨by rw [fzAt_out g3]; exact g1, g2, (by rw [empties]; exact fun z => nomatch z)⟩⟩
  refine ⟨_, B, _, _, _, s2, hw, fun v' H' F' As' c z env' po2 t2 ⟨hz, hR⟩ => ?_⟩
  have F2H : Same (fzAt F H As.flatten) H' := po2.ext.trans po2.so.same
  have keepA : ∀ x ∈ As.flatten, H' x = H x := by
    intro x hx
    obtain ⟨o, ho⟩ := there x hx
    rw [ho]; exact F2H x o (by rw [fzAt_in hx]; exact ho)
  have so' : SO X.K F H' B env σ As := ⟨ef.trans F2H, s.env.frame (Same.refl _) keepA, s.nd, s.fr, fun b hb => by
    obtain ⟨g1, g2, g3⟩ := s.out b hb
    exact ⟨g1, g2.of_eq (po2.keep b hb), g3⟩⟩
  refine k v' H' F As c z env ⟨Same.refl _, so', po2.keep, fun _ => ⟨rfl, rfl, keepA⟩⟩ ?_ hR
  unfold outD at hz
  split at hz
  · obtain ⟨rfl, rfl⟩ := t2.rep.sc_inv
    exact .sc so' _
  · rename_i xs
    obtain ⟨ws, hws⟩ := Option.isSome_iff_exists.mp hz
    have := D.scs_some hws
    subst this
    obtain ⟨g1, g2, g3, g4⟩ := t2
    cases g1 with
    | own hc rr =>
      rename_i q us A0
      obtain ⟨rfl, rfl⟩ := rr.sc_inv
      have hq := g3 q (List.mem_cons_self ..)
      have na : q ∉ As.flatten := by
        intro z
        obtain ⟨o, ho⟩ := there q z
        have := po2.ext q o (by rw [fzAt_in z]; exact ho)
        rw [hq] at this; cases this
      have hF : F q = none := by
        cases hFq : F q with
        | none => rfl
        | some o =>
          have := po2.ext q o (ef q o hFq)
          rw [hq] at this; cases this
      exact ⟨.own hc (RepL.sc_of _), by simpa using ⟨fun x hx z => na (List.mem_flatten.mpr ⟨x, hx, z⟩), s.nd⟩, fun x hx => by rw [List.mem_singleton.mp hx]; exact hF, fun x hx => g4 x hx⟩
  · exact absurd hz (by simp)
/-- name.pop(i), i may draw -/
def wPopAtN (i : Nat) (wi : WE) : WE := fun env R => ownL (env[i]?) fun _ => wi env fun k e1 => asI k fun kk => ownL (e1[i]?) fun xs => -(2 ^ 63) ≤ kk ∧ kk < 2 ^ 63 ∧ ∃ j x, L2.ixN xs.length kk = some j ∧ xs[j]? = some x ∧ x.fz = true ∧ R x (e1.set i (some (.lst true (xs.eraseIdx j))))
theorem de_popAtN {X : Cx} {p : Bool} {o e : Expr} {wi : WE} {apos cpos : Pos} {i : Nat} (ho : PE X o (tVar i)) (hi : DE p X e wi) (hbase : attributeBase o "pop" X.env (eval o X.env) = eval o X.env := by rfl)
    (hfew : ((backTo cpos (starEach (e :: []) X.env)).all (fun x => !x.1) && (backToKw cpos (keywordEach [] X.env)).all (fun x => x.1.isSome)
      && decide ((e :: []).length + ([] : List Keyword).length + (if ([] : List Keyword).isEmpty then 0 else 1) < 30)) = true := by rfl)
    (hline : (apos.endLine == cpos.line) = true := by rfl) (hs : starEach (e :: []) X.env = (false, eval e X.env) :: starEach [] X.env := by rfl) (hplain : (backTo cpos (starEach [] X.env)).any (·.1) = false := by rfl) :
    DE false X (.Call (.Attribute o "pop" apos) [e] [] cpos) (wPopAtN i wi) := by
  refine ⟨PEimp (pe_bm PySem.F.plainAttrs_list PySem.F.slot_list_pop PySem.F.type_list_pop mt_popAt ho (pa_cons hi.pe pa_nil hs) hbase hfew hline hs hplain) ?_⟩
  rintro σ H Q ⟨F, B, env, As, R, s, hw, k⟩
  obtain ⟨xs0, e0, hw⟩ := ownL_inv hw
  obtain ⟨v, A0, h1, h2, h3⟩ := s.env.get e0
  obtain ⟨q, vs0, e1, e2⟩ := (Foc.root h3).tyL
  subst e1
  refine ⟨_, h1, .inl ⟨rfl, vs0, .of e2⟩, F, B, env, As, _, s, hw, fun yv H2 F2 As2 ay y env2 po2 t2 g => ?_⟩
  obtain ⟨kk, rfl, g⟩ := asI_inv g
  obtain ⟨rfl, _⟩ := t2.rep.sc_inv
  obtain ⟨xs, g1, hk1, hk2, j, x, hj, hx, z, g⟩ := ownL_inv g
  obtain ⟨v', A, g2, g3, g4⟩ := po2.so.env.get g1
  rw [h1] at g2; cases g2
  obtain ⟨q', vs, A3, eq, hq, r, nd3, ap, go⟩ := list_core (a := []) po2.so g1 h1 g3 (.root g4) (by simpa using po2.so.nd) (fun _ z => nomatch z) (fun _ z => nomatch z)
  cases eq
  obtain ⟨w, A4, A5, A6, h3', h4, h5, h6⟩ := r.erase hx
  have := h5.fzNil z; subst this
  obtain ⟨As', s', kb, _⟩ := go _ _ (A4 ++ A6) h6 (by rw [h4] at nd3; exact nodup3 nd3) fun x hx => .inl (by rw [h4]; simpa using hx)
  have hj2 := ixN_seq hj
  refine ⟨q, vs, kk, j, w, rfl, rfl, hq, hk1, hk2, by rw [← r.length]; exact hj2.1, h3', ?_⟩
  exact k _ _ F2 As' [] x _ ⟨po2.ext, s', fun b hb => (kb b hb).trans (po2.keep b hb), fun z => nomatch z⟩ (.fz (h5.frame (Same.refl _) fun _ z => nomatch z) s') g
end PL

/-! PLp: statements that are never reached. -/
namespace PL
open PySem L2
/-- a statement that is never reached -/
def sNever : WS := fun _ _ => False
theorem ds_never {kp : List Nat} {X : Cx} {st : Stmt} : DS kp X st sNever := ⟨PSimp ps_never fun D σ H ⟨F, B, env, As, RD, s, hw, _⟩ => hw.elim⟩
end PL

/-! PLq: data in order: sorted, min, max of any data; <, <=, >, >= of them. -/
namespace PL
open PySem L2
/-- x < y as Python compares data -/
def dLt (x y : D) : Bool := PySem.W.dataLt x.py y.py
/-- data that can be compared -/
structure OrdL (xs : List D) : Prop where
  fz : D.fzL xs = true
  shp : ∀ x ∈ xs, x.shp = true
  ali : PySem.W.AllAlike (D.pyL xs)
  srt : PySem.W.Sortable (D.pyL xs)
  dep : ∀ x ∈ xs, x.py.depth ≤ 60
  len : xs.length ≤ sizeLine
def sortD (xs : List D) : List D := xs.mergeSort (PySem.W.dataLe false D.py)
theorem sortD_perm (xs : List D) : (sortD xs).Perm xs := List.mergeSort_perm ..
theorem dLt_irrefl (x : D) : dLt x x = false := PyProof.Rows.lex_irrefl _
theorem dLt_trans {x y z : D} (h : dLt x y = true) (k : dLt y z = true) : dLt x z = true := PyProof.Rows.lex_trans _ _ _ h k
theorem dLt_neg {x y z : D} (h : dLt x y = false) (k : dLt y z = false) : dLt x z = false := by
  rw [← Bool.not_eq_true]
  intro q
  cases hyx : dLt y x with
  | true => have := dLt_trans hyx q; rw [k] at this; cases this
  | false =>
    have e := PyProof.Rows.lex_total _ _ h hyx
    unfold dLt PySem.W.dataLt at q k
    rw [e] at q; rw [q] at k; cases k
theorem sortD_sorted (xs : List D) : (sortD xs).Pairwise fun x y => dLt y x = false := by
  have h := List.pairwise_mergeSort (le := PySem.W.dataLe false D.py) (l := xs) ?_ ?_
  · refine h.imp fun {x y} h => ?_
    rw [PySem.W.dataLe_eq] at h
    simpa [dLt] using h
  · intro a b c h k
    rw [PySem.W.dataLe_eq] at *
    simp at *
    exact dLt_neg (x := c) (y := b) (z := a) k h
  · intro a b
    rw [PySem.W.dataLe_eq]
    simp
    cases h : PySem.W.dataLt b.py a.py with
    | false => exact .inl rfl
    | true =>
      right
      rw [← Bool.not_eq_true]
      intro q
      have := PyProof.Rows.lex_trans _ _ _ h q
      rw [PyProof.Rows.lex_irrefl] at this
      cases this
section
variable {K : PySem.W.Frag} {F H : Hp}
/-- what a value stands for -/
def RV (K : PySem.W.Frag) (F H : Hp) (v : Value) (d : D) : Prop := ∃ u : V, RelV u v ∧ Rep K F H d u []
theorem each_of : ∀ {xs : List D} {us : List V} {its : List Value}, RepL K F H xs us [] → Vals us its → PySem.W.EachIs (RV K F H) its xs
  | [], _, _, r, rv => by
    obtain ⟨rfl, _⟩ := r.nil_inv
    cases rv
    exact .nil
  | x :: xs, _, _, r, rv => by
    obtain ⟨v, us, A1, A2, rfl, e, r1, r2⟩ := r.cons_inv
    obtain ⟨rfl, rfl⟩ := List.append_eq_nil_iff.mp e.symm
    cases rv with
    | cons h hs => exact .cons ⟨v, h, r1⟩ (each_of r2 hs)
theorem each_to : ∀ {xs : List D} {its : List Value}, PySem.W.EachIs (RV K F H) its xs → ∃ us, Vals us its ∧ RepL K F H xs us []
  | _, _, .nil => ⟨[], .nil, .nil⟩
  | _, _, .cons ⟨u, h, r⟩ hs => by
    obtain ⟨us, h2, r2⟩ := each_to hs
    exact ⟨u :: us, .cons h h2, .cons (A := []) (B := []) r r2⟩
end
section
variable {X : Cx}
theorem ord_reads {pins : List (Addr × Obj)} {σ : L2.St} {H F : Hp} {s : Shared} {xs : List D} (I : Inv X pins σ H s) (sm : Same F H) (hx : ∀ x ∈ xs, x.shp = true) : ∀ {its : List Value}, PySem.W.EachIs (RV X.K F H) its xs → PySem.W.EachIs (fun v d => ∃ as, PySem.Reads s.heap v (D.py d) as) its xs := by
  induction xs with
  | nil => intro its h; cases h; exact .nil
  | cons x xs ih =>
    intro its h
    cases h with
    | cons h hs =>
      obtain ⟨u, h1, r⟩ := h
      exact .cons (Dp.reads I _ _ _ (r.dp sm (hx _ (List.mem_cons_self ..))) h1) (ih (fun z hz => hx z (List.mem_cons_of_mem _ hz)) hs)
def rSortedDat (K : PySem.W.Frag) : List V → Hp → VK → Prop := fun vs H Q => ∃ F a xs us, vs = [V.ref a] ∧ SqL K H a us ∧ Same F H ∧ RepL K F H xs us [] ∧ OrdL xs ∧
  ∀ outV p, RepL K F H (sortD xs) outV [] → H p = none → Q (.ref p) (upd H p (.lst outV))
theorem cr_sortedDat (hu : X.A.units + 64 < cLine) : CallR X (.builtin "sorted") (rSortedDat X.K) := by
  intro pins s σ H vs us Q I r h
  obtain ⟨F, a, xs, ws, rfl, hs, sm, rl, o, q⟩ := h
  obtain ⟨its, rv, hl, hz⟩ := I.list hs
  rw [Vals.ref1 r]
  have e := each_of rl rv
  have hp := D.pyL_map xs
  have h1 := o.ali
  have h2 := o.srt
  rw [hp] at h1 h2
  refine PySem.W.sorted_data hl.isList e (ord_reads I sm o.shp e) h1 h2 o.len (fun b hb => by have := o.dep b hb; omega) fun out ho eo => ?_
  obtain ⟨outV, k1, k2⟩ := each_to eo
  obtain ⟨ep, he'⟩ := PyProof.Rows.sortedAll_at s.heap its out.toArray
  have hlen : outV.length ≤ sizeLine := by rw [Paired.length k1, ho]; exact o.len
  exact ⟨.ref _, upd H (s.heap.objs.size + 1) (.lst outV), I.laid (t' := s.toks) (fun _ _ => PyProof.Rows.sortedAll_old) (Nat.le_succ _) ⟨hlen, out, ep, k1, he'⟩, rfl, q _ _ k2 (I.hok.fresh (Nat.le_succ _))⟩
def rdSortedD : RDA
  | [.obj _ sh xs], R => isSeq sh = true ∧ OrdL xs ∧ R (.lst true (sortD xs))
  | _, _ => False
theorem sSortedD {K : PySem.W.Frag} : SndA K (rSortedDat K) rdSortedD := by
  intro F H B env σ As ds vs a R Q s r h k
  unfold rdSortedD at h
  split at h
  · obtain ⟨hs, o, h⟩ := h
    obtain ⟨v, rfl, a', r⟩ := r.one_inv'
    obtain ⟨p, us, a2, rfl, e1, r1⟩ := r.seq_inv hs s.same
    exact ⟨F, p, _, us, rfl, e1, s.same, r1.fz_mem o.fz, o, fun outV q r2 hq => out_lst s r2 h k q hq⟩
  · exact h.elim
theorem each_at : ∀ {xs : List D} {its : List Value} {K : PySem.W.Frag} {F H : Hp}, PySem.W.EachIs (RV K F H) its xs → ∀ {i : Nat} {v : Value}, its[i]? = some v → ∃ d u, xs[i]? = some d ∧ RelV u v ∧ Rep K F H d u []
  | _, _, _, _, _, .nil, i, v, h => by simp at h
  | _, _, _, _, _, .cons ⟨u, hu, r⟩ hs, 0, v, h => by
    simp at h; subst h
    exact ⟨_, u, rfl, hu, r⟩
  | _, _, _, _, _, .cons _ hs, i + 1, v, h => by
    simp at h
    obtain ⟨d, u, h1, h2, h3⟩ := each_at hs h
    exact ⟨d, u, by simpa using h1, h2, h3⟩
theorem reads_all : ∀ {xs : List D} {its : List Value} {h : Heap}, PySem.W.EachIs (fun v d => ∃ as, PySem.Reads h v (D.py d) as) its xs → ∃ as, PySem.ReadsAll h its (xs.map D.py) as
  | _, _, _, .nil => ⟨_, .nil⟩
  | _, _, _, .cons ⟨as, r⟩ hs => by
    obtain ⟨bs, r2⟩ := reads_all hs
    exact ⟨_, .cons r r2⟩
/-- the least of data, as the fold tells it -/
theorem minD_spec (x : D) : ∀ (xs : List D), ∃ m ∈ x :: xs, PySem.W.minD x.py (xs.map D.py) = m.py ∧ ∀ y ∈ x :: xs, dLt y m = false := by
  have go : ∀ (xs seen : List D) (a : D), a ∈ x :: seen → (∀ y ∈ x :: seen, dLt y a = false) → ∃ m ∈ x :: (seen ++ xs), List.foldl (fun a y => if PySem.W.dataLt y a then y else a) a.py (xs.map D.py) = m.py ∧ ∀ y ∈ x :: (seen ++ xs), dLt y m = false := by
    intro xs
    induction xs with
    | nil => intro seen a ha hm; exact ⟨a, by simpa using ha, rfl, by simpa using hm⟩
    | cons z xs ih =>
      intro seen a ha hm
      rw [List.map_cons, List.foldl_cons]
      cases hz : PySem.W.dataLt z.py a.py with
      | true =>
        have := ih (seen ++ [z]) z (by simp) (fun y hy => by
          have e : dLt a z = false := by
            rw [← Bool.not_eq_true]; intro q
            have := dLt_trans (x := z) hz q
            rw [dLt_irrefl] at this; cases this
          rcases List.mem_cons.mp hy with rfl | hy
          · exact dLt_neg (hm _ (List.mem_cons_self ..)) e
          · rcases List.mem_append.mp hy with hy | hy
            · exact dLt_neg (hm y (List.mem_cons_of_mem _ hy)) e
            · rw [List.mem_singleton.mp hy]; exact dLt_irrefl z)
        simpa using this
      | false =>
        have := ih (seen ++ [z]) a (by rcases List.mem_cons.mp ha with h | h <;> simp [h]) (fun y hy => by
          rcases List.mem_cons.mp hy with rfl | hy
          · exact hm _ (List.mem_cons_self ..)
          · rcases List.mem_append.mp hy with hy | hy
            · exact hm y (List.mem_cons_of_mem _ hy)
            · rw [List.mem_singleton.mp hy]; exact hz)
        simpa using this
  intro xs
  have := go xs [] x (by simp) (fun y hy => by simp at hy; subst hy; exact dLt_irrefl _)
  unfold PySem.W.minD
  simpa using this
/-- min of a list of data -/
def rMinDat (K : PySem.W.Frag) : List V → Hp → VK → Prop := fun vs H Q => ∃ F a xs us, vs = [V.ref a] ∧ SqL K H a us ∧ Same F H ∧ RepL K F H xs us [] ∧ OrdL xs ∧ xs ≠ [] ∧ (∀ x ∈ xs, x.py ≠ .none) ∧
  ∀ d u, d ∈ xs → Rep K F H d u [] → (∀ y ∈ xs, dLt y d = false) → Q u H
theorem cr_minDat (hc : X.calm = true) (hu : X.A.units + 64 < cLine) : CallR X (.builtin "min") (rMinDat X.K) := by
  intro pins s σ H vs us Q I r h
  obtain ⟨F, a, xs, ws, rfl, hs, sm, rl, o, ne, nn, q⟩ := h
  obtain ⟨its, rv, hl, hz⟩ := I.list hs
  rw [Vals.ref1 r]
  have e := each_of rl rv
  have h1 := o.ali
  rw [D.pyL_map xs] at h1
  obtain ⟨as, ra⟩ := reads_all (ord_reads I sm o.shp e)
  have hd : PyData.depthAll (xs.map D.py) ≤ 60 := by
    have : ∀ l : List D, (∀ x ∈ l, x.py.depth ≤ 60) → PyData.depthAll (l.map D.py) ≤ 60 := by
      intro l
      induction l with
      | nil => intro _; exact Nat.zero_le _
      | cons x l ih =>
        intro hx
        rw [List.map_cons]
        simp only [PyData.depthAll]
        have := hx x (List.mem_cons_self ..)
        have := ih fun z hz => hx z (List.mem_cons_of_mem _ hz)
        omega
    exact this xs o.dep
  cases xs with
  | nil => exact absurd rfl ne
  | cons x xs =>
    rw [List.map_cons] at ra h1 hd
    refine PySem.W.min_list_data (I.ok.hd hc) hl.isList (by simpa using ra) ⟨fun d hd d' hd' => h1 d hd d' hd', fun d hd => ?_⟩ (by omega) fun i v h' tk bs hi hr hk => ?_
    · rcases List.mem_cons.mp hd with rfl | hd
      · exact nn x (List.mem_cons_self ..)
      · obtain ⟨z, hz, rfl⟩ := List.mem_map.mp hd
        exact nn z (List.mem_cons_of_mem _ hz)
    · obtain ⟨d, u, g1, g2, g3⟩ := each_at e (i := i) (v := v) (by simpa using hi)
      have hm := List.mem_of_getElem? g1
      obtain ⟨m, mm, me, ml⟩ := minD_spec x xs
      have I2 : Inv X pins σ H { s with heap := h', toks := tk } := I.kept hk
      obtain ⟨as2, r2⟩ := Dp.reads I2 _ _ _ (g3.dp sm (o.shp d hm)) g2
      have ed : d.py = PySem.W.minD x.py (xs.map D.py) := by
        refine PySem.W.alike_unique _ _ _ _ _ ?_ r2 hr
        rw [me]
        have mem : ∀ z ∈ x :: xs, z.py ∈ x.py :: xs.map D.py := fun z hz => by
          rw [← List.map_cons]; exact List.mem_map.mpr ⟨z, hz, rfl⟩
        exact h1 _ (mem d hm) _ (mem m mm)
      exact ⟨u, H, I2, g2, q d u hm g3 fun y hy => by
        have := ml y hy
        unfold dLt at this ⊢
        rw [ed, me]; exact this⟩
def rdMinD : RDA
  | [.obj _ sh xs], R => isSeq sh = true ∧ OrdL xs ∧ xs ≠ [] ∧ (∀ x ∈ xs, x.py ≠ .none) ∧ ∀ d ∈ xs, (∀ y ∈ xs, dLt y d = false) → R d
  | _, _ => False
theorem sMinD {K : PySem.W.Frag} : SndA K (rMinDat K) rdMinD := by
  intro F H B env σ As ds vs a R Q s r h k
  unfold rdMinD at h
  split at h
  · obtain ⟨hs, o, ne, nn, h⟩ := h
    obtain ⟨v, rfl, a', r⟩ := r.one_inv'
    obtain ⟨p, us, a2, rfl, e1, r1⟩ := r.seq_inv hs s.same
    exact ⟨F, p, _, us, rfl, e1, s.same, r1.fz_mem o.fz, o, ne, nn, fun d u hd rd hm => out_old s rd (h d hd hm) k⟩
  · exact h.elim
/-! <, <=, >, >= of data -/
def rCmpDat (K : PySem.W.Frag) (f : PyData → PyData → Bool) : R2 := fun x y H Q => ∃ d e, Dp K H x d ∧ Dp K H y e ∧ PySem.W.alike d e = true ∧ d ≠ .none ∧ min d.depth e.depth ≤ 60 ∧ Q (.bl (f d e)) H
theorem op_ltDat (hu : X.A.units + 64 < cLine) : OpR X (compareOp .Lt) (rCmpDat X.K fun d e => PySem.W.dataLt d e) := by
  intro pins s σ H x y v u Q I rx ry h
  obtain ⟨d, e, hd, he, ha, hn, hp, q⟩ := h
  obtain ⟨as, r1⟩ := Dp.reads I d x v hd rx
  obtain ⟨bs, r2⟩ := Dp.reads I e y u he ry
  exact PySem.W.lt_data r1 r2 ha hn (by omega) ⟨.bl _, H, I, rfl, q⟩
theorem op_gtDat (hu : X.A.units + 64 < cLine) : OpR X (compareOp .Gt) (rCmpDat X.K fun d e => PySem.W.dataLt e d) := by
  intro pins s σ H x y v u Q I rx ry h
  obtain ⟨d, e, hd, he, ha, hn, hp, q⟩ := h
  obtain ⟨as, r1⟩ := Dp.reads I d x v hd rx
  obtain ⟨bs, r2⟩ := Dp.reads I e y u he ry
  exact PySem.W.gt_data r1 r2 ha hn (by omega) ⟨.bl _, H, I, rfl, q⟩
theorem op_leDat (hu : X.A.units + 64 < cLine) : OpR X (compareOp .LtE) (rCmpDat X.K fun d e => !PySem.W.dataLt e d) := by
  intro pins s σ H x y v u Q I rx ry h
  obtain ⟨d, e, hd, he, ha, hn, hp, q⟩ := h
  obtain ⟨as, r1⟩ := Dp.reads I d x v hd rx
  obtain ⟨bs, r2⟩ := Dp.reads I e y u he ry
  exact PySem.W.le_data r1 r2 ha hn (by omega) ⟨.bl _, H, I, rfl, q⟩
theorem op_geDat (hu : X.A.units + 64 < cLine) : OpR X (compareOp .GtE) (rCmpDat X.K fun d e => !PySem.W.dataLt d e) := by
  intro pins s σ H x y v u Q I rx ry h
  obtain ⟨d, e, hd, he, ha, hn, hp, q⟩ := h
  obtain ⟨as, r1⟩ := Dp.reads I d x v hd rx
  obtain ⟨bs, r2⟩ := Dp.reads I e y u he ry
  exact PySem.W.ge_data r1 r2 ha hn (by omega) ⟨.bl _, H, I, rfl, q⟩
def rdCmpD (f : D → D → Bool) : RD2 := fun x y R => x.shp = true ∧ y.shp = true ∧ PySem.W.alike x.py y.py = true ∧ x.py ≠ .none ∧ min x.py.depth y.py.depth ≤ 60 ∧ R (.bl (f x y))
abbrev rdLtD : RD2 := rdCmpD fun x y => dLt x y
abbrev rdGtD : RD2 := rdCmpD fun x y => dLt y x
abbrev rdLeD : RD2 := rdCmpD fun x y => !dLt y x
abbrev rdGeD : RD2 := rdCmpD fun x y => !dLt x y
theorem sCmpD {K : PySem.W.Frag} {f : PyData → PyData → Bool} : Snd2 K (rCmpDat K f) (rdCmpD fun x y => f x.py y.py) := by
  intro F H B env σ As x y v u a b R Q s r1 r2 h k
  obtain ⟨h1, h2, h3, h4, h5, h⟩ := h
  exact ⟨_, _, r1.dp s.same h1, r2.dp s.same h2, h3, h4, h5, out_sc s h k⟩
theorem sLtD {K : PySem.W.Frag} : Snd2 K (rCmpDat K fun d e => PySem.W.dataLt d e) rdLtD := sCmpD (f := fun d e => PySem.W.dataLt d e)
theorem sGtD {K : PySem.W.Frag} : Snd2 K (rCmpDat K fun d e => PySem.W.dataLt e d) rdGtD := sCmpD (f := fun d e => PySem.W.dataLt e d)
theorem sLeD {K : PySem.W.Frag} : Snd2 K (rCmpDat K fun d e => !PySem.W.dataLt e d) rdLeD := sCmpD (f := fun d e => !PySem.W.dataLt e d)
theorem sGeD {K : PySem.W.Frag} : Snd2 K (rCmpDat K fun d e => !PySem.W.dataLt d e) rdGeD := sCmpD (f := fun d e => !PySem.W.dataLt d e)
end
end PL

/-! PLr: name = other[i], where the item is an own thing: it is lent to the name for the rest of the block. -/
namespace PL
open PySem L2
section
variable {K : PySem.W.Frag} {p : Bool} {kp : List Nat} {F F' F2 H H' H2 : Hp} {B : Addr → Prop} {env env' env2 : En} {σ σ' σ2 : L2.St} {As As' As2 : List (List Addr)} {d d' d2 x t : D} {v v2 v0 w : V} {a a2 A A' : List Addr} {xs ys : List D} {i j n : Nat}
/-- the item of an own list at hand, and the list without it -/
theorem TO.split (s : SO K F H B env σ As) (t : TO K F H B As (.obj true .lst xs) v a) (e : xs[n]? = some x) :
    ∃ q vs w A1 A' A2, v = .ref q ∧ H q = some (.lst vs) ∧ vs[n]? = some w ∧ xs.length = vs.length ∧ a = A1 ++ A' ++ A2 ∧ TO K F H B As (.obj true .lst (xs.set n (.sc w))) v (A1 ++ A2) ∧ Rep K F H x w A' := by
  obtain ⟨q, vs, w, A', rfl, hq, hw, hl, A1, A2, rfl, r, up⟩ := (Foc.root t.rep).item e
  have u := up F H (.sc w) [] (Same.refl F) (fun _ _ => rfl) .sc
  have nd := t.nd
  rw [List.append_assoc] at nd
  refine ⟨q, vs, w, A1, A', A2, rfl, hq, hw, hl, rfl, ⟨by simpa using u, ?_, fun y hy => t.fr y ?_, fun y hy => t.nb y ?_⟩, r⟩
  · have pm : (A1 ++ A' ++ (A2 ++ As.flatten)).Perm (A' ++ (A1 ++ A2 ++ As.flatten)) := by
      rw [List.append_assoc A1, List.append_assoc A1]
      refine (List.Perm.append_left A1 (List.Perm.refl _)).trans ?_
      rw [← List.append_assoc A1 A', ← List.append_assoc A' A1]
      exact List.Perm.append_right _ List.perm_append_comm
    exact (List.nodup_append.mp (pm.nodup_iff.mp nd)).2.1
  · rcases List.mem_append.mp hy with z | z <;> simp [z]
  · rcases List.mem_append.mp hy with z | z <;> simp [z]
/-- an item is lent to slot j -/
theorem SO.part (s : SO K F H B env σ As) (e1 : env[i]? = some (some (.obj true .lst xs))) (e2 : xs[n]? = some x) :
    ∃ q vs w As', σ[i]? = some (some (.ref q)) ∧ H q = some (.lst vs) ∧ vs[n]? = some w ∧ xs.length = vs.length ∧ SO K F H B ((env.set i (some (.obj true .lst (xs.set n (.sc w))))).set j (some x)) (σ.set j (some w)) As' := by
  obtain ⟨v, a, h1, h2, s1, t1⟩ := s.take e1
  obtain ⟨q, vs, w, A1, A', A2, rfl, hq, hw, hl, rfl, t2, rx⟩ := t1.split s1 e2
  have hi : i < As.length := s.lt e1
  have s2 := s1.put (s.emptied hi) t2 h1
  rw [set_set, set_set] at s2
  have nd := t1.nd
  have pm2 := flat_set As i (A1 ++ A2) hi
  have t3 : TO K F H B (As.set i (A1 ++ A2)) x w A' := by
    refine ⟨rx, ?_, fun y hy => t1.fr y (by simp [hy]), fun y hy => t1.nb y (by simp [hy])⟩
    refine (List.Perm.nodup_iff ?_).mp nd
    refine List.Perm.trans ?_ (List.Perm.append_left A' pm2.symm)
    rw [← List.append_assoc A', ← List.append_assoc A']
    exact List.Perm.append_right _ (List.Perm.append_right _ List.perm_append_comm)
  exact ⟨q, vs, w, _, h1, hq, hw, hl, s2.assign t3 j⟩
/-- what was lent is given back -/
theorem SO.rejoin (s : SO K F H B env σ As) (hij : i ≠ j) (e1 : env[i]? = some (some (.obj true .lst ys))) (e2 : ys[n]? = some (.sc w)) (e3 : env[j]? = some (some t)) (hσ : σ[j]? = some (some w)) :
    ∃ As', SO K F H B ((env.set j none).set i (some (.obj true .lst (ys.set n t)))) σ As' := by
  obtain ⟨v, a, h1, h2, s1, t1⟩ := s.take e3
  rw [hσ] at h1; cases h1
  have e1' : (env.set j none)[i]? = some (some (.obj true .lst ys)) := by rw [List.getElem?_set_ne (fun z => hij z.symm)]; exact e1
  obtain ⟨v2, a2, g1, g2, s2, t2⟩ := s1.take e1'
  have hi := s1.lt e1'
  obtain ⟨q, vs, w2, A', rfl, hq, hw, hl, A1, A2, rfl, r, up⟩ := (Foc.root t2.rep).item e2
  obtain ⟨rfl, rfl⟩ := r.sc_inv
  have u := up F H t a (Same.refl F) (fun _ _ => rfl) t1.rep
  have pm0 := flat_at (As.set j []) i _ g2
  have t4 : TO K F H B ((As.set j []).set i []) (.obj true .lst (ys.set n t)) (.ref q) (A1 ++ a ++ A2) := by
    refine ⟨by simpa using u, ?_, fun y hy => ?_, fun y hy => ?_⟩
    · refine (List.Perm.nodup_iff ?_).mp t1.nd
      refine (List.Perm.append_left a pm0).trans ?_
      rw [← List.append_assoc a, List.append_nil]
      refine List.Perm.append_right _ ?_
      rw [← List.append_assoc a]
      exact List.Perm.append_right _ List.perm_append_comm
    · rcases List.mem_append.mp hy with z | z
      · rcases List.mem_append.mp z with z | z
        · exact t2.fr y (by simp [z])
        · exact t1.fr y z
      · exact t2.fr y (by simp [z])
    · rcases List.mem_append.mp hy with z | z
      · rcases List.mem_append.mp z with z | z
        · exact t2.nb y (by simp [z])
        · exact t1.nb y z
      · exact t2.nb y (by simp [z])
  have s3 := s2.put (s1.emptied hi) t4 g1
  rw [set_set, set_set] at s3
  exact ⟨_, s3⟩
theorem SO.rejoinT (s : SO K F H B env σ As) (u : TO K F H B As d v a) (hij : i ≠ j) (e1 : env[i]? = some (some (.obj true .lst ys))) (e2 : ys[n]? = some (.sc w)) (e3 : env[j]? = some (some t)) (hσ : σ[j]? = some (some w)) :
    ∃ As', SO K F H B ((env.set j none).set i (some (.obj true .lst (ys.set n t)))) σ As' ∧ TO K F H B As' d v a := by
  obtain ⟨As', s'⟩ := (s.push u).rejoin hij e1 e2 e3 hσ
  refine ⟨As', s'.pop, u.rep, ?_, u.fr, u.nb⟩
  refine List.nodup_append.mpr ⟨(List.nodup_append.mp u.nd).1, s'.nd, fun x hx y hy z => (s'.out x (.inr hx)).2.2 (z ▸ hy)⟩
/-- name j = name i[e]; rest: what stands behind it in the block -/
def sLend (i j : Nat) (wi : WE) (wr : WS) : WS := fun env RD => (∃ d, env[i]? = some (some d)) ∧ j < env.length ∧ wi env fun k e1 => asI k fun kk => ownL (e1[i]?) fun xs => ∃ n x, L2.ixN xs.length kk = some n ∧ xs[n]? = some x ∧
  ∀ w : V, wr ((e1.set i (some (.obj true .lst (xs.set n (.sc w))))).set j (some x))
    { nx := fun e2 => ownL (e2[i]?) fun ys => ys[n]? = some (.sc w) ∧ ∃ t, e2[j]? = some (some t) ∧ RD.nx ((e2.set j none).set i (some (.obj true .lst (ys.set n t)))),
      rt := fun d e2 => ownL (e2[i]?) fun ys => ys[n]? = some (.sc w) ∧ ∃ t, e2[j]? = some (some t) ∧ RD.rt d ((e2.set j none).set i (some (.obj true .lst (ys.set n t)))),
      bk := fun e2 => ownL (e2[i]?) fun ys => ys[n]? = some (.sc w) ∧ ∃ t, e2[j]? = some (some t) ∧ RD.bk ((e2.set j none).set i (some (.obj true .lst (ys.set n t)))),
      ct := fun e2 => ownL (e2[i]?) fun ys => ys[n]? = some (.sc w) ∧ ∃ t, e2[j]? = some (some t) ∧ RD.ct ((e2.set j none).set i (some (.obj true .lst (ys.set n t)))) }
theorem dss_lend {X : Cx} {o b : Expr} {wi : WE} {wr : WS} {rest : List Stmt} {y : Str} {py tp pos : Pos} (ho : PE X o (tVar i)) (hi : DE p X b wi) (hs : PlainIx b) (hN : X.N.Nodup) (hy : X.N[j]? = some y) (hl : Loc X.env.scope y) (hk : j ∉ kp) (hij : i ≠ j)
    (hr : DSs (j :: kp) X rest wr) (hsw : swapsWith (.Subscript o b tp) (some (.Name y py)) pos.line X.env = pure false := by rfl) (hf : X.fn y = true ∨ X.env.scope.names.lookup y = some .local := by first | exact .inl rfl | exact .inr rfl | assumption) :
    DSs kp X (.Assign [.Name y py] (.Subscript o b tp) pos :: rest) (sLend i j wi wr) := by
  refine ⟨PSsimp (pss_cons (ps_set hN hy hl (pe_ix ix_list ho hi.pe hs) hsw hf) hr.ps) ?_⟩
  rintro D σ H ⟨F, B, env, As, RD, s, ⟨⟨d0, hd0⟩, hjl, hw⟩, k1, k2, k3, k4⟩
  obtain ⟨v0, A0, g1, _, _⟩ := s.env.get hd0
  refine ⟨v0, g1, F, B, env, As, _, s, hw, fun kv H2 F2 As2 a kd env2 po2 t2 h2 => ?_⟩
  obtain ⟨kk, rfl, h2⟩ := asI_inv h2
  obtain ⟨rfl, _⟩ := t2.rep.sc_inv
  obtain ⟨xs, e1, n, x, hn, hx, h2⟩ := ownL_inv h2
  obtain ⟨q, vs, w, As3, q1, hq, hw', hl', so3⟩ := po2.so.part (j := j) e1 hx
  rw [g1] at q1; cases q1
  refine ⟨q, vs, kk, w, rfl, rfl, .of hq, by unfold L2.atI; rw [← hl', hn]; exact hw', ?_⟩
  have hjl : j < σ.length := by rw [← s.env.len.1]; exact hjl
  have po3 : PostS X.K kp F H B σ F2 H2 ((env2.set i (some (.obj true .lst (xs.set n (.sc w))))).set j (some x)) (σ.set j (some w)) As3 :=
    ⟨po2.ext, so3, po2.keep, fun m hm => List.getElem?_set_ne (fun z : j = m => hk (z ▸ hm)), List.length_set ..⟩
  have back : ∀ {σ' H' F' As' e2}, PostS X.K (j :: kp) F2 H2 B (σ.set j (some w)) F' H' e2 σ' As' → PostS X.K kp F2 H2 B (σ.set j (some w)) F' H' e2 σ' As' ∧ σ'[j]? = some (some w) := fun {σ' H' F' As' e2} po => by
    refine ⟨⟨po.ext, po.so, po.keep, fun m hm => po.kp m (List.mem_cons_of_mem _ hm), po.len⟩, ?_⟩
    rw [po.kp j (List.mem_cons_self ..), List.getElem?_set_self hjl]
  refine ⟨F2, B, _, As3, _, so3, h2 w, ?_, ?_, ?_, ?_⟩
  · intro σ' H' F' As' e2 po h
    obtain ⟨po', hσ⟩ := back po
    obtain ⟨ys, f1, f2, t, f3, h⟩ := ownL_inv h
    obtain ⟨As4, so4⟩ := po'.so.rejoin hij f1 f2 f3 hσ
    exact k1 σ' H' F' As4 _ (po3.trans ⟨po'.ext, so4, po'.keep, po'.kp, po'.len⟩) h
  · intro σ' H' F' As' e2 po h
    obtain ⟨po', hσ⟩ := back po
    obtain ⟨ys, f1, f2, t, f3, h⟩ := ownL_inv h
    obtain ⟨As4, so4⟩ := po'.so.rejoin hij f1 f2 f3 hσ
    exact k2 σ' H' F' As4 _ (po3.trans ⟨po'.ext, so4, po'.keep, po'.kp, po'.len⟩) h
  · intro σ' H' F' As' e2 po h
    obtain ⟨po', hσ⟩ := back po
    obtain ⟨ys, f1, f2, t, f3, h⟩ := ownL_inv h
    obtain ⟨As4, so4⟩ := po'.so.rejoin hij f1 f2 f3 hσ
    exact k3 σ' H' F' As4 _ (po3.trans ⟨po'.ext, so4, po'.keep, po'.kp, po'.len⟩) h
  · intro r σ' H' F' As' ar dr e2 po tr h
    obtain ⟨po', hσ⟩ := back po
    obtain ⟨ys, f1, f2, t, f3, h⟩ := ownL_inv h
    obtain ⟨As4, so4, t4⟩ := po'.so.rejoinT tr hij f1 f2 f3 hσ
    exact k4 r σ' H' F' As4 ar dr _ (po3.trans ⟨po'.ext, so4, po'.keep, po'.kp, po'.len⟩) t4 h
end
end PL

/-! PLs: a, b = a list; x or y, x and y by truth; in, by data. -/
namespace PL
open PySem L2
section
variable {X : Cx} {p : Bool} {kp : List Nat} {a b e : Expr} {rest : List Expr} {es : List Expr} {wa wr : WE} {gs : WGs} {pos : Pos}
/-- a, b, .. = a list -/
def gLs (n : Nat) (gs : WGs) : WG
  | .obj o sh ds, env, R => isSeq sh = true ∧ ds.length = n ∧ gs ds env R
  | _, _, _ => False
theorem dg_lst {k n : Nat} (hc : X.calm = true) (h : DGs kp X es gs) (hn : (assignEach es X.env).length = n := by rfl) (hst : (assignEach es X.env).findIdx? (·.1) = none := by rfl) : DG kp X (.Tuple es k pos) (gLs n gs) := by
  refine ⟨PGimp (pg_lst hc h.pg hn hst) ?_⟩
  rintro v σ H Q ⟨F, B, env, As, d, a, R, s, t, hw, k⟩
  unfold gLs at hw
  split at hw
  · rename_i o sh ds
    obtain ⟨hs, hl, hw⟩ := hw
    cases o with
    | false =>
      obtain ⟨q, vs, rfl, e1, r1⟩ := Rep.frz_seq (o := false) hs t.rep
      have ha := t.rep
      refine ⟨q, vs, rfl, s.same.seq e1, by rw [← r1.length]; exact hl, F, B, env, As, ds, [], R, s, ⟨r1, by simpa using s.nd, (fun _ z => nomatch z), (fun _ z => nomatch z)⟩, hw, k⟩
    | true =>
      have nd := t.nd
      have fr := t.fr
      have nb := t.nb
      cases t.rep with
      | @own _ q vs _ A h r =>
        cases sh with
        | lst =>
          refine ⟨q, vs, rfl, .of h, by rw [← r.length]; exact hl, F, B, env, As, ds, A, R, s, ⟨r, ?_, fun x hx => fr x (List.mem_cons_of_mem _ hx), fun x hx => nb x (List.mem_cons_of_mem _ hx)⟩, hw, k⟩
          rw [List.cons_append] at nd
          exact (List.nodup_cons.mp nd).2
        | sq => exact h.elim
        | dK _ => cases hs
        | dT _ => cases hs
        | ins _ _ => cases hs
        | exc _ => cases hs
  · exact hw.elim
/-- x or y, by truth -/
def wOrT (wa wb : WE) : WE := fun env R => wa env fun d e1 => truD d fun c => if c = true then R d e1 else wb e1 R
def wAndT (wa wb : WE) : WE := fun env R => wa env fun d e1 => truD d fun c => if c = true then wb e1 R else R d e1
theorem de_orT (ha : DE p X a wa) (hb : DE p X (.BoolOp .Or (b :: rest) pos) wr) : DE p X (.BoolOp .Or (a :: b :: rest) pos) (wOrT wa wr) := by
  refine ⟨PEimp (pe_orT ha.pe hb.pe) ?_⟩
  rintro σ H Q ⟨F, B, env, As, R, s, hw, k⟩
  refine ⟨F, B, env, As, _, s, hw, fun v H1 F1 As1 a x e1 po1 t1 h1 => ?_⟩
  obtain ⟨c, hc, h2⟩ := t1.rep.tru po1.so.same h1
  refine ⟨c, hc, ?_⟩
  cases c with
  | false => exact ⟨F1, B, e1, As1, R, po1.so, h2, fun v H2 F2 As2 a d e2 po2 t2 h2 => k v H2 F2 As2 a d e2 (po1.trans po2) t2 h2⟩
  | true => exact k _ H1 F1 As1 a _ e1 po1 t1 h2
theorem de_andT (ha : DE p X a wa) (hb : DE p X (.BoolOp .And (b :: rest) pos) wr) : DE p X (.BoolOp .And (a :: b :: rest) pos) (wAndT wa wr) := by
  refine ⟨PEimp (pe_andT ha.pe hb.pe) ?_⟩
  rintro σ H Q ⟨F, B, env, As, R, s, hw, k⟩
  refine ⟨F, B, env, As, _, s, hw, fun v H1 F1 As1 a x e1 po1 t1 h1 => ?_⟩
  obtain ⟨c, hc, h2⟩ := t1.rep.tru po1.so.same h1
  refine ⟨c, hc, ?_⟩
  cases c with
  | true => exact ⟨F1, B, e1, As1, R, po1.so, h2, fun v H2 F2 As2 a d e2 po2 t2 h2 => k v H2 F2 As2 a d e2 (po1.trans po2) t2 h2⟩
  | false => exact k _ H1 F1 As1 a _ e1 po1 t1 h2
end
/-- in, by data -/
def rdInD (neg : Bool) : RD2
  | x, .obj o .lst ys, R => x.shp = true ∧ (D.obj o .lst ys).shp = true ∧ R (.bl (if neg then !ys.any fun z => deq z x else ys.any fun z => deq z x))
  | _, _, _ => False
theorem any_py (x : D) (ys : List D) : ((D.pyL ys).any fun z => PyData.eqv z x.py) = ys.any fun z => deq z x := by
  rw [D.pyL_map, List.any_map]; rfl
theorem sInD {K : PySem.W.Frag} : Snd2 K (rInD K) (rdInD false) := by
  intro F H B env σ As x y v u a b R Q s r1 r2 h k
  unfold rdInD at h
  split at h
  · obtain ⟨h1, h2, h⟩ := h
    refine ⟨_, _, r1.dp s.same h1, r2.dp s.same h2, h1, h2, out_sc s ?_ k⟩
    rw [any_py]; exact h
  · exact h.elim
theorem sNotInD {K : PySem.W.Frag} : Snd2 K (rNotInD K) (rdInD true) := by
  intro F H B env σ As x y v u a b R Q s r1 r2 h k
  unfold rdInD at h
  split at h
  · obtain ⟨h1, h2, h⟩ := h
    refine ⟨_, _, r1.dp s.same h1, r2.dp s.same h2, h1, h2, out_sc s ?_ k⟩
    rw [any_py]; exact h
  · exact h.elim
/-! a list display whose items are moved out of their names once all are there -/
theorem envR_repL {K : PySem.W.Frag} {F H : Hp} : ∀ {ds : List D} {vs : List V} {AA : List (List Addr)}, EnvR K F H (ds.map some) (vs.map some) AA → RepL K F H ds vs AA.flatten
  | [], vs, AA, h => by
    generalize hx : List.map some ([] : List D) = xs at h
    generalize hy : vs.map some = ys at h
    cases h with
    | nil => cases vs with
      | nil => exact .nil
      | cons _ _ => cases hy
    | emp _ => cases hx
    | val _ _ => cases hx
  | d :: ds, vs, AA, h => by
    generalize hx : (d :: ds).map some = xs at h
    generalize hy : vs.map some = ys at h
    cases h with
    | nil => cases hx
    | emp _ => cases hx
    | val r rr =>
      cases vs with
      | nil => cases hy
      | cons v vs =>
        rw [List.map_cons, List.cons.injEq] at hx hy
        obtain ⟨e1, rfl⟩ := hx
        obtain ⟨e2, rfl⟩ := hy
        cases e1; cases e2
        exact .cons r (envR_repL rr)
def wLstC (wc : WC) : WE := fun env R => wc env fun is e1 => is.length ≤ sizeLine ∧ match takeA e1 is with
  | some (ds, e2) => R (.lst true ds) e2
  | none => False
theorem de_lstC {X : Cx} {es : List Expr} {wc : WC} {pos : Pos} (h : DC X es wc) : DE false X (.List es pos) (wLstC wc) := by
  refine ⟨PEimp (pe_lst h.pa) ?_⟩
  rintro σ H Q ⟨F, B, env, As, R, s, hw, k⟩
  refine ⟨F, B, env, As, _, s, hw, fun vs H1 F1 As1 a is e1 po1 t1 ⟨hl, h1⟩ => ⟨by rw [← t1.rep.length]; exact hl, fun q hq => ?_⟩⟩
  split at h1
  · rename_i ds e2 ht
    obtain ⟨As2, AA, s2, er, nd, fr, sub, _, _, _, _⟩ := take_ok po1.so t1 ht
    have r := envR_repL er
    have nq := not_mem_of_none hq r.there
    have po2 := s2.newO (o := .lst vs) hq
    refine k _ _ F1 As2 (q :: AA.flatten) _ e2 ⟨po1.ext, po2.so, fun b hb => (po2.keep b hb).trans (po1.keep b hb), fun z => Bool.noConfusion z⟩ ⟨.own (show CellO (upd H1 q (.lst vs)) .lst q vs from upd_same) (r.frame (Same.refl _) fun x hx => upd_ne fun z => nq (z ▸ hx)), ?_, fun x hx => ?_, fun x hx => ?_⟩ h1
    · refine List.nodup_cons.mpr ⟨fun z => ?_, nd⟩
      rcases List.mem_append.mp z with z | z
      · exact nq z
      · exact s2.notAs hq z
    · rcases List.mem_cons.mp hx with rfl | hx
      · exact s2.freeF hq
      · exact (fr x hx).1
    · rcases List.mem_cons.mp hx with rfl | hx
      · exact s2.notB hq
      · exact (fr x hx).2
  · exact h1.elim
theorem units65 {k : Nat} {A : Around} (r : Room k A) : A.units + 65 < cLine := by have := r.un; omega
/-- a test, where all own values are looked at as frozen -/
def wViewT (w : WT) : WT := fun env R => w (seeE env) fun b _ => R b env
theorem dt_view {X : Cx} {p q : Bool} {e : Expr} {w : WT} (h : DT q X e w) : DT p X e (wViewT w) := by
  refine ⟨PTimp h.pt ?_⟩
  rintro σ H Q ⟨F, B, env, As, R, s, hw, k⟩
  have ef := fzAt_same (H := H) s.fr
  have there : ∀ x ∈ As.flatten, ∃ o, H x = some o := s.env.there
  have s2 : SO X.K (fzAt F H As.flatten) H B (seeE env) σ (As.map fun _ => []) := ⟨fzAt_sub s.same, s.env.see ef fun a ha => fzAt_in ha, by rw [empties]; exact List.nodup_nil, (by rw [empties]; exact fun _ z => nomatch z), fun b hb => by
    obtain ⟨g1, g2, g3⟩ := s.out b hb
    exact ⟨by rw [fzAt_out g3]; exact g1, g2, (by rw [empties]; exact fun z => nomatch z)⟩⟩
  refine ⟨_, B, _, _, _, s2, hw, fun c H' F' As' env' po2 hR => ?_⟩
  have F2H : Same (fzAt F H As.flatten) H' := po2.ext.trans po2.so.same
  have keepA : ∀ x ∈ As.flatten, H' x = H x := by
    intro x hx
    obtain ⟨o, ho⟩ := there x hx
    rw [ho]; exact F2H x o (by rw [fzAt_in hx]; exact ho)
  have so' : SO X.K F H' B env σ As := ⟨ef.trans F2H, s.env.frame (Same.refl _) keepA, s.nd, s.fr, fun b hb => by
    obtain ⟨g1, g2, g3⟩ := s.out b hb
    exact ⟨g1, g2.of_eq (po2.keep b hb), g3⟩⟩
  exact k c H' F As env ⟨Same.refl _, so', po2.keep, fun _ => ⟨rfl, rfl, keepA⟩⟩ hR
end PL

/-! PLt: sum of a tuple of ints; str of a list or a tuple. -/
namespace PL
open PySem L2
section
variable {X : Cx}
def rSumT (K : PySem.W.Frag) : List V → Hp → VK → Prop := fun vs H Q => ∃ (a : Addr) (ns : List Int), vs = [V.ref a] ∧ SqT K H a (ns.map V.int) ∧ Q (.int ns.sum) H
open PyProof.Rows in
theorem cr_sumT (hc : X.calm = true) : CallR X (.builtin "sum") (rSumT X.K) := by
  intro pins s σ H vs us Q I r h
  obtain ⟨a, ns, rfl, hs, q⟩ := h
  obtain ⟨its, rv, ht, _⟩ := I.tuple hs
  rw [Vals.ref1 r]
  have hi := rv.ints
  obtain ⟨xs, e⟩ := hi.allInts.items
  have hn : numsOf (intItems xs).toList = ns := by rw [← e]; exact hi.numsOf
  rw [nums_intItems] at hn
  rw [e] at ht
  refine PySem.W.ktm_sumG (I.ok.hd hc) ht fun h' tk t' hk => ?_
  rw [preSum_eq, List.take_of_length_le (by simp), hn]
  exact ⟨.int _, H, I.kept hk, ⟨_, rfl⟩, q⟩
def rdSumT : RDA
  | [.tup xs], R => ∃ ns : List Int, xs = ns.map (fun n => D.sc (V.int n)) ∧ R (.int ns.sum)
  | _, _ => False
theorem sSumT {K : PySem.W.Frag} : SndA K (rSumT K) rdSumT := by
  intro F H B env σ As ds vs a R Q s r h k
  unfold rdSumT at h
  split at h
  · obtain ⟨ns, rfl, h⟩ := h
    obtain ⟨v, rfl, a', r⟩ := r.one_inv'
    obtain ⟨p, us, rfl, e1, r1⟩ := r.tup_inv s.same
    rw [map_sc] at r1
    obtain ⟨rfl, _⟩ := r1.sc_inv
    exact ⟨p, ns, rfl, e1, out_sc s h k⟩
  · exact h.elim
/-- str of a list or a tuple of data -/
def rStrD (K : PySem.W.Frag) : List V → Hp → VK → Prop := fun xs H Q => ∃ p d, xs = [.ref p] ∧ Dp K H (.ref p) d ∧ d.showable = true ∧ d.canLay0 = true ∧ d.depth ≤ 61 ∧ d.shown.length ≤ sizeLine ∧ Q (.str d.shown) H
open PySem.Spec PyProof.Rows in
theorem call_strD (hgd : X.A.guards = some []) (hu : X.A.units + 64 < cLine) : CallR X (.type "str") (rStrD X.K) := by
  rintro pins s σ H xs us Q I r ⟨p, d, rfl, dp, h1, h2, h3, h4, q⟩
  obtain ⟨u, rfl, ru⟩ := r.one
  obtain rfl : u = Value.ref p := ru
  obtain ⟨as, rd⟩ := Dp.reads I d _ _ dp rfl
  exact str_of_reads rd h1 (fun z => by rw [noDict h2] at z; cases z) hgd (by omega) (fun _ _ e => e) (fun h' u tk hk => ⟨.str d.shown, H, I.kept hk, ⟨_, rfl⟩, q⟩) h4
def rdStrD : RDA
  | [x], R => isBox x = true ∧ x.py.showable = true ∧ x.py.canLay0 = true ∧ x.py.depth ≤ 61 ∧ x.py.shown.length ≤ sizeLine ∧ R (.str x.py.shown)
  | _, _ => False
theorem sStrD {K : PySem.W.Frag} : SndA K (rStrD K) rdStrD := by
  intro F H B env σ As ds vs a R Q s r h k
  unfold rdStrD at h
  split at h
  · obtain ⟨h0, h1, h2, h3, h4, h⟩ := h
    obtain ⟨v, rfl, a', r⟩ := r.one_inv'
    have dp := (Rep.dps s.same).1 r h2
    obtain ⟨p, rfl⟩ : ∃ p, v = .ref p := by
      cases r with
      | sc => simp [isBox] at h0
      | tup _ _ => exact ⟨_, rfl⟩
      | own _ _ => exact ⟨_, rfl⟩
      | frz _ _ => exact ⟨_, rfl⟩
    exact ⟨p, _, rfl, dp, h1, h2, h3, h4, out_sc s h k⟩
  · exact h.elim
end
end PL

/-! PLu: a call that is lent items of own lists: f(name, other[0], other[1], ..). -/
namespace PL
open PySem L2
/-- an argument: what an own name holds, an item of an own list that is lent, an item that is read -/
inductive AI where
  | own (i : Nat) | itm (i k : Nat) | rd (i k : Nat)
/-- the call, with slots laid on for the items lent -/
def wItems (f : WF) : List AI → List AV → En → (D → En → Prop) → Prop
  | [], is, env, R => match takeA env is with
    | some (ds, e2) => f ds fun r ds' => R r (putA e2 is ds')
    | none => False
  | .own i :: l, is, env, R => (∃ d, env[i]? = some (some d)) ∧ wItems f l (is ++ [.ref i]) env R
  | .rd i k :: l, is, env, R => ownL (env[i]?) fun xs => ∃ x, xs[k]? = some x ∧ x.fz = true ∧ wItems f l (is ++ [.val x]) env R
  | .itm i k :: l, is, env, R => ownL (env[i]?) fun xs => ∃ x, xs[k]? = some x ∧ ∀ w : V, wItems f l (is ++ [.ref env.length]) (((env ++ [none]).set i (some (.obj true .lst (xs.set k (.sc w))))).set env.length (some x))
      fun r e2 => e2.length = env.length + 1 ∧ ownL (e2[i]?) fun ys => ys[k]? = some (.sc w) ∧ ∃ t, e2[env.length]? = some (some t) ∧ R r ((((e2.set env.length none).set i (some (.obj true .lst (ys.set k t))))).take env.length)
section
variable {K : PySem.W.Frag} {F F' H H' : Hp} {B : Addr → Prop} {env : En} {σ : St} {As : List (List Addr)}
/-- what the arguments come to -/
inductive AR (H : Hp) (σ : St) : List AI → List V → Prop
  | nil : AR H σ [] []
  | own {i v l vs} : σ[i]? = some (some v) → AR H σ l vs → AR H σ (.own i :: l) (v :: vs)
  | itm {i k q us v l vs} : σ[i]? = some (some (.ref q)) → H q = some (.lst us) → us[k]? = some v → AR H σ l vs → AR H σ (.itm i k :: l) (v :: vs)
  | rd {i k q us v l vs} : σ[i]? = some (some (.ref q)) → H q = some (.lst us) → us[k]? = some v → AR H σ l vs → AR H σ (.rd i k :: l) (v :: vs)
theorem AR.more {l vs} (h : AR H σ l vs) (o : Option V) : AR H (σ ++ [o]) l vs := by
  have e : ∀ {i : Nat} {v : V}, σ[i]? = some (some v) → (σ ++ [o])[i]? = some (some v) := fun {i v} z => by
    rw [List.getElem?_append_left (List.getElem?_eq_some_iff.mp z).1]; exact z
  induction h with
  | nil => exact .nil
  | own a _ ih => exact .own (e a) ih
  | itm a b c _ ih => exact .itm (e a) b c ih
  | rd a b c _ ih => exact .rd (e a) b c ih
theorem IR.more {is vs a} (h : IR K F H σ is vs a) (o : Option V) : IR K F H (σ ++ [o]) is vs a := by
  induction h with
  | nil => exact .nil
  | val x _ ih => exact .val x ih
  | ref a _ ih => exact .ref (by rw [List.getElem?_append_left (List.getElem?_eq_some_iff.mp a).1]; exact a) ih
theorem EnvR.more {es : En} (r : EnvR K F H es σ As) (o : Option V) : EnvR K F H (es ++ [none]) (σ ++ [o]) (As ++ [[]]) := by
  induction r with
  | nil => exact .emp .nil
  | emp r ih => exact .emp ih
  | val x r ih => exact .val x ih
theorem EnvR.less {es : En} {o : Option V} : ∀ {σ : St} {As : List (List Addr)} {n : Nat}, EnvR K F H es (σ ++ [o]) As → n = σ.length → es[n]? = some none → EnvR K F H (es.take n) σ (As.take n) ∧ (As.take n).flatten = As.flatten := by
  intro σ
  induction σ generalizing es with
  | nil =>
    intro As n r hn e
    subst hn
    cases r with
    | emp r => cases r with | nil => exact ⟨.nil, rfl⟩
    | val x r => simp at e
  | cons s σ ih =>
    intro As n r hn e
    subst hn
    rw [List.cons_append] at r
    cases r with
    | emp r =>
      obtain ⟨r1, r2⟩ := ih r rfl (by simpa using e)
      exact ⟨.emp r1, by simpa using r2⟩
    | val x r =>
      obtain ⟨r1, r2⟩ := ih r rfl (by simpa using e)
      exact ⟨.val x r1, by simpa using r2⟩
theorem SO.more (s : SO K F H B env σ As) (o : Option V) : SO K F H B (env ++ [none]) (σ ++ [o]) (As ++ [[]]) := by
  have e : (As ++ [[]]).flatten = As.flatten := by simp
  exact ⟨s.same, s.env.more o, by rw [e]; exact s.nd, by rw [e]; exact s.fr, by rw [e]; exact s.out⟩
theorem SO.less {o : Option V} {n : Nat} (s : SO K F H B env (σ ++ [o]) As) (hn : n = σ.length) (e : env[n]? = some none) : SO K F H B (env.take n) σ (As.take n) ∧ (As.take n).flatten = As.flatten := by
  obtain ⟨r, f⟩ := s.env.less hn e
  exact ⟨⟨s.same, r, by rw [f]; exact s.nd, by rw [f]; exact s.fr, by rw [f]; exact s.out⟩, f⟩
theorem items_ok {f : WF} {E : XK} : ∀ (l : List AI) (is : List AV) (vs1 vs2 : List V) (env : En) (σ : St) (As : List (List Addr)) (R : D → En → Prop) (Q : VK), SO K F H B env σ As → IR K F H σ is vs1 [] → AR H σ l vs2 → wItems f l is env R →
    (∀ v H' F' As' c r env', PostE K false F H B env σ As F' H' env' As' → TO K F' H' B As' r v c → R r env' → Q v H') → spD K f (vs1 ++ vs2) H Q E := by
  intro l
  induction l with
  | nil =>
    intro is vs1 vs2 env σ As R Q s ir ar hw k
    cases ar
    rw [List.append_nil]
    exact call_at s ⟨ir, by simpa using s.nd, (fun _ z => nomatch z), (fun _ z => nomatch z)⟩ hw k
  | cons x l ih =>
    intro is vs1 vs2 env σ As R Q s ir ar hw k
    cases ar with
    | @own i v _ vs hv ar =>
      rw [show vs1 ++ v :: vs = vs1 ++ [v] ++ vs by simp]
      exact ih _ _ _ env σ As R Q s (ir.app (.ref hv .nil)) ar hw.2 k
    | @rd i kk q us v _ vs hq hu hv ar =>
      obtain ⟨xs, e1, x, hx, fx, hw⟩ := ownL_inv hw
      rw [show vs1 ++ v :: vs = vs1 ++ [v] ++ vs by simp]
      obtain ⟨v0, a0, g1, g2, g3⟩ := s.env.get e1
      rw [hq] at g1; cases g1
      obtain ⟨q', us', w, A', e, hq', hw', hl, A1, A2, rfl, r, up⟩ := (Foc.root g3).item hx
      cases e
      rw [hu] at hq'; cases hq'
      rw [hv] at hw'; cases hw'
      have := r.fzNil fx
      subst this
      exact ih _ _ _ env σ As R Q s (ir.app (by simpa using IR.val r .nil)) ar hw k
    | @itm i kk q us v _ vs hq hu hv ar =>
      obtain ⟨xs, e1, x, hx, hw⟩ := ownL_inv hw
      rw [show vs1 ++ v :: vs = vs1 ++ [v] ++ vs by simp]
      have hi : i < env.length := (List.getElem?_eq_some_iff.mp e1).1
      have hl : env.length = σ.length := s.env.len.1
      have s1 := s.more none
      have e1' : (env ++ [none])[i]? = some (some (.obj true .lst xs)) := by rw [List.getElem?_append_left hi]; exact e1
      obtain ⟨q', us', w, As1, g1, hq', hw', _, s2⟩ := s1.part (j := env.length) e1' hx
      rw [List.getElem?_append_left (by omega), hq] at g1; cases g1
      rw [hu] at hq'; cases hq'
      rw [hv] at hw'; cases hw'
      have es : (σ ++ [none]).set env.length (some v) = σ ++ [some v] := by rw [hl]; simp
      rw [es] at s2
      refine ih _ _ _ _ _ As1 _ Q s2 ((ir.more (some v)).app (.ref (by rw [hl]; simp) .nil)) (ar.more (some v)) (hw v) ?_
      intro u H' F' As' c r env' po t h
      obtain ⟨hlen, h⟩ := h
      obtain ⟨ys, f1, f2, t2, f3, h⟩ := ownL_inv h
      obtain ⟨As4, s4, t4⟩ := po.so.rejoinT t (by omega) f1 f2 f3 (by rw [hl]; simp)
      obtain ⟨s5, fl⟩ := s4.less (n := env.length) hl (by
        rw [List.getElem?_set_ne (by omega), List.getElem?_set_self (by omega)])
      refine k u H' F' _ c r _ ⟨po.ext, s5, po.keep, fun z => Bool.noConfusion z⟩ ⟨t4.rep, by rw [fl]; exact t4.nd, t4.fr, t4.nb⟩ h
end
end PL
namespace PL
open PySem L2
/-- the arguments, read where they stand: nothing is changed by that -/
structure DIT (X : Cx) (es : List Expr) (l : List AI) : Prop where
  pa : PA X es fun σ H Q => ∃ vs, AR H σ l vs ∧ Q vs H
section
variable {X : Cx} {e o : Expr} {es : List Expr} {l : List AI} {i : Nat} {pos tp cp : Pos}
theorem di_nil : DIT X [] [] := ⟨PAimp pa_nil fun σ H Q ⟨vs, a, q⟩ => by cases a; exact q⟩
theorem di_own (h : PE X e (tVar i)) (hs : DIT X es l) (st : starEach (e :: es) X.env = (false, eval e X.env) :: starEach es X.env := by rfl) : DIT X (e :: es) (.own i :: l) := by
  refine ⟨PAimp (pa_cons h hs.pa st) ?_⟩
  rintro σ H Q ⟨vs, a, q⟩
  cases a with
  | own hv a => exact ⟨_, hv, _, a, q⟩
theorem ix_at {k : Nat} {us : List V} {v : V} (h : us[k]? = some v) : L2.atI us (k : Int) = some v := by
  have := (List.getElem?_eq_some_iff.mp h).1
  unfold L2.atI L2.ixN
  rw [if_pos (by omega), if_pos (by omega)]
  simpa using h
theorem di_itm {k : Nat} {j} (h : PE X o (tVar i)) (hp : PlainIx (.Constant (.int (k : Int)) j cp)) (hs : DIT X es l) (st : starEach (.Subscript o (.Constant (.int (k : Int)) j cp) tp :: es) X.env = (false, eval (.Subscript o (.Constant (.int (k : Int)) j cp) tp) X.env) :: starEach es X.env := by rfl) : DIT X (.Subscript o (.Constant (.int (k : Int)) j cp) tp :: es) (.itm i k :: l) := by
  refine ⟨PAimp (pa_cons (pe_ix ix_list h pe_int hp) hs.pa st) ?_⟩
  rintro σ H Q ⟨vs, a, q⟩
  cases a with
  | itm hq hu hv a => exact ⟨_, hq, _, _, _, _, rfl, rfl, .of hu, ix_at hv, _, a, q⟩
theorem di_rd {k : Nat} {j} (h : PE X o (tVar i)) (hp : PlainIx (.Constant (.int (k : Int)) j cp)) (hs : DIT X es l) (st : starEach (.Subscript o (.Constant (.int (k : Int)) j cp) tp :: es) X.env = (false, eval (.Subscript o (.Constant (.int (k : Int)) j cp) tp) X.env) :: starEach es X.env := by rfl) : DIT X (.Subscript o (.Constant (.int (k : Int)) j cp) tp :: es) (.rd i k :: l) := by
  refine ⟨PAimp (pa_cons (pe_ix ix_list h pe_int hp) hs.pa st) ?_⟩
  rintro σ H Q ⟨vs, a, q⟩
  cases a with
  | rd hq hu hv a => exact ⟨_, hq, _, _, _, _, rfl, rfl, .of hu, ix_at hv, _, a, q⟩
end
/-- what the items' values are, is not known ahead; that they are there, is -/
def hasI (env : En) : List AI → Prop
  | [] => True
  | .own i :: l => (∃ d, env[i]? = some (some d)) ∧ hasI env l
  | .itm i k :: l => (ownL (env[i]?) fun xs => k < xs.length) ∧ hasI env l
  | .rd i k :: l => (ownL (env[i]?) fun xs => k < xs.length) ∧ hasI env l
theorem hasI.ar {K : PySem.W.Frag} {F H : Hp} {B : Addr → Prop} {env : En} {σ : St} {As : List (List Addr)} (s : SO K F H B env σ As) : ∀ {l : List AI}, hasI env l → ∃ vs, AR H σ l vs := by
  intro l
  have get : ∀ {i k : Nat}, (ownL (env[i]?) fun xs => k < xs.length) → ∃ q us v, σ[i]? = some (some (.ref q)) ∧ H q = some (.lst us) ∧ us[k]? = some v := by
    intro i k h
    obtain ⟨xs, e, hk⟩ := ownL_inv h
    obtain ⟨v0, a0, g1, g2, g3⟩ := s.env.get e
    obtain ⟨q, us, w, A', rfl, hq, hw, _⟩ := (Foc.root g3).item (List.getElem?_eq_getElem hk)
    exact ⟨q, us, w, g1, hq, hw⟩
  induction l with
  | nil => exact fun _ => ⟨[], .nil⟩
  | cons x l ih =>
    intro h
    cases x with
    | own i =>
      obtain ⟨⟨d, hd⟩, h⟩ := h
      obtain ⟨vs, a⟩ := ih h
      obtain ⟨v, _, g1, _⟩ := s.env.get hd
      exact ⟨_, .own g1 a⟩
    | itm i k =>
      obtain ⟨vs, a⟩ := ih h.2
      obtain ⟨q, us, v, g1, g2, g3⟩ := get h.1
      exact ⟨_, .itm g1 g2 g3 a⟩
    | rd i k =>
      obtain ⟨vs, a⟩ := ih h.2
      obtain ⟨q, us, v, g1, g2, g3⟩ := get h.1
      exact ⟨_, .rd g1 g2 g3 a⟩
def wCallI (f : WF) (l : List AI) : WE := fun env R => hasI env l ∧ wItems f l [] env R
section
variable {X : Cx} {e : Expr} {es : List Expr} {l : List AI} {f : WF}
theorem de_calI {k j : Nat} {x : Str} {st : Stmt} {ps : List Str} {q pos : Pos} (C : Cal X.prog X.w X.K X.mg X.base k x st ps f) (hr : Room j X.A) (hj : k ≤ j) (hgd : X.A.guards = some []) (hg : Gl X x) (ha : DIT X (e :: es) l)
    (hdb : (x == ("__debug__" : Str)) = false := by decide) (he : starEach (e :: es) X.env = (false, eval e X.env) :: starEach es X.env := by rfl) (hpl : (backTo pos (starEach es X.env)).any (·.1) = false := by rfl) :
    DE false X (.Call (.Name x q) (e :: es) [] pos) (wCallI f l) := by
  obtain ⟨f, fd, G, hm, hk, hb, _⟩ := C.ex
  refine ⟨PEimp (peg_call G (hr.mono hj) hgd hg hm hk hb .nil pass0 ha.pa hdb he hpl) ?_⟩
  rintro σ H Q ⟨F, B, env, As, R, s, ⟨hh, hw⟩, k⟩
  obtain ⟨vs, a⟩ := hh.ar s
  refine ⟨vs, a, ?_⟩
  show spD X.K _ (vs ++ []) H Q E0
  rw [List.append_nil]
  exact items_ok l [] [] vs env σ As R Q s .nil a hw fun v H' F' As' c r env' po t h => k v H' F' As' c r env' po t h
end
end PL

set_option maxHeartbeats 4000000
/-! PLv: sorted(set(ns)) of a list of ints. -/
namespace PL
open PySem PySem.Spec PyProof.Rows L2
section
variable {P : Program} {w : World} {A : Around} {E : Value → Shared → Prop} {s : Shared}
/-- the set of nothing, as set() makes it -/
abbrev bare (w : World) : Obj := { cls := .type "set", dict := none, data := .set #[] 0 (.fresh 0 0 (!w.params.followText "set-order")) }
/-- what is left behind: a set of these -/
def Filled (w : World) (s : Shared) (S : Addr) (ns : List Int) (old : Addr) (r : Value) (t : Shared) : Prop :=
  r = .none ∧ ∃ h tk c, t = { s with heap := h, toks := tk } ∧ SetR w h S (fun j => decide (j ∈ ns)) c ∧ c ≤ ns.length ∧ ∀ b o, b < old → s.heap.get? b = some o → h.get? b = some o
theorem init_ints {S l : Addr} {its : Array Value} {ns : List Int} (hh : A.handled = none) (hS : s.heap.get? S = some (bare w)) (hl : s.heap.IsList l its) (hlS : l < S) (hi : IntsAre its.toList ns) (hb : ns.length + 1 < scanBound) :
    codeAny (model P w) A (.builtin "set.__init__" ⟨[.ref S, .ref l], []⟩) (wants (Filled w s S ns S) E) s := by
  have sz : its.size = ns.length := by rw [← IntsAre.length hi, Array.length_toList]
  refine codeAny_builtin F.entry_set_init ?_
  rw [Around.under_plainId F.called_set.init.plain _]
  obtain ⟨⟨c0, d0, x0, o0⟩, g0, g1, n0, g2⟩ := hl
  simp only at g1 g2
  subst g1; subst g2
  have isL : s.heap.IsList l its := ⟨_, g0, rfl, n0, rfl⟩
  have a1 := F.sub_list_set
  have a2 := F.sub_list_frozenset
  have a3 : (Value.type "list" == Value.type "dict") = false := by decide
  unfold Builtin.«set.__init__» noKeywords Builtin.Frozenset.updateFrom
  generalize hit : pyIter = it
  wp_walk
  subst hit
  refine wpAny_pyIter_list isL (wpAny_bind (wpAny_runValue ?_))
  have far : A.in1.in1.handled = none := by simp [hh]
  have ne1 : l ≠ s.heap.objs.size := Nat.ne_of_lt (Heap.lt_size g0)
  have ne2 : S ∉ [s.heap.objs.size, l] := by
    have q1 := Heap.lt_size hS
    intro z
    rcases List.mem_cons.mp z with z | z
    · exact Nat.ne_of_lt q1 z
    · rcases List.mem_cons.mp z with z | z
      · exact Nat.ne_of_gt hlS z
      · cases z
  refine set_update_ints (Walks.list far _ l ne1 its).toS S ne2 ns sz hb (fun i v hv => ?_) _ 0 _ rfl (Nat.zero_le _) ⟨⟨_, Heap.get?_push_size _ rfl, rfl, rfl⟩, isL.push _⟩ ⟨0, Nat.le_refl 0, setR_new_at (Heap.get?_push_of_some _ hS)⟩ fun t c mv hc hR => ?_
  · obtain ⟨tk, e⟩ := IntsAre.int_at hi i v (by rw [Array.getElem?_toList]; exact hv)
    have hil : i < ns.length := by rw [← sz]; exact (Array.getElem?_eq_some_iff.mp hv).1
    exact ⟨ns[i], tk, List.getElem?_eq_getElem hil, by rw [e, List.getD_eq_getElem?_getD, List.getElem?_eq_getElem hil]; rfl⟩
  · obtain ⟨h, g, d, tk, o⟩ := t
    have m1 := mv.gens
    have m2 := mv.drawn
    have m3 := mv.os
    simp only at m1 m2 m3
    subst m1; subst m2; subst m3
    refine wpAny_pure (wpAny_pure ⟨rfl, h, tk, c, rfl, hR, by rw [← sz]; exact hc, fun b u hbS hu => ?_⟩)
    have q1 := Heap.lt_size hu
    refine mv.heap b u (fun z => ?_) (Heap.get?_push_of_some _ hu)
    rcases List.mem_cons.mp z with z | z
    · exact Nat.ne_of_lt hbS z
    · rcases List.mem_cons.mp z with z | z
      · exact Nat.ne_of_lt q1 z
      · cases z
theorem call_set_ints {l : Addr} {its : Array Value} {ns : List Int} {Q : Value → Shared → Prop} (hh : A.handled = none) (hl : s.heap.IsList l its) (hi : IntsAre its.toList ns) (hb : ns.length + 1 < scanBound)
    (h : ∀ (g : Heap) (tk c : Nat), SetR w g s.heap.objs.size (fun j => decide (j ∈ ns)) c → c ≤ ns.length → (∀ b o, s.heap.get? b = some o → g.get? b = some o) → Q (.ref s.heap.objs.size) { s with heap := g, toks := tk }) :
    wpAny (model P w) A (call (.type "set") [.ref l]) Q E s := by
  obtain ⟨c, tl, hmro⟩ := F.called_set.mro
  have k1 := F.called_set.made
  have k2 := F.called_set.sub
  have k3 := F.called_set.notType
  have k4 := F.called_set.canCreate
  have k5 := F.typeCall_set_1 (.ref l)
  refine wpAny_call (codeAny_of_tree ?_)
  show wpAny _ _ (callAny (.type "set") _) _ _ _
  refine wpAny_pure ⟨Code.quiet_builtin _ (by decide +kernel), codeAny_builtin F.entry_type_call ?_⟩
  rw [Around.under_plain (weight_type_call_type "set" [.ref l] []) rfl]
  repeat (any_goals (first | assumption | wp_step))
  refine codeAny_mono (code_set_led1 (.ref l) (E := E) (Q₁ := fun x t => x = .ref s.heap.objs.size ∧ t = { s with heap := s.heap.push (bare w) }) ⟨rfl, rfl⟩) fun r t hr => ?_
  rcases r with e | f
  · exact hr
  cases f with
  | ret x =>
    obtain ⟨rfl, rfl⟩ := hr
    have b0 : (s.heap.push (bare w)).get? s.heap.objs.size = some (bare w) := Heap.get?_push_size _ rfl
    have ty : Shared.TypeIs { s with heap := s.heap.push (bare w) } (.ref s.heap.objs.size) "set" := ⟨_, b0, rfl⟩
    have k6 := F.called_set.init.lookup
    have k7 := F.called_set.init.bind (.ref s.heap.objs.size)
    repeat (any_goals (first | assumption | wp_step))
    have b1 : (s.heap.push (bare w)).IsList l its := hl.push _
    have b2 : l < s.heap.objs.size := by
      obtain ⟨o, g0, _⟩ := hl
      exact Heap.lt_size g0
    refine codeAny_mono (codeAny_call_builtin_code (plainId_quiet F.called_set.init.plain _) (check_set_init_1 ty (init_ints (E := E) (s := { s with heap := s.heap.push (bare w) }) (by simp [hh]) b0 b1 b2 hi hb))) fun r2 t2 hr2 => ?_
    rcases r2 with e | f2
    · exact hr2
    cases f2 with
    | ret y =>
      obtain ⟨rfl, g, tk, c, rfl, hR, hc, hk⟩ := hr2
      repeat (any_goals (first | assumption | wp_step))
      exact h g tk c hR hc fun b o e => hk b o (Heap.lt_size e) (Heap.get?_push_of_some _ e)
    | _ => exact hr2.elim
  | _ => exact hr.elim
end
/-- set(l), l a list of ints -/
def rSetLI (K : PySem.W.Frag) (w : World) : List V → Hp → VK → Prop := fun xs H Q => ∃ l, ∃ ns : List Int, xs = [.ref l] ∧ SqL K H l (ns.map V.int) ∧ ns.length + 1 < scanBound ∧ ∀ p c, H p = none → c ≤ ns.length → Q (.ref p) (upd H p (SetO w p (fun j => decide (j ∈ ns)) c))
section
variable {X : Cx} {p : Bool} {whole inner e : Expr} {we : WE}
theorem cr_setLI (hc : X.calm = true) : CallR X (.type "set") (rSetLI X.K X.w) := by
  intro pins s σ H xs us Q I r h
  obtain ⟨l, ns, rfl, hl, hb, q⟩ := h
  rw [Vals.ref1 r]
  obtain ⟨its, rv, pl, _⟩ := I.list hl
  refine call_set_ints (I.ok.hd hc) pl.isList (ints_of_vals rv) hb fun g tk c hR hc hk => ?_
  have hn : H s.heap.objs.size = none := I.hok.fresh (Nat.le_refl _)
  exact ⟨.ref _, upd H s.heap.objs.size (SetO X.w s.heap.objs.size (fun j => decide (j ∈ ns)) c), I.call (ch := []) (Un.laid hk (Nat.le_refl _) hn) (I.hok.laid hk (Nat.le_refl _) (setO_new hR)) I.bare (fun _ z => nomatch z), rfl, q _ c hn hc⟩
/-- sorted(set(e)), e a list of ints, fewer than 63 -/
def wSorSet (we : WE) : WE := fun env R => we env fun d e1 => match d with
  | .obj _ .lst xs => ∃ ns : List Int, xs = ns.map (fun n => D.sc (V.int n)) ∧ ns.length < 63 ∧ ∀ ms : List Int, ms.Pairwise (· < ·) → (∀ k, k ∈ ms ↔ k ∈ ns) → R (.lst true (ms.map fun n => D.sc (V.int n))) e1
  | _ => False
theorem de_sorSet (hS : CallS X whole [inner] (rSortedSet X.w)) (hI : CallS X inner [e] (rSetLI X.K X.w)) (h : DE p X e we) (s1 : starEach [e] X.env = (false, eval e X.env) :: starEach [] X.env := by rfl) (s2 : starEach [inner] X.env = (false, eval inner X.env) :: starEach [] X.env := by rfl) :
    DE p X whole (wSorSet we) := by
  refine ⟨PEimp (hS _ (pa_cons (hI _ (pa_cons h.pe pa_nil s1)) pa_nil s2)) ?_⟩
  rintro σ H Q ⟨F, B, env, As, R, s, hw, k⟩
  refine ⟨F, B, env, As, _, s, hw, fun v H1 F1 As1 a d e1 po1 t1 h1 => ?_⟩
  split at h1
  · obtain ⟨ns, rfl, hn, h1⟩ := h1
    obtain ⟨l, us, a', rfl, hq, r1⟩ := t1.rep.seq_inv rfl po1.so.same
    rw [map_sc] at r1
    obtain ⟨rfl, _⟩ := r1.sc_inv
    refine ⟨l, ns, rfl, hq, by unfold scanBound; omega, fun q c hqn hc => ?_⟩
    refine ⟨q, _, c, rfl, upd_same, by omega, fun ms p2 pw mem len hp2 => ?_⟩
    have po2 := po1.so.newO (o := SetO X.w q (fun j => decide (j ∈ ns)) c) hqn
    have hR := h1 ms pw fun k => by rw [mem k]; simp
    exact out_lst po2.so (xs := ms.map fun n => D.sc (V.int n)) (by rw [map_sc]; exact RepL.sc_of _) hR (fun v' H' F' c z po3 t3 hz => k v' H' F' As1 c z e1 (po1.trans ((po2.trans po3).imp fun _ => rfl)) t3 hz) p2 hp2
  · exact h1.elim
end
end PL

/-! PLw: x in t, x not in t, by data, t a tuple. -/
namespace PL
open PySem PySem.Spec PyProof.Rows L2
def rInTD (K : PySem.W.Frag) (neg : Bool) : R2 := fun x y H Q => ∃ d ds, (Dp K H x d ∧ SeqAt.shaped d = true) ∧ (Dp K H y (.tuple ds) ∧ SeqAt.shaped (.tuple ds) = true) ∧ Q (.bl (if neg then !ds.any fun z => PyData.eqv z d else ds.any fun z => PyData.eqv z d)) H
section
variable {X : Cx}
theorem op_inTD (hu : X.A.units + 65 < cLine) : OpR X (compareOp .In) (rInTD X.K false) := by
  intro pins s σ H x y v u Q I rx ry ⟨d, ds, ⟨g1, g2⟩, ⟨g3, g4⟩, q⟩
  obtain ⟨_, a1⟩ := Dp.reads I d x v g1 rx
  obtain ⟨_, a2⟩ := Dp.reads I (.tuple ds) y u g3 ry
  exact SeqAt.in_tuple_reads a2 a1 (SeqAt.canLay_of_shaped g4) (SeqAt.canLay_of_shaped g2) (room_in_shaped g2 hu) ⟨.bl _, H, I, rfl, q⟩
theorem op_notInTD (hu : X.A.units + 65 < cLine) : OpR X (compareOp .NotIn) (rInTD X.K true) := by
  intro pins s σ H x y v u Q I rx ry ⟨d, ds, ⟨g1, g2⟩, ⟨g3, g4⟩, q⟩
  obtain ⟨_, a1⟩ := Dp.reads I d x v g1 rx
  obtain ⟨_, a2⟩ := Dp.reads I (.tuple ds) y u g3 ry
  exact SeqAt.notIn_tuple_reads a2 a1 (SeqAt.canLay_of_shaped g4) (SeqAt.canLay_of_shaped g2) (room_in_shaped g2 hu) ⟨.bl _, H, I, rfl, q⟩
end
def rdInTD (neg : Bool) : RD2
  | x, .tup ys, R => x.shp = true ∧ (D.tup ys).shp = true ∧ R (.bl (if neg then !ys.any fun z => deq z x else ys.any fun z => deq z x))
  | _, _, _ => False
theorem sInTD {K : PySem.W.Frag} {neg : Bool} : Snd2 K (rInTD K neg) (rdInTD neg) := by
  intro F H B env σ As x y v u a b R Q s r1 r2 h k
  unfold rdInTD at h
  split at h
  · obtain ⟨h1, h2, h⟩ := h
    refine ⟨_, _, ⟨r1.dp s.same h1, h1⟩, ⟨r2.dp s.same h2, h2⟩, out_sc s ?_ k⟩
    rw [any_py]; exact h
  · exact h.elim
@[simp ↓] theorem e_inTD {neg : Bool} {x : D} {ys : List D} {R : D → Prop} : rdInTD neg x (.tup ys) R = (x.shp = true ∧ (D.tup ys).shp = true ∧ R (.bl (if neg then !ys.any fun z => deq z x else ys.any fun z => deq z x))) := rfl
end PL

/-! PLx: three comparisons in a row; dicts by tuples of ints: a comprehension, an item. -/
namespace PL
open PySem L2

/-! ### a op1 b op2 c op3 d -/
def tChain3 (r1 r2 r3 : R2) (ta tb tc td : TE) : TE := fun σ H Q => ta σ H fun x H1 => tb σ H1 fun y H2 => r1 x y H2 fun z H3 => ∃ k, z = .bl k ∧
  (if k = true then tc σ H3 fun u H4 => r2 y u H4 fun z H5 => ∃ k, z = .bl k ∧ (if k = true then td σ H5 fun t H6 => r3 u t H6 Q else Q (.bl false) H5) else Q (.bl false) H3)
section
variable {X : Cx} {a b c d : Expr} {ta tb tc td : TE} {pos : Pos}
open PySem.Spec PyProof.Rows in
theorem pe_chain3 {o1 o2 o3 : CmpOp} {r1 r2 r3 : R2} (h1 : OpR X (compareOp o1) r1) (h2 : OpR X (compareOp o2) r2) (h3 : OpR X (compareOp o3) r3) (ha : PE X a ta) (hb : PE X b tb) (hc : PE X c tc) (hd : PE X d td)
    (hm : lastMarks [o1, o2, o3] [b, c, d] = false := by with_unfolding_all rfl) : PE X (.Compare a [o1, o2, o3] [b, c, d] pos) (tChain3 r1 r2 r3 ta tb tc td) := by
  refine ⟨fun pins s σ H Q I h => Compare_chain (thn (ha.run pins s σ H _ I h) fun v1 s1 ⟨x1, H1, I1, g1, q1⟩ => chain_link (thn (hb.run pins s1 σ H1 _ I1 q1) fun v2 s2 ⟨x2, H2, I2, g2, q2⟩ =>
    thn (h1 pins s2 σ H2 x1 x2 v1 v2 _ I2 g1 g2 q2) fun w s3 ⟨z, H3, I3, g3, k, e, q3⟩ => ?_)) hm⟩
  subst e
  cases g3
  refine wpAny_truthy_bool ?_
  cases k with
  | false => exact ite_ff ⟨.bl false, H3, I3, rfl, q3⟩
  | true =>
    refine ite_tt (chain_link (thn (hc.run pins s3 σ H3 _ I3 q3) fun v3 s4 ⟨x3, H4, I4, g4, q4⟩ => thn (h2 pins s4 σ H4 x2 x3 v2 v3 _ I4 g2 g4 q4) fun w s5 ⟨z, H5, I5, g5, k, e, q5⟩ => ?_))
    subst e
    cases g5
    refine wpAny_truthy_bool ?_
    cases k with
    | false => exact ite_ff ⟨.bl false, H5, I5, rfl, q5⟩
    | true => exact ite_tt (chain_last (thn (hd.run pins s5 σ H5 _ I5 q5) fun v4 s6 ⟨x4, H6, I6, g6, q6⟩ => h3 pins s6 σ H6 x3 x4 v3 v4 Q I6 g4 g6 q6))
open PySem.Spec PyProof.Rows in
theorem pt_chain3 {o1 o2 o3 : CmpOp} {r1 r2 r3 : R2} (h1 : OpR X (compareOp o1) r1) (h2 : OpR X (compareOp o2) r2) (h3 : OpR X (compareOp o3) r3) (ha : PE X a ta) (hb : PE X b tb) (hc : PE X c tc) (hd : PE X d td)
    (hm : lastMarks [o1, o2, o3] [b, c, d] = false := by with_unfolding_all rfl) : PT X (.Compare a [o1, o2, o3] [b, c, d] pos) (tTest (tChain3 r1 r2 r3 ta tb tc td)) := by
  refine ⟨fun pins s σ H Q I h => isTrue_chain (thn (ha.run pins s σ H _ I h) fun v1 s1 ⟨x1, H1, I1, g1, q1⟩ => test_link (thn (hb.run pins s1 σ H1 _ I1 q1) fun v2 s2 ⟨x2, H2, I2, g2, q2⟩ =>
    thn (h1 pins s2 σ H2 x1 x2 v1 v2 _ I2 g1 g2 q2) fun w s3 ⟨z, H3, I3, g3, k, e, q3⟩ => ?_)) hm⟩
  subst e
  cases g3
  refine wpAny_truthy_bool ?_
  cases k with
  | false =>
    obtain ⟨k', e', q'⟩ := q3
    cases e'
    exact ite_ff ⟨H3, I3, q'⟩
  | true =>
    refine ite_tt (test_link (thn (hc.run pins s3 σ H3 _ I3 q3) fun v3 s4 ⟨x3, H4, I4, g4, q4⟩ => thn (h2 pins s4 σ H4 x2 x3 v2 v3 _ I4 g2 g4 q4) fun w s5 ⟨z, H5, I5, g5, k, e, q5⟩ => ?_))
    subst e
    cases g5
    refine wpAny_truthy_bool ?_
    cases k with
    | false =>
      obtain ⟨k', e', q'⟩ := q5
      cases e'
      exact ite_ff ⟨H5, I5, q'⟩
    | true =>
      refine ite_tt (test_last (thn (hd.run pins s5 σ H5 _ I5 q5) fun v4 s6 ⟨x4, H6, I6, g6, q6⟩ => thn (h3 pins s6 σ H6 x3 x4 v3 v4 _ I6 g4 g6 q6) fun w s7 ⟨z, H7, I7, g7, k, e, q7⟩ => ?_))
      subst e
      cases g7
      exact wpAny_truthy_bool ⟨H7, I7, q7⟩
end
def wChain3 (rd1 rd2 rd3 : RD2) (wa wb wc wd : WE) : WE := fun env R => wa env fun x e1 => wb e1 fun y e2 => y.fz = true ∧ rd1 x y fun z => asB z fun c => if c = true then wc e2 fun u e3 => u.fz = true ∧ rd2 y u fun z => asB z fun c =>
  if c = true then wd e3 fun t e4 => rd3 u t fun z => R z e4 else R (.bl false) e3 else R (.bl false) e2
section
variable {X : Cx} {p : Bool} {a b c d : Expr} {wa wb wc wd : WE} {pos : Pos}
theorem chain3_lift {r1 r2 r3 : R2} {rd1 rd2 rd3 : RD2} (h1 : Snd2 X.K r1 rd1) (h2 : Snd2 X.K r2 rd2) (h3 : Snd2 X.K r3 rd3) :
    ∀ σ H Q, liftE X.K p (wChain3 rd1 rd2 rd3 wa wb wc wd) σ H Q → tChain3 r1 r2 r3 (liftE X.K p wa) (liftE X.K p wb) (liftE X.K p wc) (liftE X.K p wd) σ H Q := by
  rintro σ H Q ⟨F, B, env, As, R, s, hw, k⟩
  refine ⟨F, B, env, As, _, s, hw, fun v H1 F1 As1 a x e1 po1 t1 g1 => ?_⟩
  refine ⟨F1, Bx B a, e1, As1, _, po1.so.push t1, g1, fun u H2 F2 As2 b y e2 po2 t2 ⟨yz, g2⟩ => ?_⟩
  refine h1 po2.so.pop (t1.keep po2).rep t2.rep g2 fun zv H3 F3 c z po3 t3 g3 => ?_
  obtain ⟨cb, rfl, g3⟩ := asB_inv g3
  obtain ⟨rfl, _⟩ := t3.rep.sc_inv
  refine ⟨cb, rfl, ?_⟩
  have po13 := (po1.trans po2.pop).trans (po3.imp fun _ => rfl)
  cases cb with
  | false => exact k _ H3 F3 As2 [] _ e2 po13 (.sc po3.so _) g3
  | true =>
    have r2 := t2.rep
    have := r2.fzNil yz; subst this
    refine ⟨F3, B, e2, As2, _, po3.so, g3, fun w H4 F4 As4 c4 u e4 po4 t4 ⟨uz, g4⟩ => ?_⟩
    have r4 := t4.rep
    have := r4.fzNil uz; subst this
    refine h2 po4.so (r2.frame (po3.ext.trans po4.ext) fun _ z => nomatch z) r4 g4 fun zv H5 F5 c5 z5 po5 t5 g5 => ?_
    obtain ⟨cb, rfl, g5⟩ := asB_inv g5
    obtain ⟨rfl, _⟩ := t5.rep.sc_inv
    refine ⟨cb, rfl, ?_⟩
    have po15 := (po13.trans po4).trans (po5.imp fun _ => rfl)
    cases cb with
    | false => exact k _ H5 F5 As4 [] _ e4 po15 (.sc po5.so _) g5
    | true =>
      refine ⟨F5, B, e4, As4, _, po5.so, g5, fun w H6 F6 As6 c6 t e6 po6 t6 g6 => ?_⟩
      refine h3 po6.so (r4.frame (po5.ext.trans po6.ext) fun _ z => nomatch z) t6.rep g6 fun zv H7 F7 c7 z7 po7 t7 g7 => ?_
      exact k _ H7 F7 As6 c7 z7 e6 ((po15.trans po6).trans (po7.imp fun _ => rfl)) t7 g7
theorem de_chain3 {o1 o2 o3 : CmpOp} {r1 r2 r3 : R2} {rd1 rd2 rd3 : RD2} (g1 : OpR X (compareOp o1) r1) (h1 : Snd2 X.K r1 rd1) (g2 : OpR X (compareOp o2) r2) (h2 : Snd2 X.K r2 rd2) (g3 : OpR X (compareOp o3) r3) (h3 : Snd2 X.K r3 rd3)
    (ha : DE p X a wa) (hb : DE p X b wb) (hc : DE p X c wc) (hd : DE p X d wd) (hm : lastMarks [o1, o2, o3] [b, c, d] = false := by with_unfolding_all rfl) : DE p X (.Compare a [o1, o2, o3] [b, c, d] pos) (wChain3 rd1 rd2 rd3 wa wb wc wd) :=
  ⟨PEimp (pe_chain3 g1 g2 g3 ha.pe hb.pe hc.pe hd.pe hm) (chain3_lift h1 h2 h3)⟩
theorem dt_chain3 {o1 o2 o3 : CmpOp} {r1 r2 r3 : R2} {rd1 rd2 rd3 : RD2} (g1 : OpR X (compareOp o1) r1) (h1 : Snd2 X.K r1 rd1) (g2 : OpR X (compareOp o2) r2) (h2 : Snd2 X.K r2 rd2) (g3 : OpR X (compareOp o3) r3) (h3 : Snd2 X.K r3 rd3)
    (ha : DE p X a wa) (hb : DE p X b wb) (hc : DE p X c wc) (hd : DE p X d wd) (hm : lastMarks [o1, o2, o3] [b, c, d] = false := by with_unfolding_all rfl) : DT p X (.Compare a [o1, o2, o3] [b, c, d] pos) (wTst (wChain3 rd1 rd2 rd3 wa wb wc wd)) :=
  ⟨PTimp (pt_chain3 g1 g2 g3 ha.pe hb.pe hc.pe hd.pe hm) (tst_lift (chain3_lift h1 h2 h3))⟩
end

/-! ### dicts by tuples of ints -/
/-- d[u] = r of a comprehension: P tells, by the tracked heap, what it leaves -/
abbrev DStep := Addr → V → V → Hp → (Hp → Prop) → Prop
def DStores (X : Cx) (P : DStep) : Prop := ∀ {Y : Cx} {pins : List (Addr × Obj)} {σ : L2.St} {H : Hp} {s : Shared} {E : Value → Shared → Prop} {D : Addr} {y z : V} {u r : Value} {Nx : Hp → Prop} {Q : Unit → Shared → Prop}, Y.prog = X.prog → Y.w = X.w → Y.A = X.A →
  Inv Y pins σ H s → P D y z H Nx → RelV y u → RelV z r → (∀ s' H', Inv Y pins σ H' s' → Nx H' → Q () s') → wpAny (model Y.prog Y.w) Y.A (dictSet D u r) Q E s
/-- the turns: o0 the new dict as it is tracked -/
def tDcP (o0 : HO) (P : DStep) (wi : L2.TI) (g : TG) (tt : TT) (tk tv : TE) (vs : List Nat) : TE := fun σ H0 Q => wi σ H0 fun J H1 => ∀ D, H1 D = none → ∃ W : Nat → Nat → Hp → Prop, (∃ m0, W 0 m0 (upd H1 D o0)) ∧ ∀ i m H, W i m H →
  (J.stop i H ∧ Q (.ref D) H) ∨ (J.go i H ∧ ∃ Nx : Hp → Prop, (∀ H', Nx H' → ∃ m', m' < m ∧ W (i + 1) m' H') ∧
    ∀ x H', J.yld i H x H' → g x (wipe σ vs) H' fun σ2 H2 => wipe σ2 vs = wipe σ vs ∧ tt σ2 H2 fun b H3 => if b = true then tk σ2 H3 fun y H4 => tv σ2 H4 fun z H5 => P D y z H5 Nx else Nx H3)
section
variable {X : Cx} {kx vx tg iter : Expr} {ifs : List Expr} {scope : Scope} {own : List (Str × Nat)} {pos : Pos} {wi : L2.TI} {g : TG} {tt : TT} {tk tv : TE} {o0 : HO} {P : DStep}
open PySem.Spec PyProof.Rows in
theorem pe_dcP (hP : DStores X P) (h0 : ∀ {H : Hp} (h : Heap), sysModules < h.objs.size → ObjOk X.prog X.w H (h.push { cls := .type "dict", data := .dict #[] }) h.objs.size o0) (hc : X.calm = true) (hN : X.N.Nodup) (hi : PI X tg iter wi) (ok : BlkOk X.N X.env.scope scope own)
    (hg : ∀ (s : Shared) (H : Hp) (C : Addr) (cl : List (Str × Addr)) (fp : List Addr), PG (X.blk s H scope (compEnvC scope cl C X.env) fp) tg g)
    (ht : ∀ (s : Shared) (H : Hp) (C : Addr) (cl : List (Str × Addr)) (fp : List Addr), PTs (X.blk s H scope (compEnvC scope cl C X.env) fp) ifs tt)
    (hk : ∀ (s : Shared) (H : Hp) (C : Addr) (cl : List (Str × Addr)) (fp : List Addr), PE (X.blk s H scope (compEnvC scope cl C X.env) fp) kx tk)
    (he : ∀ (s : Shared) (H : Hp) (C : Addr) (cl : List (Str × Addr)) (fp : List Addr), PE (X.blk s H scope (compEnvC scope cl C X.env) fp) vx tv) (hs : ∀ x, foldedSetIterable iter X.env x = pure x := by intro _; rfl) :
    PE X (.DictComp kx vx [⟨tg, iter, ifs, 0⟩] scope pos) (tDcP o0 P wi g tt tk tv (own.map (·.2))) := by
  refine ⟨fun pins s0 σ H0 Q I0 hq => ?_⟩
  rw [arm_eval_DictComp]
  have free : ∀ y ∈ scope.names, y.2 = .free → ∃ c, X.env.cells.lookup y.1 = some c := fun y hy e => (ok.free y hy e).elim (fun z => I0.ok.has _ (.inl z)) fun z => I0.ok.has _ (.inr z)
  refine wpAny_comprehension_free (use := none) rfl hs (closure_ok free) ok.kind (fun y hy e => by rw [ok.uniq y hy, e]) (thn (hi.run pins s0 σ H0 _ I0 hq) fun _ _ h1 => thn h1 fun _ s1 ⟨it, fp, tn, J, H1, e1, I1, T, st1, f1, q1⟩ => ?_)
  subst e1
  refine wpAny_newObj_type (newEnv_comp ?_)
  have fresh : H1 s1.heap.objs.size = none := I1.hok.fresh (Nat.le_refl _)
  have new := h0 (H := upd H1 s1.heap.objs.size o0) s1.heap I1.big
  revert fresh new
  generalize hD : s1.heap.objs.size = D
  intro fresh new
  obtain ⟨W, ⟨m0, w0⟩, turn⟩ := q1 D fresh
  generalize hs2 : ({ s1 with heap := s1.heap.push { cls := .type "dict", data := .dict #[] } } : Shared) = s2
  have I2 : Inv X pins σ (upd H1 D o0) s2 := by
    rw [← hs2]
    exact I1.laid (t' := s1.toks) (fun b o e => Heap.get?_push_of_some _ e) (Nat.le_of_eq hD) new
  have hp2 : s2.heap = s1.heap.push { cls := .type "dict", data := .dict #[] } := by rw [← hs2]
  have f2 : ∀ b ∈ fp, FpOk X pins (upd H1 D o0) b ∧ b < s2.heap.objs.size := fun b hb => by
    obtain ⟨o, e, _⟩ := T.obj _ _ st1 b hb
    have lt := Heap.lt_size e
    refine ⟨⟨(upd_ne (by rw [← hD]; exact Nat.ne_of_lt lt)).trans (f1 b hb).1, (f1 b hb).2⟩, ?_⟩
    rw [hp2, Heap.size_push]
    exact Nat.lt_succ_of_lt lt
  have st2 : tn 0 s2.heap := T.keep _ _ _ st1 fun b _ o e => by rw [hp2]; exact Heap.get?_push_of_some _ e
  have I3 := block_start I2 ok hN f2
  generalize hH2 : upd H1 D o0 = H2 at I2 I3 w0 f2
  have pg := hg s2 H2 s2.heap.objs.size (cellsFrom (s2.heap.objs.size + 1) scope.names (cloFrom X.env.cells scope.names [])) fp
  have pt := ht s2 H2 s2.heap.objs.size (cellsFrom (s2.heap.objs.size + 1) scope.names (cloFrom X.env.cells scope.names [])) fp
  have pk := hk s2 H2 s2.heap.objs.size (cellsFrom (s2.heap.objs.size + 1) scope.names (cloFrom X.env.cells scope.names [])) fp
  have pv := he s2 H2 s2.heap.objs.size (cellsFrom (s2.heap.objs.size + 1) scope.names (cloFrom X.env.cells scope.names [])) fp
  show codeAny _ _ (.compStart (.DictComp kx vx [⟨tg, iter, ifs, 0⟩] scope pos) 0 (.ref it) (.ref D) (compEnvC scope (cellsFrom (s2.heap.objs.size + 1) scope.names (cloFrom X.env.cells scope.names [])) s2.heap.objs.size X.env)) (compPost (model X.prog X.w) X.A X.xe none _ (.ref D) s2.heap.objs.size) { s2 with heap := pushCells (s2.heap.push { cls := .type "dict", data := .dict #[] }) scope.names }
  generalize hce : compEnvC scope (cellsFrom (s2.heap.objs.size + 1) scope.names (cloFrom X.env.cells scope.names [])) s2.heap.objs.size X.env = ce at I3 pg pt pk pv ⊢
  have loc : ce.locals = s2.heap.objs.size := by rw [← hce]; rfl
  generalize hs3 : ({ s2 with heap := pushCells (s2.heap.push { cls := .type "dict", data := .dict #[] }) scope.names } : Shared) = s3 at I3 ⊢
  have st3 : tn 0 s3.heap := T.keep _ _ _ st2 fun b _ o e => by rw [← hs3]; exact pushCells_keeps _ _ _ _ (Heap.get?_push_of_some _ e)
  have fpok : ∀ {σ' : L2.St} {H' : Hp} {s' : Shared}, Inv (X.blk s2 H2 scope ce fp) [] σ' H' s' → (∀ b ∈ fp, H' b = none) → ∀ b ∈ fp, FpOk (X.blk s2 H2 scope ce fp) [] H' b := fun I' n b hb =>
    ⟨n b hb, (I'.ok.exf b hb).1, I'.ok.exfs b hb, .inl hb, fun x c e => (I'.ok.exf b hb).2 x c e, fun p hp => by simp at hp⟩
  have main : codeAny (model X.prog X.w) X.A (.compLoop (.DictComp kx vx [⟨tg, iter, ifs, 0⟩] scope pos) 0 (.ref it) (.ref D) ce) (compPost (model X.prog X.w) X.A X.xe none (fun v s' => ∃ x H', Inv X pins σ H' s' ∧ RelV x v ∧ Q x H') (.ref D) s2.heap.objs.size) s3 := by
    refine compLoop_anyD (fun n s' => ∃ i H', Inv (X.blk s2 H2 scope ce fp) [] (wipe σ (own.map (·.2))) H' s' ∧ tn i s'.heap ∧ (∀ b ∈ fp, H' b = none) ∧ W i n H') (fun n s4 hw => ?_) m0 ⟨0, H2, I3, st3, fun b hb => (f2 b hb).1.1, w0⟩
    obtain ⟨i, H4, I4, st4, n4, w4⟩ := hw
    rcases turn i n H4 w4 with ⟨stop, done⟩ | ⟨go, Nx, less, step⟩
    · refine thnF (T.done (X.blk s2 H2 scope ce fp) rfl rfl rfl hc i [] s4 _ H4 (fun _ _ => False) I4 (fpok I4 n4) st4 stop) fun r s5 ⟨er, I5⟩ => ?_
      subst er
      have out : Inv X pins σ H4 s5 := I2.call' (ch := fp) I5.os I5.base I5.hok I5.bare fun b hb => let z := (f2 b hb).1; ⟨z.2.2.2.1, z.2.1, z.2.2.2.2.1, z.2.2.2.2.2⟩
      have gone : H4 s2.heap.objs.size = none := by rw [← loc]; exact I5.free
      obtain ⟨mm, hn, _⟩ := I5.loc
      have hn : s5.heap.Ns ce.locals mm := hn
      rw [loc] at hn
      refine ⟨mm, hn, fun h'' sb => ?_⟩
      obtain ⟨k0, k1, k2, k3, k4, k5⟩ := I2.fpOk (Nat.le_refl _) gone
      exact ⟨.ref D, H4, out.turned (t' := s5.toks) (fun b o hb e => (sb.2 b hb).trans e) k0 k1 k3 k4 k5, rfl, done⟩
    · refine thnF (T.item (X.blk s2 H2 scope ce fp) rfl rfl rfl hc i [] s4 _ H4 (fun _ _ => False) I4 (fpok I4 n4) st4 go) fun r s5 ⟨u, er, h5⟩ => ?_
      subst er
      refine thnF h5 fun _ s6 ⟨x, H6, I6, r6, y6, st6, n6⟩ => ?_
      refine thnF (pg.run _ s6 _ H6 x u _ (I6.pinned (fpok I6 n6) (T.obj _ _ st6)) r6 (step x H6 y6)) fun _ s7 ⟨σ7, H7, I7, w7, q7⟩ => ?_
      refine thnF (pt.run _ s7 σ7 H7 _ I7 q7) fun b s8 ⟨H8, I8, q8⟩ => ?_
      have back : ∀ {s' : Shared} {H' : Hp}, Inv (X.blk s2 H2 scope ce fp) ([] ++ pinsAt fp s6.heap) σ7 H' s' → Nx H' → ∃ m, m < n ∧ ∃ i H', Inv (X.blk s2 H2 scope ce fp) [] (wipe σ (own.map (·.2))) H' s' ∧ tn i s'.heap ∧ (∀ b ∈ fp, H' b = none) ∧ W i m H' := fun {s' H'} I' nx => by
        obtain ⟨m', lt, w'⟩ := less H' nx
        have pin : ∀ b ∈ fp, ∀ o, s6.heap.get? b = some o → s'.heap.get? b = some o ∧ H' b = none := fun b hb o e =>
          let z := I'.pin (b, o) (List.mem_append_right _ (List.mem_append_right _ (mem_pinsAt hb e)))
          ⟨z.1, z.2.1⟩
        refine ⟨m', lt, i + 1, H', (I'.unpinned (pins := [])).weak (by rw [← w7, wipe_length]) (fun j v e => by rw [← w7] at e; exact (wipe_some e).1), T.keep _ _ _ st6 fun b hb o e => (pin b hb o e).1, fun b hb => ?_, w'⟩
        obtain ⟨o, e, _⟩ := T.obj _ _ st6 b hb
        exact (pin b hb o e).2
      cases b with
      | false =>
        simp only [Bool.false_eq_true, if_false] at q8 ⊢
        exact back I8 q8
      | true =>
        simp only [if_true] at q8 ⊢
        refine thnF (pk.run _ s8 σ7 H8 _ I8 q8) fun ku s9 ⟨yk, H9, I9, r9, q9⟩ => ?_
        refine thnF (pv.run _ s9 σ7 H9 _ I9 q9) fun vu s10 ⟨yv, H10, I10, r10, q10⟩ => ?_
        exact hP (Y := X.blk s2 H2 scope ce fp) rfl rfl rfl I10 q10 r9 r10 fun s' H' I' nx => back I' nx
  exact codeAny_compStart_dict main (T.self X.A 0 _ _ _ st3 main)
end
/-- the store by a tuple of scalars -/
def stT : DStep := fun D y z H Nx => ∃ kvs k b, y = .ref b ∧ H b = some (.tup (k.map kV)) ∧ H D = some (.dT kvs) ∧ kvs.length < sizeLine ∧ Nx (upd H D (.dT (putK kvs k z)))
open PySem.Spec PyProof.Rows in
theorem stT_ok {X : Cx} (hu : X.A.units < cLine) : DStores X stT := by
  intro Y pins σ H s E D y z u r Nx Q e1 e2 e3 I hst ry rz h
  obtain ⟨kvs, k, b, rfl, hb, hD, hl, nx⟩ := hst
  cases (show u = Value.ref b from ry)
  obtain ⟨z1, hd, xs, rel, dd⟩ := dt_of I.hok hD
  have hz : xs.length ≤ sizeLine := by rw [← Paired.length rel]; exact z1
  have hl2 : (putK kvs k z).length ≤ sizeLine := by have := length_putK kvs k z; omega
  rw [← e3] at hu
  refine wpAny_dictSet_heap (hsz := hz) hu (key_of I.hok hb) dd fun h' dd' hs => h _ _ ?_ nx
  obtain ⟨q, es, ep, hq, h2, h3, h4, _, h5⟩ := dd'
  refine d_write I (by rw [hD]; exact True.intro) hs ⟨q, hq⟩ ⟨hl2, hd, _, (rel.put k hb rz).keeps fun c ys ec => ?_, q, es, ep, hq, h2, h3, h4, h5⟩
  rw [upd_ne (ne_of ec hD (fun z => nomatch z))]
  exact ec
/-! by data -/
def keyD (k : Key) : D := .sc (kV k)
/-- a dict by tuples of scalars, its values scalars -/
def dctD (o : Bool) (kvs : List (List Key × V)) : D := .obj o (.dT (kvs.map (·.1))) (kvs.map fun p => D.sc p.2)
theorem zip_fs {α β : Type} : ∀ l : List (α × β), (l.map (·.1)).zip (l.map (·.2)) = l
  | [] => rfl
  | p :: l => by simp [zip_fs l]
/-- the turns, by data -/
def dcompT (vs : List Nat) (g : WG) (wt : WT) (wk : WA) (wv : WE) : List D → List (List Key × V) → En → (List (List Key × V) → En → Prop) → Prop
  | [], acc, env, R => R acc env
  | x :: xs, acc, env, R => g x (wipeE none vs env) fun e1 => wt e1 fun b e2 => if b = true then wk e2 fun ds e3 => ∃ k, ds = k.map keyD ∧ k.length ≤ sizeLine ∧ wv e3 fun y e4 => ∃ v, y = .sc v ∧ acc.length < sizeLine ∧ dcompT vs g wt wk wv xs (putK acc k v) e4 R
    else dcompT vs g wt wk wv xs acc e2 R
def wDcT (wi : WI) (vs : List Nat) (g : WG) (wt : WT) (wk : WA) (wv : WE) : WE := fun env R => wi env fun items e1 => dcompT vs g wt wk wv items [] e1 fun acc e2 => R (dctD true acc) (restE e1 vs (wipeE none vs e2))
section
variable {K : PySem.W.Frag} {F H : Hp} {B : Addr → Prop} {env : En} {σ : L2.St} {As : List (List Addr)}
/-- one more object that stays -/
theorem SO.hold {p : Addr} {o : HO} (s : SO K F H B env σ As) (h : H p = none) (hm : Mut (some o) := by trivial) : SO K F (upd H p o) (Bx B [p]) env σ As := by
  have s2 := (s.newO (o := o) h).so
  refine ⟨s2.same, s2.env, s2.nd, s2.fr, fun b hb => ?_⟩
  rcases hb with hb | hb
  · exact s2.out b hb
  · rw [List.mem_singleton.mp hb]
    exact ⟨s.freeF h, ⟨o, upd_same, hm⟩, s.notAs h⟩
theorem dcT_lift {wi : WI} {vs : List Nat} {g : WG} {wt : WT} {wk : WA} {wv : WE} {ti : L2.TI} {tg : TG} {tt : TT} {ta : TA} {tv : TE} {n : Nat} (hi : ∀ σ H Q, liftI K false wi σ H Q → ti σ H Q)
    (hg : ∀ v σ H Q, liftG K (outK n vs) g v σ H Q → tg v σ H Q) (ht : ∀ σ H Q, liftT K false wt σ H Q → tt σ H Q) (hk : ∀ σ H Q, liftA K false wk σ H Q → ta σ H Q) (hv : ∀ σ H Q, liftE K false wv σ H Q → tv σ H Q) :
    ∀ (σ : L2.St) H Q, σ.length = n → liftE K false (wDcT wi vs g wt wk wv) σ H Q → tDcP (.dT []) stT ti tg tt (tTup ta) tv vs σ H Q := by
  rintro σ H Q hn ⟨F, B, env, As, R, s, hw, k⟩
  refine hi σ H _ ⟨F, B, env, As, _, s, hw, fun J H1 F1 As1 e1 items po1 it h1 D hD => ?_⟩
  refine ⟨fun i m H' => m = items.length - i ∧ i ≤ items.length ∧ ∃ F' As' env' acc, Same F1 F' ∧ SO K F' H' (Bx B [D]) (wipeE none vs env') (wipeE none vs σ) As' ∧ (∀ b, B b → H' b = H1 b) ∧ H' D = some (.dT acc) ∧
      dcompT vs g wt wk wv (items.drop i) acc env' (fun acc e2 => R (dctD true acc) (restE e1 vs (wipeE none vs e2))), ⟨items.length, rfl, Nat.zero_le _, ?_⟩, ?_⟩
  · exact ⟨F1, _, e1, [], Same.refl _, (po1.so.hold hD).wipe vs, fun b hb => upd_ne fun z => po1.so.notB hD (z ▸ hb), upd_same, h1⟩
  · rintro i m H2 ⟨rfl, hle, F2, As2, e2, acc, sm, s2, kb, hD2, h2⟩
    by_cases hlt : i < items.length
    · refine .inr ⟨it.go i H2 (sm.trans s2.same) hlt, fun H' => ∃ F' As' env' acc, Same F1 F' ∧ SO K F' H' (Bx B [D]) (wipeE none vs env') (wipeE none vs σ) As' ∧ (∀ b, B b → H' b = H1 b) ∧ H' D = some (.dT acc) ∧
        dcompT vs g wt wk wv (items.drop (i + 1)) acc env' (fun acc e2 => R (dctD true acc) (restE e1 vs (wipeE none vs e2))), fun H' h => ⟨items.length - (i + 1), by omega, rfl, hlt, h⟩, fun x H3 y => ?_⟩
      rw [List.drop_eq_getElem_cons hlt] at h2
      obtain ⟨F3, po3, t3⟩ := it.item s2 sm y (List.getElem?_eq_getElem hlt)
      rw [wipe_eq]
      have same : ∀ {σ4 H4 F4 As4 e4}, PostS K (outK n vs) F2 H2 (Bx B [D]) (wipeE none vs σ) F4 H4 e4 σ4 As4 → wipeE none vs σ4 = wipeE none vs σ := fun {σ4 _ _ _ _} po => by
        have hl4 : σ4.length = σ.length := by rw [po.len, wipeE_len]
        refine List.ext_getElem? fun j => ?_
        by_cases hj : j ∈ vs
        · by_cases hjl : j < σ.length
          · rw [wipeE_in none hj (by omega), wipeE_in none hj hjl]
          · rw [List.getElem?_eq_none (by rw [wipeE_len]; omega), List.getElem?_eq_none (by rw [wipeE_len]; omega)]
        · rw [wipeE_out none hj, wipeE_out none hj]
          by_cases hjl : j < n
          · rw [po.kp j (outK_mem.mpr ⟨hjl, hj⟩), wipeE_out none hj]
          · rw [List.getElem?_eq_none (by omega), List.getElem?_eq_none (by omega)]
      have back : ∀ {σ4 H4 F4 As4 e4}, PostS K (outK n vs) F2 H2 (Bx B [D]) (wipeE none vs σ) F4 H4 e4 σ4 As4 → SO K F4 H4 (Bx B [D]) (wipeE none vs e4) (wipeE none vs σ) (wipeE [] vs As4) := fun po => by
        rw [← same po]; exact po.so.wipe vs
      refine hg x _ H3 _ ⟨F3, Bx B [D], _, As2, _, [], _, po3.so, t3, h2, fun σ4 H4 F4 As4 e4 po4 h4 => ?_⟩
      have po24 := (po3.ps (kp := outK n vs)).trans po4
      refine ⟨by rw [wipe_eq, same po24], ?_⟩
      refine ht σ4 H4 _ ⟨F4, Bx B [D], e4, As4, _, po4.so, h4, fun b H5 F5 As5 e5 po5 h5 => ?_⟩
      have po25 := po24.trans (po5.ps (kp := outK n vs))
      cases b with
      | false =>
        exact ⟨F5, _, e5, acc, sm.trans po25.ext, back po25, fun b hb => (po25.keep b (.inl hb)).trans (kb b hb), (po25.keep D (.inr (List.mem_singleton.mpr rfl))).trans hD2, h5⟩
      | true =>
        refine hk σ4 H5 _ ⟨F5, Bx B [D], e5, As5, _, po5.so, h5, fun ks H6 F6 As6 ak ds e6 po6 t6 ⟨kk, hds, hl, h6⟩ => ?_⟩
        subst hds
        have po26 := po25.trans (po6.ps (kp := outK n vs))
        have rk := t6.rep
        rw [show kk.map keyD = (kk.map kV).map PL.D.sc by rw [List.map_map]; rfl] at rk
        obtain ⟨rfl, rfl⟩ := rk.sc_inv
        refine ⟨by rw [List.length_map]; exact hl, fun p hp => ?_⟩
        have po6b := po6.so.newF (o := .tup (kk.map kV)) hp
        refine hv σ4 _ _ ⟨_, _, e6, As6, _, po6b.so, h6, fun yv H7 F7 As7 ay y e7 po7 t7 ⟨v, hy, hl2, h7⟩ => ?_⟩
        subst hy
        obtain ⟨rfl, rfl⟩ := t7.rep.sc_inv
        have hp7 : H7 p = some (.tup (kk.map kV)) := po7.so.same _ _ (po7.ext _ _ upd_same)
        have keep7 : ∀ b, Bx B [D] b → H7 b = H2 b := fun b hb => (po7.keep b hb).trans ((po6b.keep b hb).trans (po26.keep b hb))
        have po67 : PostS K (outK n vs) F2 H2 (Bx B [D]) (wipeE none vs σ) F7 H7 e7 σ4 As7 := ⟨po26.ext.trans (po6b.ext.trans po7.ext), po7.so, keep7, po26.kp, po26.len⟩
        have hD7 : H7 D = some (.dT acc) := (keep7 D (.inr (List.mem_singleton.mpr rfl))).trans hD2
        refine ⟨acc, kk, p, rfl, hp7, hD7, hl2, F7, _, e7, putK acc kk yv, sm.trans po67.ext, (back po67).updB (.inr (List.mem_singleton.mpr rfl)), fun b hb => ?_, upd_same, h7⟩
        have nb : b ≠ D := fun z => po1.so.notB hD (z ▸ hb)
        exact (upd_ne nb).trans ((keep7 b (.inl hb)).trans (kb b hb))
    · have e : i = items.length := by omega
      subst e
      rw [List.drop_length] at h2
      refine .inl ⟨it.stop _ H2 (sm.trans s2.same) (Nat.le_refl _), ?_⟩
      have nE : ∀ i : Nat, (wipeE none vs e2)[i]? ≠ some none → σ[i]? = (wipeE none vs σ)[i]? := fun j hj => by
        by_cases hv : j ∈ vs
        · by_cases hl : j < σ.length
          · exact absurd (wipeE_in none hv (by have := s2.env.len.1; rw [wipeE_len, wipeE_len] at this; omega)) hj
          · rw [List.getElem?_eq_none (by omega), List.getElem?_eq_none (by rw [wipeE_len]; omega)]
        · rw [wipeE_out none hv]
      have oD := s2.out D (.inr (List.mem_singleton.mpr rfl))
      have s3 : SO K F2 H2 B (wipeE none vs e2) σ As2 := ⟨s2.same, s2.env.slots (wipeE_len none vs σ).symm nE, s2.nd, s2.fr, s2.pop.out⟩
      obtain ⟨As3, s4, sub⟩ := po1.so.rest sm s3 vs
      refine k (.ref D) H2 F2 As3 [D] _ _ ⟨po1.ext.trans sm, s4, fun b hb => (kb b hb).trans (po1.keep b hb), fun z => Bool.noConfusion z⟩ ⟨?_, ?_, fun x hx => ?_, fun x hx => ?_⟩ h2
      · refine .own (vs := acc.map (·.2)) (A := []) (show CellO H2 (.dT (acc.map (·.1))) D (acc.map (·.2)) from ⟨by rw [zip_fs]; exact hD2, by simp⟩) ?_
        have := RepL.sc_of (K := K) (F := F2) (H := H2) (acc.map (·.2))
        rw [List.map_map] at this
        exact this
      · exact List.nodup_append.mpr ⟨by simp, s4.nd, fun x hx z hz e => by
          subst e
          rw [List.mem_singleton.mp hx] at hz
          exact oD.2.2 (sub _ hz)⟩
      · rw [List.mem_singleton.mp hx]; exact oD.1
      · rw [List.mem_singleton.mp hx]; exact po1.so.notB hD
end
section
variable {X : Cx} {kes : List Expr} {vx tg iter : Expr} {ifs : List Expr} {scope : Scope} {own : List (Str × Nat)} {pos kpos : Pos} {x1} {wi : WI} {g : WG} {wt : WT} {wk : WA} {wv : WE}
theorem de_dcT (hu : X.A.units < cLine) (hc : X.calm = true) (hN : X.N.Nodup) (hi : DI false X tg iter wi) (ok : BlkOk X.N X.env.scope scope own)
    (hg : ∀ (s : Shared) (H : Hp) (C : Addr) (cl : List (Str × Addr)) (fp : List Addr), DG (outK X.N.length (own.map (·.2))) (X.blk s H scope (compEnvC scope cl C X.env) fp) tg g)
    (ht : ∀ (s : Shared) (H : Hp) (C : Addr) (cl : List (Str × Addr)) (fp : List Addr), DTs false (X.blk s H scope (compEnvC scope cl C X.env) fp) ifs wt)
    (hk : ∀ (s : Shared) (H : Hp) (C : Addr) (cl : List (Str × Addr)) (fp : List Addr), DA false (X.blk s H scope (compEnvC scope cl C X.env) fp) kes wk)
    (he : ∀ (s : Shared) (H : Hp) (C : Addr) (cl : List (Str × Addr)) (fp : List Addr), DE false (X.blk s H scope (compEnvC scope cl C X.env) fp) vx wv) (hs : ∀ x, foldedSetIterable iter X.env x = pure x := by intro _; rfl) :
    DE false X (.DictComp (.Tuple kes x1 kpos) vx [⟨tg, iter, ifs, 0⟩] scope pos) (wDcT wi (own.map (·.2)) g wt wk wv) :=
  ⟨PEimpN (pe_dcP (o0 := .dT []) (g := liftG X.K (outK X.N.length (own.map (·.2))) g) (tt := liftT X.K false wt) (tk := tTup (liftA X.K false wk)) (tv := liftE X.K false wv) (stT_ok hu) (fun h hb => dt_empty h hb) hc hN hi.pi ok
    (fun s H C cl fp => (hg s H C cl fp).pg) (fun s H C cl fp => (ht s H C cl fp).pt) (fun s H C cl fp => pe_tup (hk s H C cl fp).pa) (fun s H C cl fp => (he s H C cl fp).pe) hs) fun σ H Q hn h =>
    dcT_lift (fun _ _ _ h => h) (fun _ _ _ _ h => h) (fun _ _ _ h => h) (fun _ _ _ h => h) (fun _ _ _ h => h) σ H Q hn h⟩
end
/-! d[a, b] -/
def rIxDT (K : PySem.W.Frag) : R2 := fun x y H Q => ∃ a b kvs k v, x = .ref a ∧ y = .ref b ∧ Rd H a (.dT kvs) ∧ SqT K H b (k.map kV) ∧ valV kvs k = some v ∧ Q v H
open PySem.Spec PyProof.Rows in
theorem ix_dT {X : Cx} (hu : X.A.units + 1 < cLine) : IxR X (rIxDT X.K) := by
  intro value slice pins s σ H x y v u Q I rx ry h hs
  obtain ⟨a, b, kvs, k, z, rfl, rfl, e, hq, l, q⟩ := h
  cases rx
  cases ry
  obtain ⟨its, r, pl, _⟩ := I.tuple hq
  obtain ⟨o, h1, h2, n, h3⟩ := pl
  have key : (tupleKind (mixKind X.prog X.w)).is s.heap k b := ⟨o, its.toArray, n, h1, h2, h3, by simpa using items_are r⟩
  obtain ⟨_, hd, xs, rel, dd⟩ := dt_rd I.hok e
  obtain ⟨w', hw, rw'⟩ := RelO.some_of (v := z) (o := (atKey xs k).map (·.2)) (by rw [← l]; exact rel.val k)
  obtain ⟨p, hp, hp2⟩ := Option.map_eq_some_iff.mp hw
  refine subscriptTail_builtinR (x := w') dd.typeIs PySem.F.slot_dict_getitem.lookup (wpAny_getItem_heap (tupleKind_room_in1 hu) key dd hp ?_) hs
  exact ⟨hp2, z, H, I.tok _, by rw [hp2]; exact rw', q⟩
def rdIxDT : RD2 := fun x y R => ∃ o kvs k v, x = dctD o kvs ∧ y = .tup (k.map keyD) ∧ valV kvs k = some v ∧ R (.sc v)
theorem sIxDT {K : PySem.W.Frag} : Snd2 K (rIxDT K) rdIxDT := by
  intro F H B env σ As x y v u a b R Q s rx ry h k
  obtain ⟨o, kvs, ks, w, rfl, rfl, l, h⟩ := h
  obtain ⟨p, us, rfl, e1, r1⟩ := ry.tup_inv s.same
  rw [show ks.map keyD = (ks.map kV).map D.sc by rw [List.map_map]; rfl] at r1
  obtain ⟨rfl, _⟩ := r1.sc_inv
  have cell : ∃ q, v = .ref q ∧ H q = some (.dT kvs) := by
    have vals : ∀ {ws : List V} {A : List Addr}, RepL K F H (kvs.map fun p => D.sc p.2) ws A → ws = kvs.map (·.2) := fun {ws A} r => by
      have r : RepL K F H ((kvs.map (·.2)).map D.sc) ws A := by rw [List.map_map]; exact r
      exact r.sc_inv.1
    unfold dctD at rx
    cases rx with
    | own hc r => exact ⟨_, rfl, by have := hc.1; rw [vals r, zip_fs] at this; exact this⟩
    | frz hc r => exact ⟨_, rfl, by have := s.same _ _ hc.1; rw [vals r, zip_fs] at this; exact this⟩
  obtain ⟨q, rfl, hq⟩ := cell
  exact ⟨q, p, kvs, ks, w, rfl, rfl, .inl hq, e1, l, out_sc s h k⟩
theorem units1 {a : Nat} (h : a + 65 < cLine) : a + 1 < cLine := by omega
theorem units0 {a : Nat} (h : a + 65 < cLine) : a < cLine := by omega
end PL

/-! PLy: own instances: what they hold, their methods, how they are made. -/
namespace PL
open PySem L2

/-! ### fields by name -/
def fIx (f : Str) : List Str → Option Nat
  | [] => none
  | n :: ns => if (f == n) = true then some 0 else (fIx f ns).map (· + 1)
theorem fIx_some {f : Str} : ∀ {ns : List Str} {vs : List V} {j : Nat} {w : V}, fIx f ns = some j → vs[j]? = some w → ns.length = vs.length → (ns.zip vs).lookup f = some w
  | [], _, _, _, h, _, _ => by simp [fIx] at h
  | n :: ns, [], _, _, _, e, hl => by simp at hl
  | n :: ns, v :: vs, j, w, h, e, hl => by
    rw [List.zip_cons_cons, List.lookup_cons]
    unfold fIx at h
    split at h
    · rename_i z
      cases h
      rw [z]
      simpa using e
    · rename_i z
      cases hj : fIx f ns with
      | none => rw [hj] at h; cases h
      | some i =>
        rw [hj] at h
        cases h
        rw [show (f == n) = false by simpa using z]
        exact fIx_some hj (by simpa using e) (by simpa using hl)
theorem fIx_none {f : Str} : ∀ {ns : List Str} {vs : List V}, fIx f ns = none → (ns.zip vs).lookup f = none
  | [], _, _ => rfl
  | n :: ns, [], _ => rfl
  | n :: ns, v :: vs, h => by
    rw [List.zip_cons_cons, List.lookup_cons]
    unfold fIx at h
    split at h
    · cases h
    · rename_i z
      rw [show (f == n) = false by simpa using z]
      exact fIx_none (by simpa using h)
theorem putF_new {f : Str} {y : V} : ∀ {ns : List Str} {vs : List V}, fIx f ns = none → ns.length = vs.length → putF f y (ns.zip vs) = (ns ++ [f]).zip (vs ++ [y])
  | [], [], _, _ => rfl
  | [], _ :: _, _, h => by simp at h
  | _ :: _, [], _, h => by simp at h
  | n :: ns, v :: vs, h, hl => by
    unfold fIx at h
    split at h
    · cases h
    · rename_i z
      have e : ¬ n = f := fun e => z (by rw [e]; exact beq_self_eq_true f)
      show (if n = f then (n, y) :: ns.zip vs else (n, v) :: putF f y (ns.zip vs)) = _
      rw [if_neg e, putF_new (by simpa using h) (by simpa using hl)]
      rfl
section
variable {K : PySem.W.Frag} {F F' H H' : Hp} {B : Addr → Prop} {env : En} {σ : L2.St} {As : List (List Addr)} {d : D} {v : V} {A a : List Addr} {u : D → D} {v' : V} {A' : List Addr}
theorem RepL.get_sub {xs : List D} {vs : List V} {j : Nat} {x : D} (r : RepL K F H xs vs a) (e : xs[j]? = some x) : ∃ w a', vs[j]? = some w ∧ Rep K F H x w a' ∧ a'.Sublist a := by
  obtain ⟨w, A1, A0, A2, h1, h2, h3, _⟩ := r.get e
  subst h2
  exact ⟨w, A0, h1, h3, (List.sublist_append_right A1 A0).trans (List.sublist_append_left _ A2)⟩
theorem Rep.ins_at {o : Bool} {C : Addr} {ns : List Str} {xs : List D} (r : Rep K F H (.obj o (.ins C ns) xs) v a) (s : Same F H) : ∃ p dx vs a', v = .ref p ∧ H p = some (.ins C dx (ns.zip vs)) ∧ ns.length = vs.length ∧ RepL K F H xs vs a' ∧ a'.Sublist a := by
  cases r with
  | own h r => obtain ⟨dx, h, l⟩ := h; exact ⟨_, dx, _, _, rfl, h, l, r, List.sublist_cons_self ..⟩
  | frz h r => obtain ⟨dx, h, l⟩ := h; exact ⟨_, dx, _, _, rfl, s _ _ h, l, r, List.Sublist.refl _⟩
/-- an item of an own thing of any kind -/
theorem Foc.itemG {sh : Sh} {xs : List D} {j : Nat} {x : D} (f : Foc K F H d v A u (.obj true sh xs) v' A') (e : xs[j]? = some x) :
    ∃ p vs w A0, v' = .ref p ∧ CellO H sh p vs ∧ vs[j]? = some w ∧ xs.length = vs.length ∧ Foc K F H d v A (fun y => u (.obj true sh (xs.set j y))) x w A0 := by
  obtain ⟨A1, A2, rfl, r, up⟩ := f
  cases r with
  | @own _ p vs _ A3 h r =>
    obtain ⟨w, B1, B0, B2, h1, h2, h3, h4⟩ := r.get e
    subst h2
    refine ⟨p, vs, w, B0, rfl, h, h1, r.length, A1 ++ p :: B1, B2 ++ A2, by simp, h3, fun F' H' y A'' sm k q => ?_⟩
    have q2 := h4 (F' := F') (H' := H') (d' := y) (v' := w) sm (fun a ha => k a (by
      rcases List.mem_append.mp ha with z | z
      · simp [z]
      · simp [z])) q
    have e2 : vs.set j w = vs := by
      refine List.ext_getElem? fun i => ?_
      by_cases hi : j = i
      · subst hi
        rw [List.getElem?_set_self (List.getElem?_eq_some_iff.mp h1).1]; exact h1.symm
      · rw [List.getElem?_set_ne hi]
    rw [e2] at q2
    have hp : H' p = H p := k p (by simp)
    have := up F' H' (.obj true sh (xs.set j y)) (p :: (B1 ++ A'' ++ B2)) sm (fun a ha => k a (by
      rcases List.mem_append.mp ha with z | z
      · simp [z]
      · simp [z])) (.own (h.of_eq hp) q2)
    simpa using this
end
/-! ### e.f, read where it lies; as a place -/
def insD (C0 : Addr) : D → (List Str → List D → Prop) → Prop
  | .obj _ (.ins C ns) xs, k => C = C0 ∧ k ns xs
  | _, _ => False
def bFld (C0 : Addr) (f : Str) (wb : WB) : WB := fun env R => wb env fun d => insD C0 d fun ns xs => ∃ j x, fIx f ns = some j ∧ xs[j]? = some x ∧ R x
def insO (C0 : Addr) : D → (List Str → List D → Prop) → Prop
  | .obj true (.ins C ns) xs, k => C = C0 ∧ k ns xs
  | _, _ => False
def mFld (C0 : Addr) (f : Str) (wm : WM) : WM := fun env R => wm env fun i d u => insO C0 d fun ns xs => ∃ j x, fIx f ns = some j ∧ xs[j]? = some x ∧ R i x fun y => u (.obj true (.ins C0 ns) (xs.set j y))
theorem insD_inv {C0 : Addr} {d : D} {k : List Str → List D → Prop} (h : insD C0 d k) : ∃ o ns xs, d = .obj o (.ins C0 ns) xs ∧ k ns xs := by
  unfold insD at h
  split at h
  · obtain ⟨rfl, h⟩ := h; exact ⟨_, _, _, rfl, h⟩
  · exact h.elim
theorem insO_inv {C0 : Addr} {d : D} {k : List Str → List D → Prop} (h : insO C0 d k) : ∃ ns xs, d = .obj true (.ins C0 ns) xs ∧ k ns xs := by
  unfold insO at h
  split at h
  · obtain ⟨rfl, h⟩ := h; exact ⟨_, _, rfl, h⟩
  · exact h.elim
section
variable {X : Cx} {p : Bool} {kp : List Nat} {e o : Expr} {f : Str} {C0 : Addr} {wb : WB} {wm : WM} {we : WE} {pos pos' : Pos}
theorem db_fld (cl : Cls X.K C0) (na : NoAttr X.K C0 f) (h : DB X e wb) (hb : attributeBase e f X.env (eval e X.env) = eval e X.env := by rfl) : DB X (.Attribute e f pos) (bFld C0 f wb) := by
  refine ⟨PEimp (pe_fld h.pe hb) ?_⟩
  rintro σ H Q ⟨F, B, env, As, R, s, hw, k⟩
  refine ⟨F, B, env, As, _, s, hw, fun v H1 F1 a d po1 t1 h1 => ?_⟩
  obtain ⟨o, ns, xs, rfl, j, x, hj, hx, h1⟩ := insD_inv h1
  obtain ⟨q, dx, vs, a', rfl, hq, hl, rr, sub⟩ := t1.rep.ins_at po1.so.same
  obtain ⟨w, a2, hw2, r2, sub2⟩ := rr.get_sub hx
  exact ⟨q, C0, dx, _, w, rfl, hq, cl, na, fIx_some hj hw2 hl, k w H1 F1 a2 x po1 (t1.part r2 (sub2.trans sub)) h1⟩
theorem dm_fld (cl : Cls X.K C0) (na : NoAttr X.K C0 f) (h : DM X e wm) (hb : attributeBase e f X.env (eval e X.env) = eval e X.env := by rfl) : DM X (.Attribute e f pos) (mFld C0 f wm) := by
  refine ⟨PEimp (pe_fld h.pe hb) ?_⟩
  rintro σ H Q ⟨F, B, env, As, R, s, hw, k⟩
  refine ⟨F, B, env, As, _, s, hw, fun v H1 F1 i d v0 A u d' A' po1 g1 g2 g3 f1 h1 => ?_⟩
  obtain ⟨ns, xs, rfl, j, x, hj, hx, h1⟩ := insO_inv h1
  obtain ⟨q, vs, w, A0, rfl, hq, hw2, hl, f2⟩ := f1.itemG hx
  obtain ⟨dx, hq, hl2⟩ := hq
  exact ⟨q, C0, dx, _, w, rfl, hq, cl, na, fIx_some hj hw2 hl2, k w H1 F1 i d v0 A _ x A0 po1 g1 g2 g3 f2 h1⟩
/-- self.f = value, a new field -/
def sFldN (kf : Bool) (C0 : Addr) (i : Nat) (f : Str) (we : WE) : WS := fun env RD => we env fun y e1 => ∃ ns xs, e1[i]? = some (some (.obj true (.ins C0 ns) xs)) ∧ fIx f ns = none ∧ ns.length < 1000 ∧ RD.nx (e1.set i (some (.obj true (.ins C0 (ns ++ [f])) (xs ++ [inK kf y]))))
theorem ds_fldN {i : Nat} (kf : Bool) (cl : Cls X.K C0) (na : NoAttr X.K C0 f) (ho : PE X o (tVar i)) (h : DE p X e we) (hs : swapsWith e (some (.Attribute o f pos')) pos.line X.env = pure false := by rfl) : DS kp X (.Assign [.Attribute o f pos'] e pos) (sFldN kf C0 i f we) := by
  refine ⟨PSimp (ps_fld ho h.pe hs) ?_⟩
  rintro D σ H ⟨F, B, env, As, RD, s, hw, k1, k2, k3, k4⟩
  refine ⟨F, B, env, As, _, s, hw, fun yv H1 F1 As1 a y e1 po1 t1 ⟨ns, xs, he, hn, hl, h1⟩ => ?_⟩
  obtain ⟨F2, a2, po2, t2, _⟩ := in_ok kf po1.so t1
  have po12 := po1.trans (po2.imp fun _ => rfl)
  obtain ⟨v0, A, g1, g2, g3⟩ := po2.so.env.get he
  have rr := g3
  cases rr with
  | @own _ q vs _ A3 hc r =>
    obtain ⟨dx, hq, hl2⟩ := hc
    refine ⟨_, g1, q, C0, dx, _, rfl, hq, cl, na, ?_, ?_⟩
    · rw [List.length_zip, ← hl2, Nat.min_self]; exact hl
    · rw [putF_new hn hl2]
      have nd2 := List.nodup_append.mp t2.nd
      have qA : q ∈ As1.flatten := mem_of_slot g2 (List.mem_cons_self ..)
      have keepA : ∀ x ∈ A3, upd H1 q (.ins C0 dx ((ns ++ [f]).zip (vs ++ [yv]))) x = H1 x := fun x hx => upd_ne fun e => by
        subst e
        have pm := flat_at As1 i _ g2
        have := (List.nodup_append.mp (pm.nodup_iff.mp po2.so.nd)).1
        exact (List.nodup_cons.mp this).1 hx
      have keepa : ∀ x ∈ a2, upd H1 q (.ins C0 dx ((ns ++ [f]).zip (vs ++ [yv]))) x = H1 x := fun x hx => upd_ne fun e => by
        subst e
        exact nd2.2.2 x hx x qA rfl
      have ndA3 : (q :: A3).Nodup := by
        have pm := flat_at As1 i _ g2
        exact (List.nodup_append.mp (pm.nodup_iff.mp po2.so.nd)).1
      obtain ⟨As3, s3, kb, _⟩ := po2.so.write (i := i) (o := .ins C0 dx ((ns ++ [f]).zip (vs ++ [yv]))) (p := q) (A'' := q :: (A3 ++ a2)) (d'' := .obj true (.ins C0 (ns ++ [f])) (xs ++ [inK kf y])) g1 g2 (Foc.root g3) (List.mem_cons_self ..) t2.nd t2.fr t2.nb
        (fun x hx => by
          rcases List.mem_cons.mp hx with rfl | hx
          · exact .inl (List.mem_cons_self ..)
          · rcases List.mem_append.mp hx with z | z
            · exact .inl (List.mem_cons_of_mem _ z)
            · exact .inr z)
        (List.nodup_cons.mpr ⟨fun z => by
          rcases List.mem_append.mp z with z | z
          · exact (List.nodup_cons.mp ndA3).1 z
          · exact nd2.2.2 q z q qA rfl, List.nodup_append.mpr ⟨(List.nodup_cons.mp ndA3).2, nd2.1, fun x hx y hy e => by
            subst e
            exact nd2.2.2 x hy x (mem_of_slot g2 (List.mem_cons_of_mem _ hx)) rfl⟩⟩)
        (.own ⟨dx, upd_same, by simp [hl2]⟩ ((r.frame (Same.refl _) keepA).app (.one (t2.rep.frame (Same.refl _) keepa))))
      exact k1 σ _ F2 As3 _ ⟨po12.ext, s3, fun b hb => (kb b hb).trans (po12.keep b hb), fun _ _ => rfl, rfl⟩ h1
/-- name.f, frozen there, as a value -/
def wFldF (C0 : Addr) (i : Nat) (f : Str) : WE := fun env R => ∃ ns xs j x, env[i]? = some (some (.obj true (.ins C0 ns) xs)) ∧ fIx f ns = some j ∧ xs[j]? = some x ∧ R x.frz (env.set i none)
theorem de_fldF {i : Nat} (cl : Cls X.K C0) (na : NoAttr X.K C0 f) (ho : PE X e (tVar i)) (hb : attributeBase e f X.env (eval e X.env) = eval e X.env := by rfl) : DE false X (.Attribute e f pos) (wFldF C0 i f) := by
  refine ⟨PEimp (pe_fld ho hb) ?_⟩
  rintro σ H Q ⟨F, B, env, As, R, s, ⟨ns, xs, j, x, he, hj, hx, hw⟩, k⟩
  obtain ⟨v, a, h1, h2, s1, t1⟩ := s.take he
  obtain ⟨po, r⟩ := s1.freeze t1
  obtain ⟨q, dx, vs, a', rfl, hq, hl, rr, _⟩ := t1.rep.ins_at s1.same
  obtain ⟨w, a2, hw2, r2, sub⟩ := rr.get_sub hx
  refine ⟨_, h1, q, C0, dx, _, w, rfl, hq, cl, na, fIx_some hj hw2 hl, ?_⟩
  obtain ⟨q2, dx2, vs2, a3, e2, hq2, hl2, rr2, _⟩ := Rep.ins_at (o := false) (ns := ns) (xs := D.frzL xs) r po.so.same
  cases e2
  rw [hq] at hq2
  have ez : ns.zip vs = ns.zip vs2 := by
    have := Option.some.inj hq2
    injection this
  have ev : vs = vs2 := by
    have e1 := congrArg (List.map (·.2)) ez
    rw [List.map_snd_zip (by omega), List.map_snd_zip (by omega)] at e1
    exact e1
  subst ev
  have hx2 : (D.frzL xs)[j]? = some x.frz := by rw [D.frzL_map, List.getElem?_map, hx]; rfl
  obtain ⟨w2, a4, hw3, r4, _⟩ := rr2.get_sub hx2
  rw [hw2] at hw3; cases hw3
  have := r4.fzNil (D.fz_frz x)
  subst this
  exact k w H _ _ [] _ _ ⟨po.ext, po.so, po.keep, fun z => nomatch z⟩ (.fz r4 po.so) hw
end
/-! ### methods -/
section
variable {X : Cx} {CX : CXT} {k : Nat} {f C : Addr} {fd : FuncData} {ps : List Str} {x m : Str} {q pos apos : Pos} {e o : Expr} {es : List Expr} {sp : Sp} {E : XK} {dvs : List V} {dfs : List Value} {ta : TA} {to : TE}
open PySem.Spec PyProof.Rows in
theorem peg_meth {pl : Sem Bool} (G : FnG X.prog X.w X.K X.mg X.base CX k f fd ps sp) (hr : Room k X.A) (hgd : X.A.guards = some []) (ho : PE X o to) (c : Cls X.K C) (hm : Meth X.K C m f) (hb : Binds X.K fd ps dfs) (hd : Vals dvs dfs) (hx : Passes CX X E) (ha : PA X (e :: es) ta)
    (hst : starEach (e :: es) X.env = (false, eval e X.env) :: starEach es X.env := by rfl) (hpl : (backTo pos (starEach es X.env)).any (·.1) = false := by rfl)
    (ht : eval (.Call (.Attribute o m apos) (e :: es) [] pos) X.env = (do
      let ov ← eval o X.env
      standAt apos.atName
      let (f, first) ← holding [ov] (getMethod ov m pl)
      callWith pos f first (backTo pos (starEach (e :: es) X.env)) (backToKw pos (keywordEach [] X.env))) := by rfl) :
    PE X (.Call (.Attribute o m apos) (e :: es) [] pos) (tMeth C m sp dvs E to ta) :=
  ⟨fun pins s σ H Q I h => PySem.W.methodCall_KW (pl := pl) (thn (ho.run pins s σ H _ I h) fun u s1 ⟨y, H1, I1, ry, a, dx, fs, ey, ea, l, q1⟩ => by
    subst ey
    obtain rfl : u = Value.ref a := ry
    exact getmeth_ok I1 ea c hm l (PySem.W.callWith_K (first := [.ref a]) (h₀ := X.base) I.ok.mod.kin hm.kp (thn (ha.run pos pins s1 σ H1 _ I1 q1) fun us s2 ⟨vs, H2, I2, rv, q2⟩ => ⟨I2.kIn, G.run (us := .ref a :: us) (vs := .ref a :: vs) hr hgd hb hd hx I2 (.cons rfl rv) q2⟩) hst hpl)) ht⟩
open PySem.Spec PyProof.Rows in
theorem peg_meth0 {pl : Sem Bool} (G : FnG X.prog X.w X.K X.mg X.base CX k f fd ps sp) (hr : Room k X.A) (hgd : X.A.guards = some []) (ho : PE X o to) (c : Cls X.K C) (hm : Meth X.K C m f) (hb : Binds X.K fd ps dfs) (hd : Vals dvs dfs) (hx : Passes CX X E)
    (ht : eval (.Call (.Attribute o m apos) [] [] pos) X.env = (do
      let ov ← eval o X.env
      standAt apos.atName
      let (f, first) ← holding [ov] (getMethod ov m pl)
      callWith pos f first (backTo pos (starEach [] X.env)) (backToKw pos (keywordEach [] X.env))) := by rfl) :
    PE X (.Call (.Attribute o m apos) [] [] pos) (tMeth C m sp dvs E to tNil) :=
  ⟨fun pins s σ H Q I h => PySem.W.methodCall_KW (pl := pl) (thn (ho.run pins s σ H _ I h) fun u s1 ⟨y, H1, I1, ry, a, dx, fs, ey, ea, l, q1⟩ => by
    subst ey
    obtain rfl : u = Value.ref a := ry
    exact getmeth_ok I1 ea c hm l (PySem.W.callWith_K0 (first := [.ref a]) I1.kIn hm.kp (G.run (us := [.ref a]) (vs := [.ref a]) hr hgd hb hd hx I1 (.cons rfl .nil) q1))) ht⟩
end
/-- name.m(..): the thing in slot i is lent -/
def wMeth (C0 : Addr) (m : Str) (f : WF) (i : Nat) (wc : WC) : WE := fun env R => (∃ d, env[i]? = some (some d) ∧ insD C0 d fun ns _ => fIx m ns = none) ∧ wc env fun is e1 => match takeA e1 (.ref i :: is) with
  | some (ds, e2) => f ds fun r ds' => R r (putA e2 (.ref i :: is) ds')
  | none => False
section
variable {X : Cx} {C0 f : Addr} {fd : FuncData} {k : Nat} {ps : List Str} {m : Str} {q pos apos : Pos} {e o : Expr} {es : List Expr} {w : WF} {wc : WC} {i : Nat}
theorem meth_lift {K : PySem.W.Frag} {w : WF} {wc : WC} {E : XK} {to : TE} (hto : to = tVar i) : ∀ σ H Q, liftE K false (wMeth C0 m w i wc) σ H Q → tMeth C0 m (spD K w) [] E to (liftC K wc) σ H Q := by
  rintro σ H Q ⟨F, B, env, As, R, s, ⟨⟨d, he, hd⟩, hw⟩, k⟩
  subst hto
  obtain ⟨o, ns, xs, rfl, hn⟩ := insD_inv hd
  obtain ⟨v, A, g1, g2, g3⟩ := s.env.get he
  obtain ⟨p, dx, vs, a', rfl, hp, hl, _, _⟩ := g3.ins_at s.same
  refine ⟨.ref p, g1, p, dx, _, rfl, hp, fIx_none hn, F, B, env, As, _, s, hw, fun us H1 F1 As1 a is e1 po1 t1 h1 => ?_⟩
  show spD K w (V.ref p :: (us ++ [])) H1 Q E
  rw [List.append_nil]
  exact call_at po1.so ⟨.ref g1 t1.rep, t1.nd, t1.fr, t1.nb⟩ h1 fun v H' F' As' c r env' po t h => k v H' F' As' c r env' (po1.trans po) t h
theorem de_meth {pl : Sem Bool} (G : FnG X.prog X.w X.K X.mg X.base CX0 k f fd ps (spD X.K w)) (hr : Room k X.A) (hgd : X.A.guards = some []) (ho : PE X o (tVar i)) (c : Cls X.K C0) (hm : Meth X.K C0 m f) (hb : Binds X.K fd ps []) (ha : DC X (e :: es) wc)
    (hst : starEach (e :: es) X.env = (false, eval e X.env) :: starEach es X.env := by rfl) (hpl : (backTo pos (starEach es X.env)).any (·.1) = false := by rfl)
    (ht : eval (.Call (.Attribute o m apos) (e :: es) [] pos) X.env = (do
      let ov ← eval o X.env
      standAt apos.atName
      let (f, first) ← holding [ov] (getMethod ov m pl)
      callWith pos f first (backTo pos (starEach (e :: es) X.env)) (backToKw pos (keywordEach [] X.env))) := by rfl) :
    DE false X (.Call (.Attribute o m apos) (e :: es) [] pos) (wMeth C0 m w i wc) :=
  ⟨PEimp (peg_meth (pl := pl) G hr hgd ho c hm hb .nil pass0 ha.pa hst hpl ht) (meth_lift rfl)⟩
theorem de_meth0 {pl : Sem Bool} (G : FnG X.prog X.w X.K X.mg X.base CX0 k f fd ps (spD X.K w)) (hr : Room k X.A) (hgd : X.A.guards = some []) (ho : PE X o (tVar i)) (c : Cls X.K C0) (hm : Meth X.K C0 m f) (hb : Binds X.K fd ps [])
    (ht : eval (.Call (.Attribute o m apos) [] [] pos) X.env = (do
      let ov ← eval o X.env
      standAt apos.atName
      let (f, first) ← holding [ov] (getMethod ov m pl)
      callWith pos f first (backTo pos (starEach [] X.env)) (backToKw pos (keywordEach [] X.env))) := by rfl) :
    DE false X (.Call (.Attribute o m apos) [] [] pos) (wMeth C0 m w i cNil) := by
  refine ⟨PEimp (peg_meth0 (pl := pl) G hr hgd ho c hm hb .nil pass0 ht) ?_⟩
  rintro σ H Q h
  obtain ⟨v, g, a, dx, fs, e1, e2, e3, F, B, env, As, R, s, hw, k⟩ := meth_lift (wc := cNil) (E := E0) rfl σ H Q h
  exact ⟨v, g, a, dx, fs, e1, e2, e3, k [] H F As [] [] env (.refl s) ⟨.nil, by simpa using s.nd, (fun _ z => nomatch z), (fun _ z => nomatch z)⟩ hw⟩
end
/-! ### making -/
section
variable {X : Cx} {CX : CXT} {k : Nat} {f C : Addr} {fd : FuncData} {ps : List Str} {x : Str} {q pos : Pos} {e : Expr} {es : List Expr} {sp : Sp} {E : XK} {dvs : List V} {dfs : List Value} {ta : TA}
open PySem.Spec PyProof.Rows in
theorem runG_make {pins : List (Addr × Obj)} {σ : L2.St} {H : Hp} {s : Shared} {Q : VK} {us : List Value} {vs : List V} (M : Mk X.K C f) (G : FnG X.prog X.w X.K X.mg X.base CX k f fd ps sp) (hr : Room (k + 1) X.A) (hgd : X.A.guards = some []) (hb : Binds X.K fd ps dfs) (hd : Vals dvs dfs)
    (hx : Passes CX X E) (I : Inv X pins σ H s) (rv : Vals vs us)
    (h : ∀ x dx, H x = none → H dx = none → dx ≠ x → sp (.ref x :: (vs ++ dvs)) (upd (upd H dx (.own x)) x (.ins C dx [])) (fun v H2 => v = .non ∧ Q (.ref x) H2) E) :
    wpAny (model X.prog X.w) X.A (call (.ref C) us) (EP X pins σ Q) X.xe s := by
  have hq := h (s.heap.objs.size + 1) s.heap.objs.size (I.hok.fresh (Nat.le_succ _)) (I.hok.fresh (Nat.le_refl _)) (Nat.ne_of_lt (Nat.lt_succ_self _))
  have I2 := Inv.made (C := C) I
  have r2 : Vals (V.ref (s.heap.objs.size + 1) :: (vs ++ dvs)) (Value.ref (s.heap.objs.size + 1) :: (us ++ dfs)) := .cons rfl (rv.append hd)
  have hl : (Value.ref (s.heap.objs.size + 1) :: us ++ dfs).length = ps.length := by
    have e := r2.length
    rw [G.len _ _ _ _ hq] at e
    exact e.symm
  refine wpAny_call (make_map (f := f) I.kIn M.makes M.init (beq_iff_eq.mp M.fn) (codeAny_mono (G.go _ (hr.make C us []) (by exact hgd) X.stack _ _ (I2.env0.make C us []) ⟨Value.ref (s.heap.objs.size + 1) :: us, []⟩ _ _ (hb _ (Value.ref (s.heap.objs.size + 1) :: us) I2.kIn hl) r2 _ E hq) ?_))
  rintro (e | fl) s' done
  · exact hx pins σ _ _ e s' I2 done
  · cases fl with
    | ret u =>
      obtain ⟨v, H', I3, r3, ev, q3⟩ := I2.after done
      subst ev
      exact ⟨r3, ⟨V.ref (s.heap.objs.size + 1), H', I3, rfl, q3⟩⟩
    | _ => exact done.elim
open PySem.Spec PyProof.Rows in
theorem peg_make (M : Mk X.K C f) (G : FnG X.prog X.w X.K X.mg X.base CX k f fd ps sp) (hr : Room (k + 1) X.A) (hgd : X.A.guards = some []) (hg : Gl X x) (hm : X.mg x = some (.ref C)) (hb : Binds X.K fd ps dfs) (hd : Vals dvs dfs) (hx : Passes CX X E) (ha : PA X (e :: es) ta)
    (hdb : (x == ("__debug__" : Str)) = false := by decide) (he : starEach (e :: es) X.env = (false, eval e X.env) :: starEach es X.env := by rfl) (hpl : (backTo pos (starEach es X.env)).any (·.1) = false := by rfl) :
    PE X (.Call (.Name x q) (e :: es) [] pos) (tMake C sp dvs E ta) :=
  ⟨fun pins s σ H Q I h => wpAny_Call_Name_kw (ld_glob I hg hm (PySem.W.callWith_K (h₀ := X.base) I.ok.mod.kin M.kp (thn (ha.run pos pins s σ H _ I h) fun us s1 ⟨vs, H1, I1, rv, q1⟩ => ⟨I1.kIn, runG_make M G hr hgd hb hd hx I1 rv q1⟩) he hpl) hdb)⟩
end
/-- C(..): __init__ at the new instance, which is the value -/
def wMake (C0 : Addr) (f : WF) (wc : WC) : WE := fun env R => wc env fun is e1 => match takeA (e1 ++ [some (.obj true (.ins C0 []) [])]) (.ref e1.length :: is) with
  | some (ds, e2) => f ds fun r ds' => r = .sc .non ∧ ∃ d, (putA e2 (.ref e1.length :: is) ds')[e1.length]? = some (some d) ∧ R d ((putA e2 (.ref e1.length :: is) ds').take e1.length)
  | none => False
section
variable {K : PySem.W.Frag} {F H : Hp} {B : Addr → Prop} {env : En} {σ : L2.St} {As : List (List Addr)} {d : D} {v : V} {a : List Addr}
theorem EnvR.one_more {d : D} {v : V} {a : List Addr} (r : EnvR K F H env σ As) (x : Rep K F H d v a) : EnvR K F H (env ++ [some d]) (σ ++ [some v]) (As ++ [a]) := by
  induction r with
  | nil => exact .val x .nil
  | emp _ ih => exact .emp ih
  | val y _ ih => exact .val y ih
/-- a slot more, with a value at hand -/
theorem SO.moreV (s : SO K F H B env σ As) (t : TO K F H B As d v a) : SO K F H B (env ++ [some d]) (σ ++ [some v]) (As ++ [a]) := by
  have nd := List.nodup_append.mp t.nd
  have e : (As ++ [a]).flatten = As.flatten ++ a := by simp
  refine ⟨s.same, s.env.one_more t.rep, ?_, ?_, ?_⟩
  · rw [e]
    exact List.nodup_append.mpr ⟨nd.2.1, nd.1, fun x hx y hy z => nd.2.2 y hy x hx z.symm⟩
  · rw [e]
    intro x hx
    exact (List.mem_append.mp hx).elim (s.fr x) (t.fr x)
  · rw [e]
    intro b hb
    obtain ⟨h1, h2, h3⟩ := s.out b hb
    exact ⟨h1, h2, fun z => (List.mem_append.mp z).elim h3 fun q => t.nb b q hb⟩
/-- .. and taken away with its value -/
theorem SO.lessV {n : Nat} (s : SO K F H B env (σ ++ [some v]) As) (hn : n = σ.length) (e : env[n]? = some (some d)) : ∃ a, SO K F H B (env.take n) σ (As.take n) ∧ TO K F H B (As.take n) d v a := by
  obtain ⟨v', a, h1, h2, s1, t1⟩ := s.take e
  subst hn
  rw [List.getElem?_append_right (Nat.le_refl _), Nat.sub_self] at h1
  cases h1
  have hl : σ.length < env.length := (List.getElem?_eq_some_iff.mp e).1
  obtain ⟨s2, fl⟩ := s1.less rfl (by rw [List.getElem?_set_self hl])
  rw [List.take_set_of_le (Nat.le_refl _)] at s2
  rw [List.take_set_of_le (Nat.le_refl _)] at s2 fl
  exact ⟨a, s2, t1.rep, by rw [fl]; exact t1.nd, t1.fr, t1.nb⟩
end
theorem IR.there {K : PySem.W.Frag} {F H : Hp} {σ : L2.St} {is : List AV} {vs : List V} {a : List Addr} (r : IR K F H σ is vs a) : ∀ y ∈ a, ∃ o, H y = some o := by
  induction r with
  | nil => intro y hy; cases hy
  | val x _ ih => intro y hy; exact (List.mem_append.mp hy).elim (x.there y) (ih y)
  | ref _ _ ih => exact ih
theorem TI.there {K : PySem.W.Frag} {F H : Hp} {B : Addr → Prop} {σ : L2.St} {As : List (List Addr)} {is : List AV} {vs : List V} {a : List Addr} (t : TI K F H B σ As is vs a) : ∀ y ∈ a, ∃ o, H y = some o := t.rep.there
theorem make_lift {K : PySem.W.Frag} {C0 : Addr} {w : WF} {wc : WC} : ∀ σ H Q, liftE K false (wMake C0 w wc) σ H Q → tMake C0 (spD K w) [] E0 (liftC K wc) σ H Q := by
  rintro σ H Q ⟨F, B, env, As, R, s, hw, k⟩
  refine ⟨F, B, env, As, _, s, hw, fun us H1 F1 As1 a is e1 po1 t1 h1 x dx hx hdx ne => ?_⟩
  show spD K w (V.ref x :: (us ++ [])) _ _ E0
  rw [List.append_nil]
  -- the instance's dict, then the instance
  have po2 := po1.so.newO (o := .own x) hdx
  have hx2 : upd H1 dx (.own x) x = none := by rw [upd_ne (Ne.symm ne)]; exact hx
  have po3 := po2.so.newO (o := .ins C0 dx []) hx2
  have po23 := po2.trans po3
  have hl : e1.length = σ.length := po1.so.env.len.1
  have there : ∀ y ∈ a, ∃ o, H1 y = some o := t1.there
  have ya : ∀ y ∈ a, y ≠ x ∧ y ≠ dx := fun y hy => by
    obtain ⟨o, e⟩ := there y hy
    exact ⟨fun z => (by rw [z, hx] at e; cases e), fun z => (by rw [z, hdx] at e; cases e)⟩
  have keepa : ∀ y ∈ a, upd (upd H1 dx (.own x)) x (.ins C0 dx []) y = H1 y := fun y hy => (upd_ne (ya y hy).1).trans (upd_ne (ya y hy).2)
  have xAs : x ∉ As1.flatten := po2.so.notAs hx2
  have tn : TO K F1 (upd (upd H1 dx (.own x)) x (.ins C0 dx [])) B As1 (.obj true (.ins C0 []) []) (.ref x) [x] := by
    refine ⟨.own (vs := []) (A := []) ⟨dx, upd_same, rfl⟩ .nil, List.nodup_append.mpr ⟨by simp, po3.so.nd, fun y hy z hz e => ?_⟩, fun y hy => ?_, fun y hy => ?_⟩
    · subst e
      rw [List.mem_singleton.mp hy] at hz
      exact xAs hz
    · rw [List.mem_singleton.mp hy]; exact po2.so.freeF hx2
    · rw [List.mem_singleton.mp hy]; exact po2.so.notB hx2
  have sm := po23.so.moreV tn
  have nd1 := List.nodup_append.mp t1.nd
  have tm : TI K F1 (upd (upd H1 dx (.own x)) x (.ins C0 dx [])) B (σ ++ [some (.ref x)]) (As1 ++ [[x]]) (.ref e1.length :: is) (.ref x :: us) a := by
    refine ⟨.ref (by rw [hl]; simp) ((t1.rep.frame (Same.refl _) keepa).more _), ?_, t1.fr, t1.nb⟩
    rw [show (As1 ++ [[x]]).flatten = As1.flatten ++ [x] by simp]
    refine List.nodup_append.mpr ⟨nd1.1, List.nodup_append.mpr ⟨nd1.2.1, by simp, fun y hy z hz e => ?_⟩, fun y hy z hz e => ?_⟩
    · subst e
      rw [List.mem_singleton.mp hz] at hy
      exact xAs hy
    · subst e
      rcases List.mem_append.mp hz with q | q
      · exact nd1.2.2 y hy y q rfl
      · exact (ya y hy).1 (List.mem_singleton.mp q)
  refine call_at (R := fun r env' => r = .sc .non ∧ ∃ d, env'[e1.length]? = some (some d) ∧ R d (env'.take e1.length)) sm tm h1 fun v H' F' As' c r env' po t h => ?_
  obtain ⟨rfl, d, hd, h⟩ := h
  obtain ⟨rfl, _⟩ := t.rep.sc_inv
  refine ⟨rfl, ?_⟩
  obtain ⟨a4, s4, t4⟩ := po.so.lessV hl hd
  exact k (.ref x) H' F' _ a4 d _ ⟨po1.ext.trans po.ext, s4, fun b hb => (po.keep b hb).trans ((po23.keep b hb).trans (po1.keep b hb)), fun z => nomatch z⟩ t4 h
theorem de_make {X : Cx} {C0 f : Addr} {fd : FuncData} {k : Nat} {ps : List Str} {x : Str} {q pos : Pos} {e : Expr} {es : List Expr} {w : WF} {wc : WC} (M : Mk X.K C0 f) (G : FnG X.prog X.w X.K X.mg X.base CX0 k f fd ps (spD X.K w)) (hr : Room (k + 1) X.A) (hgd : X.A.guards = some [])
    (hg : Gl X x) (hm : X.mg x = some (.ref C0)) (hb : Binds X.K fd ps []) (ha : DC X (e :: es) wc)
    (hdb : (x == ("__debug__" : Str)) = false := by decide) (he : starEach (e :: es) X.env = (false, eval e X.env) :: starEach es X.env := by rfl) (hpl : (backTo pos (starEach es X.env)).any (·.1) = false := by rfl) :
    DE false X (.Call (.Name x q) (e :: es) [] pos) (wMake C0 w wc) := ⟨PEimp (peg_make M G hr hgd hg hm hb .nil pass0 ha.pa hdb he hpl) make_lift⟩
end PL

/-! PLz: dicts: sorted, displays, stores, tests; own things that are walked. -/
namespace PL
open PySem L2
/-! ### sorted(d) -/
theorem each_mk {R : Value → D → Prop} : ∀ {us : List Value} {xs : List D}, us.length = xs.length → (∀ (j : Nat) (v : Value) (x : D), us[j]? = some v → xs[j]? = some x → R v x) → PySem.W.EachIs R us xs
  | [], [], _, _ => .nil
  | u :: us, x :: xs, hl, h => .cons (h 0 u x rfl rfl) (each_mk (by simpa using hl) fun j v y e1 e2 => h (j + 1) v y (by simpa using e1) (by simpa using e2))
  | [], _ :: _, hl, _ => by simp at hl
  | _ :: _, [], hl, _ => by simp at hl
/-- the keys, by data -/
def keyT (k : List Key) : D := .tup (k.map keyD)
def keysD : Sh → List D
  | .dK ks => ks.map keyD
  | .dT ks => ks.map keyT
  | _ => []
theorem paired_get {α β : Type} {R : α → β → Prop} : ∀ {xs : List α} {ys : List β}, Paired R xs ys → ∀ {j : Nat} {x : α}, xs[j]? = some x → ∃ y, ys[j]? = some y ∧ R x y
  | [], _, _, j, x, e => by simp at e
  | _, _, .cons h _, 0, x, e => by simp at e; subst e; exact ⟨_, rfl, h⟩
  | _, _, .cons _ r, j + 1, x, e => by
    obtain ⟨y, h1, h2⟩ := paired_get r (by simpa using e)
    exact ⟨y, by simpa using h1, h2⟩
theorem keyIs_rel {k : Key} {v : Value} (h : keyIs k v = true) : RelV (kV k) v := by
  rcases keyIs_shape h with ⟨i, t, rfl, rfl⟩ | ⟨x, t, rfl, rfl⟩
  · exact ⟨t, rfl⟩
  · exact ⟨t, rfl⟩
section
variable {X : Cx}
def rSortedDic (K : PySem.W.Frag) : List V → Hp → VK → Prop := fun vs H Q => ∃ a xs, vs = [V.ref a] ∧ ((∃ kvs, Rd H a (.dK kvs) ∧ xs = kvs.map fun p => keyD p.1) ∨ (∃ kvs, Rd H a (.dT kvs) ∧ xs = kvs.map fun p => keyT p.1)) ∧ OrdL xs ∧
  ∀ outV p, RepL K H H (sortD xs) outV [] → H p = none → Q (.ref p) (upd H p (.lst outV))
open PySem.Spec PyProof.Rows in
theorem sorted_src {pins : List (Addr × Obj)} {σ : L2.St} {H : Hp} {s : Shared} {Q : VK} {r : Addr} {xs : List D} {T : String} {P : Nat → Value → Prop} {OK : Heap → Prop} (hcalm : X.calm = true) (hu : X.A.units + 64 < cLine) (I : Inv X pins σ H s) {n : Nat} (hn : n = xs.length) (K0 : PySem.W.KdlSrc X.prog X.w T r r n P OK) (hok : OK s.heap) (o : OrdL xs)
    (hP : ∀ (j : Nat) (v : Value) (x : D), P j v → xs[j]? = some x → RV X.K H H v x) (q : ∀ outV p, RepL X.K H H (sortD xs) outV [] → H p = none → Q (.ref p) (upd H p (.lst outV))) :
    wpAny (model X.prog X.w) X.A (call (.builtin "sorted") [.ref r]) (EP X pins σ Q) X.xe s := by
  refine Calls.call_function_entry PyProof.Rows.kind_sorted PyProof.Rows.plain_sorted PyProof.Rows.entry_sorted (PyProof.Rows.args_sorted1 _) ?_
  unfold Builtin.«sorted»
  refine wpAny_bind (m := checkCount "sorted" 1 1 _) (wpAny_pure ?_)
  refine wpAny_bind (PySem.W.kdu_collect (A := X.A.in1) K0 (I.ok.hd hcalm) hok (hn ▸ o.len) fun h' tk acc hk hacc => ?_)
  have hal : acc.toList.length = xs.length := by rw [Array.length_toList, hacc.1, hn]
  have e : PySem.W.EachIs (RV X.K H H) acc.toList xs := each_mk hal fun j v x e1 e2 => hP j v x (hacc.2 j v (by rw [← Array.getElem?_toList]; exact e1)) e2
  have I1 : Inv X pins σ H { s with heap := h', toks := tk } := I.kept hk
  refine wpAny_bind (wpAny_newList ?_ (by rw [hal]; exact o.len))
  have hoL : (h'.push (seqObj "list" acc.toList.toArray 0)).get? h'.objs.size = some (seqObj "list" acc.toList.toArray 0) := Heap.get?_push_size _ rfl
  show wpAny _ _ _ _ _ { s with heap := h'.push (seqObj "list" acc.toList.toArray 0), toks := tk }
  have hp := D.pyL_map xs
  have h1 := o.ali
  have h2 := o.srt
  rw [hp] at h1 h2
  have er := ord_reads I1 (Same.refl H) o.shp e
  refine wpAny_bind (wpAny_holding (PySem.W.list_sort_data (A := X.A.in1) (s := { s with heap := h'.push (seqObj "list" acc.toList.toArray 0), toks := tk }) (enc := D.py) (R := RV X.K H H) hoL e (er.mono fun v b ⟨as, z⟩ => ⟨as, PyProof.Rows.Reads.keeps (fun _ _ z => Heap.get?_push_of_some _ z) z, fun hm => by
    obtain ⟨ob, ho⟩ := PyProof.On.reads_mem_get z _ hm
    exact absurd (Heap.lt_size ho) (Nat.lt_irrefl _)⟩) h1 h2 o.len (fun b hb => by have := o.dep b hb; show X.A.units + 1 + 1 + b.py.depth < cLine; omega) fun out ho eo => ?_))
  obtain ⟨outV, k1, k2⟩ := each_to eo
  obtain ⟨e', he'⟩ := PyProof.Rows.sortedHeap_at (vs := acc.toList) (out := out.toArray) hoL
  have hlen : outV.length ≤ sizeLine := by rw [Paired.length k1, ho]; exact o.len
  refine wpAny_pure ⟨_, rfl, .ref h'.objs.size, upd H h'.objs.size (.lst outV), I1.laid (t' := tk) (fun b u e => ?_) (Nat.le_refl _)
    (show ObjOk X.prog X.w _ _ _ (.lst outV) from ⟨hlen, out, e', k1, he'⟩), rfl, q _ _ k2 (I1.hok.fresh (Nat.le_refl _))⟩
  have hb : b < h'.objs.size := Heap.lt_size e
  rw [PyProof.Rows.sortedHeap_old (Nat.ne_of_lt hb) (by rw [size_push']; exact Nat.lt_succ_of_lt hb)]
  exact Heap.get?_push_of_some _ e
open PySem.Spec PyProof.Rows in
theorem cr_sortedDic (hcalm : X.calm = true) (hu : X.A.units + 64 < cLine) : CallR X (.builtin "sorted") (rSortedDic X.K) := by
  intro pins s σ H vs us Q I r h
  obtain ⟨a, xs, rfl, src, o, q⟩ := h
  rw [Vals.ref1 r]
  rcases src with ⟨kvs, hd, rfl⟩ | ⟨kvs, hd, rfl⟩
  · obtain ⟨z, lo, vs, rel, dd⟩ := dk_rd I.hok hd
    obtain ⟨ep, hat⟩ := dd.dictAt
    have hl : vs.length = (kvs.map fun p => keyD p.1).length := by rw [List.length_map, rel.length]
    refine sorted_src hcalm hu I hl (PySem.W.kdl_dict (knd := mixKind X.prog X.w) (kvs := vs) (ep := ep) lo) hat o (fun j v x ⟨k, y, e1, e2⟩ ex => ?_) q
    have hk : (kvs.map (·.1))[j]? = some k := by rw [rel.keys, List.getElem?_map, e1]; rfl
    rw [List.getElem?_map] at ex hk
    obtain ⟨p, hp, rfl⟩ := Option.map_eq_some_iff.mp ex
    rw [hp] at hk
    cases hk
    exact ⟨kV p.1, keyIs_rel e2, .sc⟩
  · obtain ⟨z, lo, xs, rel, ob, es, ep, ho, hc, hdat, hes, hk, _⟩ := dt_rd I.hok hd
    have hl : es.size = (kvs.map fun p => keyT p.1).length := by rw [List.length_map, Paired.length rel, size_of_entries hes]
    refine sorted_src hcalm hu I hl (PySem.KdlSrc.rawDict (es := es) (ep := ep) lo) ⟨ob, ho, hc, hdat⟩ o (fun j v x ⟨hi, e1⟩ ex => ?_) q
    rw [List.getElem?_map] at ex
    obtain ⟨p, hp, rfl⟩ := Option.map_eq_some_iff.mp ex
    obtain ⟨w, hw, g1, g2, g3⟩ := paired_get rel hp
    have he := entry_at hes j
    rw [hw, Array.getElem?_eq_getElem hi] at he
    have he2 := Option.some.inj he
    subst e1
    rw [he2]
    exact ⟨.ref w.2.1, rfl, .tup (A := []) g2 (by
      have := RepL.sc_of (K := X.K) (F := H) (H := H) (p.1.map kV)
      rwa [List.map_map] at this)⟩
end

section
variable {K : PySem.W.Frag} {F F' H H' : Hp} {B : Addr → Prop} {env : En} {σ : L2.St} {As : List (List Addr)} {v : V} {a : List Addr}
/-- keys read in H are frozen from now on -/
theorem keys_in : ∀ {ds : List D} {vs : List V}, (∀ d ∈ ds, (∃ k, d = keyD k) ∨ ∃ k, d = keyT k) → RepL K H H ds vs [] → ∃ A : List Addr, (∀ x ∈ A, ∃ ws, H x = some (.tup ws)) ∧ ∀ F', (∀ x ∈ A, F' x = H x) → RepL K F' H ds vs []
  | [], _, _, r => by
    obtain ⟨rfl, _⟩ := r.nil_inv
    exact ⟨[], (fun x hx => by cases hx), fun _ _ => .nil⟩
  | d :: ds, _, hd, r => by
    obtain ⟨v, us, A1, A2, rfl, e, r1, r2⟩ := r.cons_inv
    obtain ⟨rfl, rfl⟩ := List.append_eq_nil_iff.mp e.symm
    obtain ⟨A, hA, k⟩ := keys_in (fun x hx => hd x (List.mem_cons_of_mem _ hx)) r2
    rcases hd d (List.mem_cons_self ..) with ⟨key, rfl⟩ | ⟨key, rfl⟩
    · obtain ⟨rfl, _⟩ := r1.sc_inv
      exact ⟨A, hA, fun F' h => .cons (A := []) (B := []) .sc (k F' h)⟩
    · obtain ⟨p, ws, rfl, e1, e2⟩ : ∃ p ws, v = .ref p ∧ H p = some (.tup ws) ∧ RepL K H H (key.map keyD) ws [] := by
        unfold keyT at r1
        cases r1 with
        | tup h r => exact ⟨_, _, rfl, h, r⟩
      rw [show key.map keyD = (key.map kV).map D.sc by rw [List.map_map]; rfl] at e2
      obtain ⟨rfl, _⟩ := e2.sc_inv
      refine ⟨p :: A, fun x hx => (List.mem_cons.mp hx).elim (fun z => z ▸ ⟨_, e1⟩) (hA x), fun F' h => .cons (A := []) (B := []) (.tup (A := []) ((h p (List.mem_cons_self ..)).trans e1) ?_) (k F' fun x hx => h x (List.mem_cons_of_mem _ hx))⟩
      have := RepL.sc_of (K := K) (F := F') (H := H) (key.map kV)
      rwa [List.map_map] at this
theorem mut_tup {p : Addr} {ws : List V} (m : MuA H p) (e : H p = some (.tup ws)) : False := by
  obtain ⟨o, h, z⟩ := m
  rw [e] at h
  cases h
  exact z
/-- tuples that stand in the heap may be held as frozen -/
theorem SO.tups (s : SO K F H B env σ As) {A : List Addr} (hA : ∀ x ∈ A, ∃ ws, H x = some (.tup ws)) : PostE K true F H B env σ As (fzAt F H A) H env As := by
  have e : Same F (fzAt F H A) := fun b o e => by
    by_cases z : b ∈ A
    · rw [fzAt_in z]; exact s.same _ _ e
    · rw [fzAt_out z]; exact e
  refine ⟨e, ⟨fzAt_sub s.same, s.env.frame e fun _ _ => rfl, s.nd, fun x hx => ?_, fun b hb => ?_⟩, fun _ _ => rfl, fun _ => ⟨rfl, rfl, fun _ _ => rfl⟩⟩
  · rw [fzAt_out fun z => ?_]
    · exact s.fr x hx
    · obtain ⟨ws, h⟩ := hA x z
      exact mut_tup (s.env.mut x hx) h
  · obtain ⟨h1, h2, h3⟩ := s.out b hb
    refine ⟨?_, h2, h3⟩
    rw [fzAt_out fun z => ?_]
    · exact h1
    · obtain ⟨ws, h⟩ := hA b z
      exact mut_tup h2 h
/-- a dict by scalars, its values scalars -/
def dctK (o : Bool) (kvs : List (Key × V)) : D := .obj o (.dK (kvs.map (·.1))) (kvs.map fun p => D.sc p.2)
theorem dctK_cell {o : Bool} {kvs : List (Key × V)} (r : Rep K F H (dctK o kvs) v a) (s : Same F H) : ∃ q, v = .ref q ∧ H q = some (.dK kvs) ∧ (o = true → a = [q]) := by
  have vals : ∀ {ws : List V} {A : List Addr}, RepL K F H (kvs.map fun p => D.sc p.2) ws A → ws = kvs.map (·.2) ∧ A = [] := fun {ws A} r => by
    have r : RepL K F H ((kvs.map (·.2)).map D.sc) ws A := by rw [List.map_map]; exact r
    exact r.sc_inv
  unfold dctK at r
  cases r with
  | own hc r =>
    obtain ⟨e1, e2⟩ := vals r
    exact ⟨_, rfl, by have := hc.1; rw [e1, zip_fs] at this; exact this, fun _ => by rw [e2]⟩
  | frz hc r =>
    obtain ⟨e1, e2⟩ := vals r
    exact ⟨_, rfl, by have := s _ _ hc.1; rw [e1, zip_fs] at this; exact this, fun z => nomatch z⟩
theorem dctD_cell {o : Bool} {kvs : List (List Key × V)} (r : Rep K F H (dctD o kvs) v a) (s : Same F H) : ∃ q, v = .ref q ∧ H q = some (.dT kvs) ∧ (o = true → a = [q]) := by
  have vals : ∀ {ws : List V} {A : List Addr}, RepL K F H (kvs.map fun p => D.sc p.2) ws A → ws = kvs.map (·.2) ∧ A = [] := fun {ws A} r => by
    have r : RepL K F H ((kvs.map (·.2)).map D.sc) ws A := by rw [List.map_map]; exact r
    exact r.sc_inv
  unfold dctD at r
  cases r with
  | own hc r =>
    obtain ⟨e1, e2⟩ := vals r
    exact ⟨_, rfl, by have := hc.1; rw [e1, zip_fs] at this; exact this, fun _ => by rw [e2]⟩
  | frz hc r =>
    obtain ⟨e1, e2⟩ := vals r
    exact ⟨_, rfl, by have := s _ _ hc.1; rw [e1, zip_fs] at this; exact this, fun z => nomatch z⟩
theorem dctK_own {kvs : List (Key × V)} {q : Addr} (h : H q = some (.dK kvs)) : Rep K F H (dctK true kvs) (.ref q) [q] := by
  refine .own (vs := kvs.map (·.2)) (A := []) (show CellO H (.dK (kvs.map (·.1))) q (kvs.map (·.2)) from ⟨by rw [zip_fs]; exact h, by simp⟩) ?_
  have := RepL.sc_of (K := K) (F := F) (H := H) (kvs.map (·.2))
  rwa [List.map_map] at this
theorem dctD_own {kvs : List (List Key × V)} {q : Addr} (h : H q = some (.dT kvs)) : Rep K F H (dctD true kvs) (.ref q) [q] := by
  refine .own (vs := kvs.map (·.2)) (A := []) (show CellO H (.dT (kvs.map (·.1))) q (kvs.map (·.2)) from ⟨by rw [zip_fs]; exact h, by simp⟩) ?_
  have := RepL.sc_of (K := K) (F := F) (H := H) (kvs.map (·.2))
  rwa [List.map_map] at this
def rdSortedDic : RDA := fun ds R => (∃ o kvs, ds = [dctK o kvs] ∧ OrdL (kvs.map fun p => keyD p.1) ∧ R (.lst true (sortD (kvs.map fun p => keyD p.1)))) ∨
  (∃ o kvs, ds = [dctD o kvs] ∧ OrdL (kvs.map fun p => keyT p.1) ∧ R (.lst true (sortD (kvs.map fun p => keyT p.1))))
theorem sSortedDic : SndA K (rSortedDic K) rdSortedDic := by
  intro F H B env σ As ds vs a R Q s r h k
  have fin : ∀ {xs : List D} {outV : List V} {p : Addr}, (∀ d ∈ xs, (∃ k, d = keyD k) ∨ ∃ k, d = keyT k) → R (.lst true (sortD xs)) → RepL K H H (sortD xs) outV [] → H p = none → Q (.ref p) (upd H p (.lst outV)) := fun {xs outV p} hk hR ro hp => by
    obtain ⟨A, hA, z⟩ := keys_in (fun d hd => hk d ((sortD_perm xs).mem_iff.mp hd)) ro
    have po := s.tups hA
    exact out_lst po.so (z _ fun x hx => fzAt_in hx) hR (fun v' H' F' c y po2 t2 h2 => k v' H' F' c y (po.trans po2) t2 h2) p hp
  rcases h with ⟨o, kvs, rfl, ho, hR⟩ | ⟨o, kvs, rfl, ho, hR⟩
  · obtain ⟨v, rfl, a', r⟩ := r.one_inv'
    obtain ⟨q, rfl, hq, _⟩ := dctK_cell r s.same
    exact ⟨q, _, rfl, .inl ⟨kvs, .inl hq, rfl⟩, ho, fun outV p ro hp => fin (fun d hd => by
      obtain ⟨x, _, rfl⟩ := List.mem_map.mp hd
      exact .inl ⟨_, rfl⟩) hR ro hp⟩
  · obtain ⟨v, rfl, a', r⟩ := r.one_inv'
    obtain ⟨q, rfl, hq, _⟩ := dctD_cell r s.same
    exact ⟨q, _, rfl, .inr ⟨kvs, .inl hq, rfl⟩, ho, fun outV p ro hp => fin (fun d hd => by
      obtain ⟨x, _, rfl⟩ := List.mem_map.mp hd
      exact .inr ⟨_, rfl⟩) hR ro hp⟩
/-! ### k in d, d[k] -/
def rInK (neg : Bool) : R2 := fun x y H Q => ∃ a o, y = .ref a ∧ DGet H a x o ∧ Q (.bl (if neg = true then !o.isSome else o.isSome)) H
theorem op_inK {X : Cx} (hu : X.A.units + 1 < cLine) : OpR X (compareOp .In) (rInK false) := by
  intro pins s σ H x y u w Q I rx ry h
  obtain ⟨a, o, rfl, g, q⟩ := h
  cases ry
  exact d_in hu I g rx fun s' I' => ⟨.bl o.isSome, H, I', rfl, q⟩
theorem op_notInK {X : Cx} (hu : X.A.units + 1 < cLine) : OpR X (compareOp .NotIn) (rInK true) := by
  intro pins s σ H x y u w Q I rx ry h
  obtain ⟨a, o, rfl, g, q⟩ := h
  cases ry
  exact d_notIn hu I g rx fun s' I' => ⟨.bl (!o.isSome), H, I', rfl, q⟩
def rdInK (neg : Bool) : RD2 := fun x y R => ∃ o kvs key, y = dctK o kvs ∧ x = keyD key ∧ R (.bl (if neg = true then !(valV kvs key).isSome else (valV kvs key).isSome))
theorem sInK {neg : Bool} : Snd2 K (rInK neg) (rdInK neg) := by
  intro F H B env σ As x y v u a b R Q s rx ry h k
  obtain ⟨o, kvs, key, rfl, rfl, h⟩ := h
  obtain ⟨rfl, _⟩ := rx.sc_inv
  obtain ⟨q, rfl, hq, _⟩ := dctK_cell ry s.same
  exact ⟨q, _, rfl, .inl ⟨kvs, key, .inl hq, rfl, rfl⟩, out_sc s h k⟩
def rIxK : R2 := fun x y H Q => ∃ a kvs key v, x = .ref a ∧ y = kV key ∧ H a = some (.dK kvs) ∧ valV kvs key = some v ∧ Q v H
open PySem.Spec PyProof.Rows in
theorem ix_K {X : Cx} : IxR X rIxK := by
  intro value slice pins s σ H x y v u Q I rx ry h hs
  obtain ⟨a, kvs, key, z, rfl, rfl, e, l, q⟩ := h
  cases rx
  obtain ⟨_, hd, vs, rel, dd⟩ := dk_of I.hok e
  obtain ⟨w', hw, rw'⟩ := RelO.some_of (v := z) (o := valueAt vs key) (by rw [← l]; exact rel.val key)
  exact subscriptTail_builtinR (x := w') dd.typeIs PySem.F.slot_dict_getitem.lookup (wpAny_getItem_of (kV_is ry) dd.mapOf hw ⟨rfl, z, H, I.tok _, rw', q⟩) hs
def rdIxK : RD2 := fun x y R => ∃ o kvs key v, x = dctK o kvs ∧ y = keyD key ∧ valV kvs key = some v ∧ R (.sc v)
theorem sIxK : Snd2 K rIxK rdIxK := by
  intro F H B env σ As x y v u a b R Q s rx ry h k
  obtain ⟨o, kvs, key, w, rfl, rfl, l, h⟩ := h
  obtain ⟨rfl, _⟩ := ry.sc_inv
  obtain ⟨q, rfl, hq, _⟩ := dctK_cell rx s.same
  exact ⟨q, kvs, key, w, rfl, rfl, hq, l, out_sc s h k⟩
end

/-! ### {}, {k: v} -/
def wDNewK : WE := fun env R => R (dctK true []) env
def wDNewT : WE := fun env R => R (dctD true []) env
def wDD1 (wk wv : WE) : WE := fun env R => wk env fun x e1 => wv e1 fun y e2 => ∃ key v, x = keyD key ∧ y = .sc v ∧ R (dctK true [(key, v)]) e2
section
variable {X : Cx} {p : Bool} {kp : List Nat} {e a b o kx vx : Expr} {we wi wk wv : WE} {wb : WB} {pos : Pos}
theorem de_dnewK : DE p X (.Dict [] [] pos) wDNewK := by
  refine ⟨PEimp pe_dnewK ?_⟩
  rintro σ H Q ⟨F, B, env, As, R, s, hw, k⟩ q hq
  refine k _ _ F As [q] _ env ((s.newO hq).imp fun _ => rfl) ⟨dctK_own (kvs := []) upd_same, ?_, ?_, ?_⟩ hw
  · exact List.nodup_cons.mpr ⟨s.notAs hq, s.nd⟩
  · intro x hx; rw [List.mem_singleton.mp hx]; exact s.freeF hq
  · intro x hx; rw [List.mem_singleton.mp hx]; exact s.notB hq
theorem de_dnewT : DE p X (.Dict [] [] pos) wDNewT := by
  refine ⟨PEimp pe_dnewT ?_⟩
  rintro σ H Q ⟨F, B, env, As, R, s, hw, k⟩ q hq
  refine k _ _ F As [q] _ env ((s.newO hq).imp fun _ => rfl) ⟨dctD_own (kvs := []) upd_same, ?_, ?_, ?_⟩ hw
  · exact List.nodup_cons.mpr ⟨s.notAs hq, s.nd⟩
  · intro x hx; rw [List.mem_singleton.mp hx]; exact s.freeF hq
  · intro x hx; rw [List.mem_singleton.mp hx]; exact s.notB hq
theorem de_dd1 (hk : DE false X kx wk) (hv : DE false X vx wv) : DE false X (.Dict [some kx] [vx] pos) (wDD1 wk wv) := by
  refine ⟨PEimp (pe_disp (pps_cons hk.pe hv.pe pps_nil) rfl rfl (by simp) (show 1 ≤ 15 by decide)) ?_⟩
  rintro σ H Q ⟨F, B, env, As, R, s, hw, k⟩ q hq
  have s1 := s.hold (o := .dK []) hq
  refine ⟨F, Bx B [q], env, As, _, s1, hw, fun v1 H1 F1 As1 a x e1 po1 t1 h1 => ?_⟩
  refine ⟨F1, Bx B [q], e1, As1, _, po1.so, h1, fun v2 H2 F2 As2 b y e2 po2 t2 ⟨key, v, ex, ey, h2⟩ => ?_⟩
  subst ex ey
  obtain ⟨rfl, _⟩ := t1.rep.sc_inv
  obtain ⟨rfl, _⟩ := t2.rep.sc_inv
  have po := po1.trans po2
  have hq2 : H2 q = some (.dK []) := (po.keep q (.inr (List.mem_singleton.mpr rfl))).trans upd_same
  have oq := po.so.out q (.inr (List.mem_singleton.mpr rfl))
  refine ⟨hq2, [(key, v2)], rfl, show 1 ≤ 15 by decide, ?_⟩
  show Q (.ref q) (upd H2 q (.dK [(key, v2)]))
  have nB : ∀ b, B b → b ≠ q := fun b hb z => s.notB hq (z ▸ hb)
  refine k _ _ F2 As2 [q] _ e2 ⟨po.ext, (po.so.updB (.inr (List.mem_singleton.mpr rfl))).pop, fun b hb => (upd_ne (nB b hb)).trans ((po.keep b (.inl hb)).trans (upd_ne (nB b hb))), fun z => nomatch z⟩ ⟨dctK_own (kvs := [(key, v2)]) upd_same, ?_, ?_, ?_⟩ h2
  · exact List.nodup_cons.mpr ⟨oq.2.2, po.so.nd⟩
  · intro x hx; rw [List.mem_singleton.mp hx]; exact oq.1
  · intro x hx; rw [List.mem_singleton.mp hx]; exact s.notB hq
/-! ### d[k] = v -/
def sDPutK (i : Nat) (we wi : WE) : WS := fun env RD => we env fun y e1 => (∃ d, e1[i]? = some (some d)) ∧ wi e1 fun x e2 => ∃ kvs key v, e2[i]? = some (some (dctK true kvs)) ∧ x = keyD key ∧ y = .sc v ∧ kvs.length < sizeLine ∧ RD.nx (e2.set i (some (dctK true (putK kvs key v))))
def sDPutT (i : Nat) (we wi : WE) : WS := fun env RD => we env fun y e1 => (∃ d, e1[i]? = some (some d)) ∧ wi e1 fun x e2 => ∃ kvs key v, e2[i]? = some (some (dctD true kvs)) ∧ x = keyT key ∧ y = .sc v ∧ kvs.length < sizeLine ∧ RD.nx (e2.set i (some (dctD true (putK kvs key v))))
theorem ds_dputK {i : Nat} {pos' : Pos} (hu : X.A.units + 1 < cLine) (ho : PE X o (tVar i)) (hi : DE p X b wi) (he : DE p X e we) (hs : swapsWith e (some (.Subscript o b pos')) pos.line X.env = pure false := by rfl) : DS kp X (.Assign [.Subscript o b pos'] e pos) (sDPutK i we wi) := by
  refine ⟨PSimp (ps_dput hu ho hi.pe he.pe hs) ?_⟩
  rintro D σ H ⟨F, B, env, As, RD, s, hw, k1, k2, k3, k4⟩
  refine ⟨F, B, env, As, _, s, hw, fun yv H1 F1 As1 ay y e1 po1 t1 ⟨⟨d0, hd0⟩, h1⟩ => ?_⟩
  obtain ⟨v0, _, g0, _, _⟩ := po1.so.env.get hd0
  refine ⟨v0, g0, F1, Bx B ay, e1, As1, _, po1.so.push t1, h1, fun xv H2 F2 As2 ax x e2 po2 t2 ⟨kvs, key, v, hd, ex, ey, hl, h2⟩ => ?_⟩
  subst ex ey
  obtain ⟨rfl, _⟩ := t1.rep.sc_inv
  obtain ⟨rfl, _⟩ := t2.rep.sc_inv
  have po12 := po1.trans po2.pop
  obtain ⟨v1, A, g1, g2, g3⟩ := po2.so.env.get hd
  rw [g0] at g1; cases g1
  obtain ⟨q, rfl, hq, eA⟩ := dctK_cell g3 po2.so.same
  have eA := eA rfl
  subst eA
  refine ⟨q, _, rfl, .k hq hl, ?_⟩
  obtain ⟨As3, s3, kb, _⟩ := po12.so.write (i := i) (o := .dK (putK kvs key yv)) (p := q) (A'' := [q]) (a := []) (d'' := dctK true (putK kvs key yv)) g0 g2 (Foc.root g3) (List.mem_cons_self ..) (by simpa using po12.so.nd) (fun _ z => nomatch z) (fun _ z => nomatch z) (fun x hx => .inl hx) (by simp) (dctK_own upd_same)
  exact k1 σ _ F2 As3 _ ⟨po12.ext, s3, fun b hb => (kb b hb).trans (po12.keep b hb), fun _ _ => rfl, rfl⟩ h2
theorem ds_dputT {i : Nat} {pos' : Pos} (hu : X.A.units + 1 < cLine) (ho : PE X o (tVar i)) (hi : DE p X b wi) (he : DE p X e we) (hs : swapsWith e (some (.Subscript o b pos')) pos.line X.env = pure false := by rfl) : DS kp X (.Assign [.Subscript o b pos'] e pos) (sDPutT i we wi) := by
  refine ⟨PSimp (ps_dput hu ho hi.pe he.pe hs) ?_⟩
  rintro D σ H ⟨F, B, env, As, RD, s, hw, k1, k2, k3, k4⟩
  refine ⟨F, B, env, As, _, s, hw, fun yv H1 F1 As1 ay y e1 po1 t1 ⟨⟨d0, hd0⟩, h1⟩ => ?_⟩
  obtain ⟨v0, _, g0, _, _⟩ := po1.so.env.get hd0
  refine ⟨v0, g0, F1, Bx B ay, e1, As1, _, po1.so.push t1, h1, fun xv H2 F2 As2 ax x e2 po2 t2 ⟨kvs, key, v, hd, ex, ey, hl, h2⟩ => ?_⟩
  subst ex ey
  obtain ⟨rfl, _⟩ := t1.rep.sc_inv
  obtain ⟨pk, us, rfl, e1, r1⟩ := t2.rep.tup_at po2.so.same
  rw [show key.map keyD = (key.map kV).map PL.D.sc by rw [List.map_map]; rfl] at r1
  obtain ⟨rfl, _⟩ := r1.sc_inv
  have po12 := po1.trans po2.pop
  obtain ⟨v1, A, g1, g2, g3⟩ := po2.so.env.get hd
  rw [g0] at g1; cases g1
  obtain ⟨q, rfl, hq, eA⟩ := dctD_cell g3 po2.so.same
  have eA := eA rfl
  subst eA
  refine ⟨q, _, rfl, .t hq e1 hl, ?_⟩
  obtain ⟨As3, s3, kb, _⟩ := po12.so.write (i := i) (o := .dT (putK kvs key yv)) (p := q) (A'' := [q]) (a := []) (d'' := dctD true (putK kvs key yv)) g0 g2 (Foc.root g3) (List.mem_cons_self ..) (by simpa using po12.so.nd) (fun _ z => nomatch z) (fun _ z => nomatch z) (fun x hx => .inl hx) (by simp) (dctD_own upd_same)
  exact k1 σ _ F2 As3 _ ⟨po12.ext, s3, fun b hb => (kb b hb).trans (po12.keep b hb), fun _ _ => rfl, rfl⟩ h2
/-! ### a value that is read where it lies, frozen -/
def wBv (wb : WB) : WE := fun env R => wb env fun d => d.fz = true ∧ R d env
theorem de_bv (h : DB X e wb) : DE p X e (wBv wb) := by
  refine ⟨PEimp h.pe ?_⟩
  rintro σ H Q ⟨F, B, env, As, R, s, hw, k⟩
  refine ⟨F, B, env, As, _, s, hw, fun v H' F' a d po t ⟨hz, h⟩ => ?_⟩
  have := t.rep.fzNil hz
  subst this
  exact k v H' F' As [] d env (po.imp fun _ => rfl) (.fz t.rep po.so) h
end

/-! ### {name: v for ..}, the name bound to a tuple -/
/-- the turns, by data -/
def dcompN (vs : List Nat) (g : WG) (wt : WT) (wk : WE) (wv : WE) : List D → List (List Key × V) → En → (List (List Key × V) → En → Prop) → Prop
  | [], acc, env, R => R acc env
  | x :: xs, acc, env, R => g x (wipeE none vs env) fun e1 => wt e1 fun b e2 => if b = true then wk e2 fun d e3 => ∃ k, d = keyT k ∧ wv e3 fun y e4 => ∃ v, y = .sc v ∧ acc.length < sizeLine ∧ dcompN vs g wt wk wv xs (putK acc k v) e4 R
    else dcompN vs g wt wk wv xs acc e2 R
def wDcN (wi : WI) (vs : List Nat) (g : WG) (wt : WT) (wk : WE) (wv : WE) : WE := fun env R => wi env fun items e1 => dcompN vs g wt wk wv items [] e1 fun acc e2 => R (dctD true acc) (restE e1 vs (wipeE none vs e2))
section
variable {K : PySem.W.Frag} {F H : Hp} {B : Addr → Prop} {env : En} {σ : L2.St} {As : List (List Addr)}
theorem dcN_lift {wi : WI} {vs : List Nat} {g : WG} {wt : WT} {wk : WE} {wv : WE} {ti : L2.TI} {tg : TG} {tt : TT} {ta : TE} {tv : TE} {n : Nat} (hi : ∀ σ H Q, liftI K false wi σ H Q → ti σ H Q)
    (hg : ∀ v σ H Q, liftG K (outK n vs) g v σ H Q → tg v σ H Q) (ht : ∀ σ H Q, liftT K false wt σ H Q → tt σ H Q) (hk : ∀ σ H Q, liftE K false wk σ H Q → ta σ H Q) (hv : ∀ σ H Q, liftE K false wv σ H Q → tv σ H Q) :
    ∀ (σ : L2.St) H Q, σ.length = n → liftE K false (wDcN wi vs g wt wk wv) σ H Q → tDcP (.dT []) stT ti tg tt ta tv vs σ H Q := by
  rintro σ H Q hn ⟨F, B, env, As, R, s, hw, k⟩
  refine hi σ H _ ⟨F, B, env, As, _, s, hw, fun J H1 F1 As1 e1 items po1 it h1 D hD => ?_⟩
  refine ⟨fun i m H' => m = items.length - i ∧ i ≤ items.length ∧ ∃ F' As' env' acc, Same F1 F' ∧ SO K F' H' (Bx B [D]) (wipeE none vs env') (wipeE none vs σ) As' ∧ (∀ b, B b → H' b = H1 b) ∧ H' D = some (.dT acc) ∧
      dcompN vs g wt wk wv (items.drop i) acc env' (fun acc e2 => R (dctD true acc) (restE e1 vs (wipeE none vs e2))), ⟨items.length, rfl, Nat.zero_le _, ?_⟩, ?_⟩
  · exact ⟨F1, _, e1, [], Same.refl _, (po1.so.hold hD).wipe vs, fun b hb => upd_ne fun z => po1.so.notB hD (z ▸ hb), upd_same, h1⟩
  · rintro i m H2 ⟨rfl, hle, F2, As2, e2, acc, sm, s2, kb, hD2, h2⟩
    by_cases hlt : i < items.length
    · refine .inr ⟨it.go i H2 (sm.trans s2.same) hlt, fun H' => ∃ F' As' env' acc, Same F1 F' ∧ SO K F' H' (Bx B [D]) (wipeE none vs env') (wipeE none vs σ) As' ∧ (∀ b, B b → H' b = H1 b) ∧ H' D = some (.dT acc) ∧
        dcompN vs g wt wk wv (items.drop (i + 1)) acc env' (fun acc e2 => R (dctD true acc) (restE e1 vs (wipeE none vs e2))), fun H' h => ⟨items.length - (i + 1), by omega, rfl, hlt, h⟩, fun x H3 y => ?_⟩
      rw [List.drop_eq_getElem_cons hlt] at h2
      obtain ⟨F3, po3, t3⟩ := it.item s2 sm y (List.getElem?_eq_getElem hlt)
      rw [wipe_eq]
      have same : ∀ {σ4 H4 F4 As4 e4}, PostS K (outK n vs) F2 H2 (Bx B [D]) (wipeE none vs σ) F4 H4 e4 σ4 As4 → wipeE none vs σ4 = wipeE none vs σ := fun {σ4 _ _ _ _} po => by
        have hl4 : σ4.length = σ.length := by rw [po.len, wipeE_len]
        refine List.ext_getElem? fun j => ?_
        by_cases hj : j ∈ vs
        · by_cases hjl : j < σ.length
          · rw [wipeE_in none hj (by omega), wipeE_in none hj hjl]
          · rw [List.getElem?_eq_none (by rw [wipeE_len]; omega), List.getElem?_eq_none (by rw [wipeE_len]; omega)]
        · rw [wipeE_out none hj, wipeE_out none hj]
          by_cases hjl : j < n
          · rw [po.kp j (outK_mem.mpr ⟨hjl, hj⟩), wipeE_out none hj]
          · rw [List.getElem?_eq_none (by omega), List.getElem?_eq_none (by omega)]
      have back : ∀ {σ4 H4 F4 As4 e4}, PostS K (outK n vs) F2 H2 (Bx B [D]) (wipeE none vs σ) F4 H4 e4 σ4 As4 → SO K F4 H4 (Bx B [D]) (wipeE none vs e4) (wipeE none vs σ) (wipeE [] vs As4) := fun po => by
        rw [← same po]; exact po.so.wipe vs
      refine hg x _ H3 _ ⟨F3, Bx B [D], _, As2, _, [], _, po3.so, t3, h2, fun σ4 H4 F4 As4 e4 po4 h4 => ?_⟩
      have po24 := (po3.ps (kp := outK n vs)).trans po4
      refine ⟨by rw [wipe_eq, same po24], ?_⟩
      refine ht σ4 H4 _ ⟨F4, Bx B [D], e4, As4, _, po4.so, h4, fun b H5 F5 As5 e5 po5 h5 => ?_⟩
      have po25 := po24.trans (po5.ps (kp := outK n vs))
      cases b with
      | false =>
        exact ⟨F5, _, e5, acc, sm.trans po25.ext, back po25, fun b hb => (po25.keep b (.inl hb)).trans (kb b hb), (po25.keep D (.inr (List.mem_singleton.mpr rfl))).trans hD2, h5⟩
      | true =>
        refine hk σ4 H5 _ ⟨F5, Bx B [D], e5, As5, _, po5.so, h5, fun ks H6 F6 As6 ak ds e6 po6 t6 ⟨kk, hds, h6⟩ => ?_⟩
        subst hds
        have po26 := po25.trans (po6.ps (kp := outK n vs))
        obtain ⟨p, us, rfl, hp0, rk⟩ : ∃ p us, ks = .ref p ∧ F6 p = some (.tup us) ∧ RepL K F6 H6 (kk.map keyD) us ak := by
          have r := t6.rep
          unfold keyT at r
          cases r with
          | tup h r => exact ⟨_, _, rfl, h, r⟩
        rw [show kk.map keyD = (kk.map kV).map PL.D.sc by rw [List.map_map]; rfl] at rk
        obtain ⟨rfl, _⟩ := rk.sc_inv
        refine hv σ4 _ _ ⟨_, _, e6, As6, _, po6.so, h6, fun yv H7 F7 As7 ay y e7 po7 t7 ⟨v, hy, hl2, h7⟩ => ?_⟩
        subst hy
        obtain ⟨rfl, rfl⟩ := t7.rep.sc_inv
        have hp7 : H7 p = some (.tup (kk.map kV)) := po7.so.same _ _ (po7.ext _ _ hp0)
        have keep7 : ∀ b, Bx B [D] b → H7 b = H2 b := fun b hb => (po7.keep b hb).trans (po26.keep b hb)
        have po67 : PostS K (outK n vs) F2 H2 (Bx B [D]) (wipeE none vs σ) F7 H7 e7 σ4 As7 := ⟨po26.ext.trans po7.ext, po7.so, keep7, po26.kp, po26.len⟩
        have hD7 : H7 D = some (.dT acc) := (keep7 D (.inr (List.mem_singleton.mpr rfl))).trans hD2
        refine ⟨acc, kk, p, rfl, hp7, hD7, hl2, F7, _, e7, putK acc kk yv, sm.trans po67.ext, (back po67).updB (.inr (List.mem_singleton.mpr rfl)), fun b hb => ?_, upd_same, h7⟩
        have nb : b ≠ D := fun z => po1.so.notB hD (z ▸ hb)
        exact (upd_ne nb).trans ((keep7 b (.inl hb)).trans (kb b hb))
    · have e : i = items.length := by omega
      subst e
      rw [List.drop_length] at h2
      refine .inl ⟨it.stop _ H2 (sm.trans s2.same) (Nat.le_refl _), ?_⟩
      have nE : ∀ i : Nat, (wipeE none vs e2)[i]? ≠ some none → σ[i]? = (wipeE none vs σ)[i]? := fun j hj => by
        by_cases hv : j ∈ vs
        · by_cases hl : j < σ.length
          · exact absurd (wipeE_in none hv (by have := s2.env.len.1; rw [wipeE_len, wipeE_len] at this; omega)) hj
          · rw [List.getElem?_eq_none (by omega), List.getElem?_eq_none (by rw [wipeE_len]; omega)]
        · rw [wipeE_out none hv]
      have oD := s2.out D (.inr (List.mem_singleton.mpr rfl))
      have s3 : SO K F2 H2 B (wipeE none vs e2) σ As2 := ⟨s2.same, s2.env.slots (wipeE_len none vs σ).symm nE, s2.nd, s2.fr, s2.pop.out⟩
      obtain ⟨As3, s4, sub⟩ := po1.so.rest sm s3 vs
      refine k (.ref D) H2 F2 As3 [D] _ _ ⟨po1.ext.trans sm, s4, fun b hb => (kb b hb).trans (po1.keep b hb), fun z => Bool.noConfusion z⟩ ⟨?_, ?_, fun x hx => ?_, fun x hx => ?_⟩ h2
      · refine .own (vs := acc.map (·.2)) (A := []) (show CellO H2 (.dT (acc.map (·.1))) D (acc.map (·.2)) from ⟨by rw [zip_fs]; exact hD2, by simp⟩) ?_
        have := RepL.sc_of (K := K) (F := F2) (H := H2) (acc.map (·.2))
        rw [List.map_map] at this
        exact this
      · exact List.nodup_append.mpr ⟨by simp, s4.nd, fun x hx z hz e => by
          subst e
          rw [List.mem_singleton.mp hx] at hz
          exact oD.2.2 (sub _ hz)⟩
      · rw [List.mem_singleton.mp hx]; exact oD.1
      · rw [List.mem_singleton.mp hx]; exact po1.so.notB hD
end
section
variable {X : Cx} {kx vx tg iter : Expr} {ifs : List Expr} {scope : Scope} {own : List (Str × Nat)} {pos : Pos} {wi : WI} {g : WG} {wt : WT} {wk : WE} {wv : WE}
theorem de_dcN (hu : X.A.units < cLine) (hc : X.calm = true) (hN : X.N.Nodup) (hi : DI false X tg iter wi) (ok : BlkOk X.N X.env.scope scope own)
    (hg : ∀ (s : Shared) (H : Hp) (C : Addr) (cl : List (Str × Addr)) (fp : List Addr), DG (outK X.N.length (own.map (·.2))) (X.blk s H scope (compEnvC scope cl C X.env) fp) tg g)
    (ht : ∀ (s : Shared) (H : Hp) (C : Addr) (cl : List (Str × Addr)) (fp : List Addr), DTs false (X.blk s H scope (compEnvC scope cl C X.env) fp) ifs wt)
    (hk : ∀ (s : Shared) (H : Hp) (C : Addr) (cl : List (Str × Addr)) (fp : List Addr), DE false (X.blk s H scope (compEnvC scope cl C X.env) fp) kx wk)
    (he : ∀ (s : Shared) (H : Hp) (C : Addr) (cl : List (Str × Addr)) (fp : List Addr), DE false (X.blk s H scope (compEnvC scope cl C X.env) fp) vx wv) (hs : ∀ x, foldedSetIterable iter X.env x = pure x := by intro _; rfl) :
    DE false X (.DictComp kx vx [⟨tg, iter, ifs, 0⟩] scope pos) (wDcN wi (own.map (·.2)) g wt wk wv) :=
  ⟨PEimpN (pe_dcP (o0 := .dT []) (g := liftG X.K (outK X.N.length (own.map (·.2))) g) (tt := liftT X.K false wt) (tk := liftE X.K false wk) (tv := liftE X.K false wv) (stT_ok hu) (fun h hb => dt_empty h hb) hc hN hi.pi ok
    (fun s H C cl fp => (hg s H C cl fp).pg) (fun s H C cl fp => (ht s H C cl fp).pt) (fun s H C cl fp => (hk s H C cl fp).pe) (fun s H C cl fp => (he s H C cl fp).pe) hs) fun σ H Q hn h =>
    dcN_lift (fun _ _ _ h => h) (fun _ _ _ _ h => h) (fun _ _ _ h => h) (fun _ _ _ h => h) (fun _ _ _ h => h) σ H Q hn h⟩
end

/-! ### for .. in enumerate(name.f), the own list f not touched by the body -/
def backF (C0 : Addr) (i : Nat) (f : Str) (q : Addr) (ds : List D) (k : En → Prop) : En → Prop := fun e2 => ∃ ns xs j, e2[i]? = some (some (.obj true (.ins C0 ns) xs)) ∧ fIx f ns = some j ∧ xs[j]? = some (.sc (.ref q)) ∧ k (e2.set i (some (.obj true (.ins C0 ns) (xs.set j (.lst true ds)))))
def sForEn (C0 : Addr) (i : Nat) (f : Str) (g : WG) (wb : WS) : WS := fun env RD => ∃ ns xs j ds, env[i]? = some (some (.obj true (.ins C0 ns) xs)) ∧ fIx f ns = some j ∧ xs[j]? = some (.lst true ds) ∧ D.fzL ds = true ∧
  ∀ q, loopD g wb (enumD 0 ds) (env.set i (some (.obj true (.ins C0 ns) (xs.set j (.sc (.ref q)))))) { nx := backF C0 i f q ds RD.nx, rt := fun _ _ => False }
section
variable {K : PySem.W.Frag} {F H : Hp} {B : Addr → Prop} {env : En} {σ : L2.St} {As : List (List Addr)} {d d' : D} {v v0 v' : V} {A A' A1 A2 : List Addr} {i : Nat}
theorem nd_out {A1 A2 : List Addr} {As : List (List Addr)} {i : Nat} {q : Addr} (g : As[i]? = some (A1 ++ [q] ++ A2)) (nd : As.flatten.Nodup) : (As.set i (A1 ++ [] ++ A2)).flatten.Nodup ∧ q ∉ (As.set i (A1 ++ [] ++ A2)).flatten ∧ ∀ x ∈ (As.set i (A1 ++ [] ++ A2)).flatten, x ∈ As.flatten := by
  have hl : i < As.length := (List.getElem?_eq_some_iff.mp g).1
  have pm := flat_at As i _ g
  have pm2 := flat_set As i (A1 ++ [] ++ A2) hl
  have n1 := pm.nodup_iff.mp nd
  have e1 : A1 ++ [q] ++ A2 ++ (As.set i []).flatten = A1 ++ q :: (A2 ++ (As.set i []).flatten) := by simp
  have e2 : A1 ++ [] ++ A2 ++ (As.set i []).flatten = A1 ++ (A2 ++ (As.set i []).flatten) := by simp
  rw [e1] at n1
  have n2 := List.nodup_cons.mp (List.perm_middle.nodup_iff.mp n1)
  refine ⟨pm2.nodup_iff.mpr (e2 ▸ n2.2), fun z => n2.1 (e2 ▸ pm2.mem_iff.mp z), fun x hx => pm.mem_iff.mpr ?_⟩
  have := pm2.mem_iff.mp hx
  simp only [List.append_nil, List.mem_append] at this
  simp only [List.mem_append, List.mem_singleton]
  rcases this with (h | h) | h
  · exact .inl (.inl (.inl h))
  · exact .inl (.inr h)
  · exact .inr h
theorem nd_in {A1 A2 : List Addr} {As : List (List Addr)} {i : Nat} {q : Addr} (g : As[i]? = some (A1 ++ [] ++ A2)) (nd : As.flatten.Nodup) (hq : q ∉ As.flatten) : (As.set i (A1 ++ [q] ++ A2)).flatten.Nodup ∧ ∀ x ∈ (As.set i (A1 ++ [q] ++ A2)).flatten, x = q ∨ x ∈ As.flatten := by
  have hl : i < As.length := (List.getElem?_eq_some_iff.mp g).1
  have pm := flat_at As i _ g
  have pm2 := flat_set As i (A1 ++ [q] ++ A2) hl
  have n1 := pm.nodup_iff.mp nd
  have e1 : A1 ++ [q] ++ A2 ++ (As.set i []).flatten = A1 ++ q :: (A2 ++ (As.set i []).flatten) := by simp
  have e2 : A1 ++ [] ++ A2 ++ (As.set i []).flatten = A1 ++ (A2 ++ (As.set i []).flatten) := by simp
  rw [e2] at n1
  refine ⟨pm2.nodup_iff.mpr ?_, fun x hx => ?_⟩
  · rw [e1]
    exact List.perm_middle.nodup_iff.mpr (List.nodup_cons.mpr ⟨fun z => hq (pm.mem_iff.mpr (e2 ▸ z)), n1⟩)
  · have := pm2.mem_iff.mp hx
    simp only [List.mem_append, List.mem_singleton] at this
    by_cases z : x = q
    · exact .inl z
    · refine .inr (pm.mem_iff.mpr ?_)
      simp only [List.append_nil, List.mem_append]
      rcases this with ((h | h) | h) | h
      · exact .inl (.inl h)
      · exact absurd h z
      · exact .inl (.inr h)
      · exact .inr h
/-- an own list of frozen things, in slot i, is another's for a while -/
theorem SO.lendOut {u : D → D} {ds : List D} (s : SO K F H B env σ As) (g2 : σ[i]? = some (some v0)) (g3 : As[i]? = some A) (f : Foc K F H d v0 A u (.lst true ds) v A') (hz : D.fzL ds = true) :
    ∃ q vs As', v = .ref q ∧ H q = some (.lst vs) ∧ RepL K F H ds vs [] ∧ ¬ B q ∧ SO K F H (Bx B [q]) (env.set i (some (u (.sc (.ref q))))) σ As' := by
  obtain ⟨A1, A2, rfl, r, up⟩ := f
  cases r with
  | @own _ q vs _ A3 hc r =>
    have := r.fzNil hz
    subst this
    obtain ⟨n1, n2, n3⟩ := nd_out g3 s.nd
    have qA : q ∈ As.flatten := mem_of_slot g3 (by simp)
    refine ⟨q, vs, _, rfl, hc, r, fun z => (s.out q z).2.2 qA, s.same, s.env.tell (up F H (.sc (.ref q)) [] (Same.refl _) (fun _ _ => rfl) .sc) g2, n1, fun x hx => s.fr x (n3 x hx), fun b hb => ?_⟩
    rcases hb with hb | hb
    · obtain ⟨k1, k2, k3⟩ := s.out b hb
      exact ⟨k1, k2, fun z => k3 (n3 b z)⟩
    · rw [List.mem_singleton.mp hb]
      exact ⟨s.fr q qA, ⟨_, hc, trivial⟩, n2⟩
/-- .. and one's own again -/
theorem SO.lendBack {C0 : Addr} {f : Str} {q : Addr} {ds : List D} {vs : List V} {k : En → Prop} (s : SO K F H (Bx B [q]) env σ As) (hq : H q = some (.lst vs)) (r : RepL K F H ds vs []) (nb : ¬ B q) (h : backF C0 i f q ds k env) : ∃ env' As', SO K F H B env' σ As' ∧ k env' := by
  obtain ⟨ns, xs, j, he, hj, hx, h⟩ := h
  obtain ⟨v0, A, g1, g2, g3⟩ := s.env.get he
  obtain ⟨p, ws, w, A0, rfl, hc, hw, hl, A1, A2, eA, r0, up⟩ := (Foc.root g3).itemG hx
  obtain ⟨rfl, rfl⟩ := r0.sc_inv
  subst eA
  obtain ⟨o1, o2, o3⟩ := s.out q (.inr (List.mem_singleton.mpr rfl))
  obtain ⟨n1, n2⟩ := nd_in g2 s.nd o3
  refine ⟨_, _, ⟨s.same, s.env.tell (up F H (.lst true ds) [q] (Same.refl _) (fun _ _ => rfl) (.own (show CellO H .lst q vs from hq) r)) g1, n1, fun x hx => ?_, fun b hb => ?_⟩, h⟩
  · rcases n2 x hx with rfl | z
    · exact o1
    · exact s.fr x z
  · obtain ⟨k1, k2, k3⟩ := s.out b (.inl hb)
    refine ⟨k1, k2, fun z => ?_⟩
    rcases n2 b z with rfl | z
    · exact nb hb
    · exact k3 z
end
section
variable {X : Cx} {p : Bool} {kp : List Nat} {o tg : Expr} {f : Str} {C0 : Addr} {body : List Stmt} {g : WG} {wb : WS} {i : Nat} {pos pos' pos2 q0 tpos : Pos} {elts : List Expr} {kk : Nat}
theorem ds_forEn (cl : Cls X.K C0) (na : NoAttr X.K C0 f) (ho : PE X o (tVar i)) (hp : PassesOwn (model X.prog X.w) X.A X.env X.xe) (hc : X.calm = true) (hgl : Gl X "enumerate") (hm : X.mg "enumerate" = none)
    (hg : DG kp X (.Tuple elts kk tpos) g) (hb : DSs kp X body wb) (hba : attributeBase o f X.env (eval o X.env) = eval o X.env := by rfl)
    (hs : starEach [.Attribute o f pos'] X.env = [(false, eval (.Attribute o f pos') X.env)] := by rfl)
    (hs2 : ∀ x, foldedSetIterable (.Call (.Name "enumerate" q0) [.Attribute o f pos'] [] pos2) X.env x = pure x := by intro _; rfl) :
    DS kp X (.For (.Tuple elts kk tpos) (.Call (.Name "enumerate" q0) [.Attribute o f pos'] [] pos2) body [] pos) (sForEn C0 i f g wb) := by
  refine ⟨PSimp (ps_for hp hc (pi_enum hgl hm (pa_cons (dm_fld (pos := pos') cl na (dm_name ho) hba).pe pa_nil hs) hs) hg.pg hb.ps hs2) ?_⟩
  rintro D0 σ H ⟨F, B, env, As, RD, s, ⟨ns, xs, j, ds, he, hj, hx, hz, hw⟩, k1, k2, k3, k4⟩
  refine ⟨F, B, env, As, fun i' d' u' => i' = i ∧ d' = .lst true ds ∧ u' = fun y => .obj true (.ins C0 ns) (xs.set j y), s, ⟨_, he, rfl, j, _, hj, hx, rfl, rfl, rfl⟩, fun v H1 F1 i' d v0 A u d' A' po1 g1 g2 g3 f1 ⟨e1, e2, e3⟩ => ?_⟩
  subst e1 e2 e3
  obtain ⟨q, vs, As', rfl, hq, rds, nb, s1⟩ := po1.so.lendOut g2 g3 f1 hz
  have hw := hw q
  refine ⟨q, vs, rfl, .of hq, ?_⟩
  have bk : ∀ {σ2 H2 F2 As2 e2}, PostS X.K kp F1 H1 (Bx B [q]) σ F2 H2 e2 σ2 As2 → backF C0 i' f q ds RD.nx e2 → D0.nx σ2 H2 := fun {σ2 H2 F2 As2 e2} po2 h2 => by
    have hq2 : H2 q = some (.lst vs) := (po2.keep q (.inr (List.mem_singleton.mpr rfl))).trans hq
    obtain ⟨env', As3, s3, h3⟩ := po2.so.lendBack hq2 (rds.frame po2.ext fun _ z => nomatch z) nb h2
    exact k1 σ2 H2 F2 As3 env' ⟨po1.ext.trans po2.ext, s3, fun b hb => (po2.keep b (.inl hb)).trans (po1.keep b hb), po2.kp, po2.len⟩ h3
  have hlen : (enumD 0 ds).length = vs.length := by rw [enumD_length, rds.length]
  refine ⟨fun i m σ' H' => m = (enumD 0 ds).length - i ∧ i ≤ (enumD 0 ds).length ∧ ∃ F' As' env', PostS X.K kp F1 H1 (Bx B [q]) σ F' H' env' σ' As' ∧ loopD g wb ((enumD 0 ds).drop i) env' { nx := backF C0 i' f q ds RD.nx, rt := fun _ _ => False },
    ⟨(enumD 0 ds).length, rfl, Nat.zero_le _, F1, As', _, .refl s1, hw⟩, ?_⟩
  rintro i m σ2 H2 ⟨rfl, hle, F2, As2, e2, po2, h2⟩
  have hq2 : H2 q = some (.lst vs) := (po2.keep q (.inr (List.mem_singleton.mpr rfl))).trans hq
  by_cases hlt : i < (enumD 0 ds).length
  · have hi2 : i < vs.length := by omega
    refine .inr ⟨⟨vs, vs[i], .of hq2, List.getElem?_eq_getElem hi2⟩, fun σ' H' => ∃ F' As' env', PostS X.K kp F1 H1 (Bx B [q]) σ F' H' env' σ' As' ∧ loopD g wb ((enumD 0 ds).drop (i + 1)) env' { nx := backF C0 i' f q ds RD.nx, rt := fun _ _ => False },
      fun σ' H' ⟨F', As', env', po, h⟩ => ⟨(enumD 0 ds).length - (i + 1), by omega, rfl, hlt, F', As', env', po, h⟩, fun x H3 y => ?_⟩
    rw [List.drop_eq_getElem_cons hlt] at h2
    obtain ⟨T, x1, rfl, hT, rfl, gx⟩ := y
    have ex := gx vs (.of hq2)
    obtain ⟨y, h3, hd⟩ := enumD_get (List.getElem?_eq_getElem hlt)
    obtain ⟨w1, g4, p1⟩ := rds.fz_get h3
    rw [g4] at ex
    cases ex
    have po3 := po2.so.newF (o := .tup [.int i, x1]) hT
    have t3 : TO X.K _ _ (Bx B [q]) As2 (.tup [.int ((0 + i : Nat) : Int), y]) (.ref T) [] := .fz (.tup upd_same (.cons (A := []) (B := []) (by rw [Nat.zero_add]; exact .sc) (.one (p1.frame (po2.ext.trans po3.ext) fun _ z => nomatch z)))) po3.so
    have po23 := po2.trans (po3.ps (kp := kp))
    rw [hd] at h2
    refine ⟨_, Bx B [q], e2, As2, _, [], _, po3.so, t3, h2, fun σ4 H4 F4 As4 e4 po4 h4 => ?_⟩
    have po24 := po23.trans po4
    exact ⟨F4, Bx B [q], e4, As4, _, po4.so, h4, fun σ5 H5 F5 As5 e5 po5 h5 => ⟨F5, As5, e5, po24.trans po5, h5⟩, fun σ5 H5 F5 As5 e5 po5 h5 => bk (po24.trans po5) h5,
      fun σ5 H5 F5 As5 e5 po5 h5 => ⟨F5, As5, e5, po24.trans po5, h5⟩, fun v σ5 H5 F5 As5 a d e5 po5 t5 h5 => h5.elim⟩
  · have e : i = (enumD 0 ds).length := by omega
    subst e
    rw [List.drop_length] at h2
    exact .inl ⟨⟨vs, .of hq2, by omega⟩, bk po2 h2⟩
end

/-! ### methods and making, as what a def may call -/
structure MCal (P : Program) (w : World) (K : PySem.W.Frag) (mg : Str → Option Value) (base : Heap) (k : Nat) (C0 : Addr) (m : Str) (ps : List Str) (wf : WF) : Prop where
  ex : ∃ (f : Addr) (fd : FuncData), FnG P w K mg base CX0 k f fd ps (spD K wf) ∧ Meth K C0 m f ∧ Binds K fd ps []
structure NCal (P : Program) (w : World) (K : PySem.W.Frag) (mg : Str → Option Value) (base : Heap) (k : Nat) (C0 : Addr) (ps : List Str) (wf : WF) : Prop where
  ex : ∃ (f : Addr) (fd : FuncData), FnG P w K mg base CX0 k f fd ps (spD K wf) ∧ Mk K C0 f ∧ Binds K fd ps []
section
variable {X : Cx} {C0 : Addr} {k j : Nat} {ps : List Str} {m x : Str} {q pos apos : Pos} {e o : Expr} {es : List Expr} {w : WF} {wc : WC} {i : Nat}
theorem de_mcal {pl : Sem Bool} (C : MCal X.prog X.w X.K X.mg X.base k C0 m ps w) (hr : Room j X.A) (hj : k ≤ j) (hgd : X.A.guards = some []) (ho : PE X o (tVar i)) (c : Cls X.K C0) (ha : DC X (e :: es) wc)
    (hst : starEach (e :: es) X.env = (false, eval e X.env) :: starEach es X.env := by rfl) (hpl : (backTo pos (starEach es X.env)).any (·.1) = false := by rfl)
    (ht : eval (.Call (.Attribute o m apos) (e :: es) [] pos) X.env = (do
      let ov ← eval o X.env
      standAt apos.atName
      let (f, first) ← holding [ov] (getMethod ov m pl)
      callWith pos f first (backTo pos (starEach (e :: es) X.env)) (backToKw pos (keywordEach [] X.env))) := by rfl) :
    DE false X (.Call (.Attribute o m apos) (e :: es) [] pos) (wMeth C0 m w i wc) := by
  obtain ⟨f, fd, G, hm, hb⟩ := C.ex
  exact de_meth (pl := pl) G (hr.mono hj) hgd ho c hm hb ha hst hpl ht
theorem de_mcal0 {pl : Sem Bool} (C : MCal X.prog X.w X.K X.mg X.base k C0 m ps w) (hr : Room j X.A) (hj : k ≤ j) (hgd : X.A.guards = some []) (ho : PE X o (tVar i)) (c : Cls X.K C0)
    (ht : eval (.Call (.Attribute o m apos) [] [] pos) X.env = (do
      let ov ← eval o X.env
      standAt apos.atName
      let (f, first) ← holding [ov] (getMethod ov m pl)
      callWith pos f first (backTo pos (starEach [] X.env)) (backToKw pos (keywordEach [] X.env))) := by rfl) :
    DE false X (.Call (.Attribute o m apos) [] [] pos) (wMeth C0 m w i cNil) := by
  obtain ⟨f, fd, G, hm, hb⟩ := C.ex
  exact de_meth0 (pl := pl) G (hr.mono hj) hgd ho c hm hb ht
theorem de_ncal (C : NCal X.prog X.w X.K X.mg X.base k C0 ps w) (hr : Room j X.A) (hj : k + 1 ≤ j) (hgd : X.A.guards = some []) (hg : Gl X x) (hm : X.mg x = some (.ref C0)) (ha : DC X (e :: es) wc)
    (hdb : (x == ("__debug__" : Str)) = false := by decide) (he : starEach (e :: es) X.env = (false, eval e X.env) :: starEach es X.env := by rfl) (hpl : (backTo pos (starEach es X.env)).any (·.1) = false := by rfl) :
    DE false X (.Call (.Name x q) (e :: es) [] pos) (wMake C0 w wc) := by
  obtain ⟨f, fd, G, hk, hb⟩ := C.ex
  exact de_make hk G (hr.mono hj) hgd hg hm hb ha hdb he hpl
end
end PL

/-! PL1: place.clear(), reversed(list). -/
namespace PL
open PySem L2
section
variable {X : Cx} {p : Bool} {kp : List Nat} {e o b : Expr} {wm : WM} {we wi : WE} {pos apos cpos : Pos}
def wClr (wm : WM) : WE := fun env R => wm env fun i d u => ownD d fun xs => R .non (env.set i (some (u (.lst true []))))
theorem de_clr (ho : DM X o wm) (hbase : attributeBase o "clear" X.env (eval o X.env) = eval o X.env := by rfl) (hline : (apos.endLine == cpos.line) = true := by rfl) :
    DE false X (.Call (.Attribute o "clear" apos) [] [] cpos) (wClr wm) := by
  refine ⟨PEimp (pe_bm0 PySem.F.plainAttrs_list PySem.F.slot_list_clear PySem.F.type_list_clear mt_clear ho.pe hbase hline) ?_⟩
  rintro σ H Q ⟨F, B, env, As, R, s, hw, k⟩
  refine ⟨F, B, env, As, _, s, hw, fun v H1 F1 i d v0 A u d' A' po1 g1 g2 g3 f h1 => ?_⟩
  obtain ⟨xs, rfl, h1⟩ := ownD_inv h1
  obtain ⟨q, vs, A3, rfl, hq, r, nd3, ap, go⟩ := list_core (a := []) po1.so g1 g2 g3 f (by simpa using po1.so.nd) (fun _ z => nomatch z) (fun _ z => nomatch z)
  obtain ⟨As', s', kb, _⟩ := go [] [] [] .nil List.nodup_nil (fun _ z => nomatch z)
  refine ⟨.inl ⟨rfl, vs, .of hq⟩, q, vs, rfl, rfl, hq, ?_⟩
  exact k _ _ F1 As' [] _ _ ⟨po1.ext, s', fun b hb => (kb b hb).trans (po1.keep b hb), fun z => nomatch z⟩ (.sc s' _) h1
theorem itv_ok {K : PySem.W.Frag} {F H0 : Hp} {a : Addr} {xs : List D} {vs : List V} (h : SqL K F a vs) (r : RepL K F H0 xs vs []) : ItOk K F (Itv K a vs.length) xs.reverse where
  go := fun i H s hi => by
    rw [List.length_reverse, r.length] at hi
    exact ⟨hi, vs, vs[vs.length - 1 - i]'(by omega), s.seq h, List.getElem?_eq_getElem (by omega)⟩
  stop := fun i H s hi => by
    rw [List.length_reverse, r.length] at hi
    exact hi
  yld := fun i x H H' ⟨e, y⟩ s d hd => by
    have hl := (List.getElem?_eq_some_iff.mp hd).1
    rw [List.length_reverse, r.length] at hl
    rw [List.getElem?_reverse (by rw [r.length]; exact hl), r.length] at hd
    obtain ⟨w, hw, rw'⟩ := r.fz_get hd
    have := y vs (s.seq h)
    rw [hw] at this; cases this
    exact .inl ⟨e, rw'.frame (Same.refl _) fun _ z => nomatch z⟩
def iRvd (wa : WA) : WI := fun env R => wa env fun ds e1 => match ds with
  | [.obj _ sh xs] => isSeq sh = true ∧ R (D.frzL xs).reverse e1
  | _ => False
theorem di_rvd {tg : Expr} {wa : WA} {q : Pos} (hg : Gl X "reversed") (hm : X.mg "reversed" = none) (ha : DA p X [e] wa) (hs : starEach [e] X.env = [(false, eval e X.env)] := by rfl) :
    DI p X tg (.Call (.Name "reversed" q) [e] [] pos) (iRvd wa) := by
  refine ⟨PIimp (pi_reversed hg hm ha.pa hs) ?_⟩
  rintro σ H Q ⟨F, B, env, As, R, s, hw, k⟩
  refine ⟨F, B, env, As, _, s, hw, fun vs H1 F1 As1 a ds e1 po1 t1 h1 => ?_⟩
  obtain ⟨po2, r2⟩ := po1.so.freezeL t1
  split at h1
  · obtain ⟨hs1, h1⟩ := h1
    obtain ⟨v, us, A1, A2, rfl, e0, q1, q2⟩ := r2.cons_inv
    obtain ⟨rfl, _⟩ := q2.nil_inv
    obtain ⟨a1, xs', rfl, hx, rx⟩ := Rep.frz_seq (o := false) hs1 q1
    exact ⟨a1, xs', rfl, po2.so.same.seq hx, k _ H1 _ As1 e1 _ (po1.trans (po2.imp fun _ => rfl)) (itv_ok hx rx) h1⟩
  · exact h1.elim
end
section
variable {K : PySem.W.Frag} {F F' H H' : Hp} {B : Addr → Prop} {env : En} {σ : L2.St} {As : List (List Addr)} {v : V} {a : List Addr}
theorem keys_rep : ∀ {kvs : List (List Key × V)} {bs : List Addr}, IsKeys H kvs bs → RepL K H H (kvs.map fun p => keyT p.1) (bs.map V.ref) []
  | [], _, h => by cases h; exact .nil
  | p :: kvs, _, h => by
    cases h with
    | cons h r =>
      refine .cons (A := []) (B := []) (.tup (A := []) h ?_) (keys_rep r)
      have := RepL.sc_of (K := K) (F := H) (H := H) (p.1.map kV)
      rwa [List.map_map] at this
/-- list(d), its keys tuples -/
def rdListT : RDA := fun ds R => ∃ o kvs, ds = [dctD o kvs] ∧ R (.lst true (kvs.map fun p => keyT p.1))
theorem sListT : SndA K (fun xs H Q => ∃ d kvs, xs = [V.ref d] ∧ Rd H d (.dT kvs) ∧ ∀ p bs, H p = none → IsKeys H kvs bs → Q (.ref p) (upd H p (.lst (bs.map V.ref)))) rdListT := by
  intro F H B env σ As ds vs a R Q s r h k
  obtain ⟨o, kvs, rfl, hR⟩ := h
  obtain ⟨v, rfl, a', r⟩ := r.one_inv'
  obtain ⟨q, rfl, hq, _⟩ := dctD_cell r s.same
  refine ⟨q, kvs, rfl, .inl hq, fun p bs hp hk => ?_⟩
  obtain ⟨A, hA, z⟩ := keys_in (fun d hd => by
    obtain ⟨x, _, rfl⟩ := List.mem_map.mp hd
    exact .inr ⟨_, rfl⟩) (keys_rep (K := K) hk)
  have po := s.tups hA
  exact out_lst po.so (z _ fun x hx => fzAt_in hx) hR (fun v' H' F' c y po2 t2 h2 => k v' H' F' c y (po.trans po2) t2 h2) p hp
end
section
variable {X : Cx} {p : Bool} {kp : List Nat} {e o b : Expr} {es : List Expr} {wm : WM} {we wi : WE} {wa : WA} {pos apos cpos : Pos}
/-- a tuple whose items stay own -/
def wTupK (wa : WA) : WE := fun env R => wa env fun ds e1 => ds.length ≤ sizeLine ∧ R (.tup ds) e1
theorem de_tupK {x1} (h : DA p X es wa) : DE p X (.Tuple es x1 pos) (wTupK wa) := by
  refine ⟨PEimp (pe_tup h.pa) ?_⟩
  rintro σ H Q ⟨F, B, env, As, R, s, hw, k⟩
  refine ⟨F, B, env, As, _, s, hw, fun vs H1 F1 As1 a ds e1 po1 t1 ⟨hl, h1⟩ => ⟨by rw [← t1.rep.length]; exact hl, fun q hq => ?_⟩⟩
  have po2 := po1.so.newF (o := .tup vs) hq
  have nq := not_mem_of_none hq t1.rep.there
  refine k _ _ _ As1 a _ e1 (po1.trans (po2.imp fun _ => rfl)) ⟨.tup upd_same (t1.rep.frame po2.ext fun x hx => upd_ne fun z => nq (z ▸ hx)), t1.nd, fun x hx => ?_, t1.nb⟩ h1
  rw [upd_ne (show x ≠ q from fun z => nq (z ▸ hx))]
  exact t1.fr x hx
/-- what stands at a place of an own name, moved out -/
def wMv (wm : WM) : WE := fun env R => wm env fun i d _ => R d (env.set i none)
theorem de_mv (ho : DM X o wm) : DE false X o (wMv wm) := by
  refine ⟨PEimp ho.pe ?_⟩
  rintro σ H Q ⟨F, B, env, As, R, s, hw, k⟩
  refine ⟨F, B, env, As, _, s, hw, fun v H1 F1 i d v0 A u d' A' po1 g1 g2 g3 f h1 => ?_⟩
  obtain ⟨v1, a, h2, h3, s', t⟩ := po1.so.take g1
  rw [g3] at h3
  cases h3
  obtain ⟨A1, A2, rfl, r, _⟩ := f
  have sub : ∀ x ∈ A', x ∈ A1 ++ A' ++ A2 := fun x hx => List.mem_append_left _ (List.mem_append_right _ hx)
  have nd := t.nd
  have nd2 : (A' ++ (As.set i []).flatten).Nodup := by
    have : (A' ++ (As.set i []).flatten).Sublist ((A1 ++ A' ++ A2) ++ (As.set i []).flatten) := List.Sublist.append_right (by
      rw [List.append_assoc]
      exact (List.sublist_append_left _ _).trans (List.sublist_append_right _ _)) _
    exact this.nodup nd
  exact k _ H1 F1 _ A' d' _ ⟨po1.ext, s', po1.keep, fun z => nomatch z⟩ ⟨r, nd2, fun x hx => t.fr x (sub x hx), fun x hx => t.nb x (sub x hx)⟩ h1
end
section
variable {K : PySem.W.Frag} {F F' H H' : Hp} {d d' : D} {v v' : V} {A A' : List Addr} {u : D → D}
/-- an item of a tuple -/
theorem Foc.itemT {xs : List D} {j : Nat} {x : D} (f : Foc K F H d v A u (.tup xs) v' A') (e : xs[j]? = some x) :
    ∃ p vs w A0, v' = .ref p ∧ F p = some (.tup vs) ∧ vs[j]? = some w ∧ xs.length = vs.length ∧ Foc K F H d v A (fun y => u (.tup (xs.set j y))) x w A0 := by
  obtain ⟨A1, A2, rfl, r, up⟩ := f
  cases r with
  | @tup p vs _ A3 h r =>
    obtain ⟨w, B1, B0, B2, h1, h2, h3, h4⟩ := r.get e
    subst h2
    refine ⟨p, vs, w, B0, rfl, h, h1, r.length, A1 ++ B1, B2 ++ A2, by simp, h3, fun F' H' y A'' sm k q => ?_⟩
    have q2 := h4 (F' := F') (H' := H') (d' := y) (v' := w) sm (fun a ha => k a (by
      rcases List.mem_append.mp ha with z | z
      · simp [z]
      · simp [z])) q
    have e2 : vs.set j w = vs := by
      refine List.ext_getElem? fun i => ?_
      by_cases hi : j = i
      · subst hi
        rw [List.getElem?_set_self (List.getElem?_eq_some_iff.mp h1).1]; exact h1.symm
      · rw [List.getElem?_set_ne hi]
    rw [e2] at q2
    have := up F' H' (.tup (xs.set j y)) (B1 ++ A'' ++ B2) sm (fun a ha => k a (by
      rcases List.mem_append.mp ha with z | z
      · simp [z]
      · simp [z])) (.tup (sm _ _ h) q2)
    simpa using this
end
section
variable {X : Cx} {p : Bool} {a b : Expr} {wm : WM} {wi : WE} {pos : Pos}
/-- a place within a list or a tuple -/
def mIx2 (wm : WM) (wi : WE) : WM := fun env R => wm env fun i d' u => wi env fun k _ => asI k fun kk => match d' with
  | .obj true .lst xs => ∃ j x, L2.ixN xs.length kk = some j ∧ xs[j]? = some x ∧ R i x fun y => u (.lst true (xs.set j y))
  | .tup xs => ∃ j x, L2.ixN xs.length kk = some j ∧ xs[j]? = some x ∧ R i x fun y => u (.tup (xs.set j y))
  | _ => False
theorem dm_ix2 (ha : DM X a wm) (hb : DE true X b wi) (hs : PlainIx b) : DM X (.Subscript a b pos) (mIx2 wm wi) := by
  refine ⟨PEimp (pe_ix (ix_list.or ix_tup) ha.pe hb.pe hs) ?_⟩
  rintro σ H Q ⟨F, B, env, As, R, s, hw, k⟩
  refine ⟨F, B, env, As, _, s, hw, fun v H1 F1 i d v0 A u d' A' po1 g1 g2 g3 f1 h1 => ?_⟩
  refine ⟨F1, B, env, As, _, po1.so, h1, fun y H2 F2 As2 a2 kd e2 po2 t2 h2 => ?_⟩
  obtain ⟨z1, z2, z3⟩ := po2.pure rfl
  subst z1 z2
  obtain ⟨kk, rfl, h2⟩ := asI_inv h2
  obtain ⟨rfl, _⟩ := t2.rep.sc_inv
  have f2 := f1.frame po2.ext fun x hx => z3 x (mem_of_slot g3 hx)
  split at h2
  · rename_i xs
    obtain ⟨j, x, hj, hx, h2⟩ := h2
    obtain ⟨q, vs, w, A0, rfl, e1, e2, el, f3⟩ := f2.item hx
    refine .inl ⟨q, vs, kk, w, rfl, rfl, .of e1, ?_, k w H2 F2 i d v0 A _ x A0 (po1.trans po2) g1 g2 g3 f3 h2⟩
    unfold L2.atI
    rw [← el, hj]
    exact e2
  · rename_i xs
    obtain ⟨j, x, hj, hx, h2⟩ := h2
    obtain ⟨q, vs, w, A0, rfl, e1, e2, el, f3⟩ := f2.itemT hx
    refine .inr ⟨q, vs, kk, w, rfl, rfl, Same.sqT po2.so.same (SqT.of (K := X.K) e1), ?_, k w H2 F2 i d v0 A _ x A0 (po1.trans po2) g1 g2 g3 f3 h2⟩
    unfold L2.atI
    rw [← el, hj]
    exact e2
  · exact h2.elim
end
end PL

/-! PL2: list(zip(a, b)). -/
namespace PL
open PySem PySem.Spec PyProof.Rows L2
theorem ltS {h : Heap} {b : Nat} {o : Obj} (e : h.get? b = some o) : b < h.objs.size := Heap.lt_size e
theorem neA {a b : Nat} (h : a < b ∨ b < a) : (show Addr from a) ≠ (show Addr from b) := by
  intro e
  have e : a = b := e
  omega
theorem zip_no_len : typeLookup (.type "zip") "__len__" = pure none := by rw [typeLookup_type, builtinLookup_eq_fast]; kernel_rfl
theorem zip_no_hint : typeLookup (.type "zip") "__length_hint__" = pure none := by rw [typeLookup_type, builtinLookup_eq_fast]; kernel_rfl
/-- a zip of two lists, i pairs told; S: the list that is filled -/
structure ZSt (S z TI TO i1 i2 l1 l2 : Addr) (xs ys : Array Value) (i : Nat) (h : Heap) : Prop where
  ti : IsPair h TI (.ref i1) (.ref i2)
  h1 : h.IsListIter i1 l1 i
  h2 : h.IsListIter i2 l2 i
  l1 : h.IsList l1 xs
  l2 : h.IsList l2 ys
  st : (IsZip h z TI TO .none ∧ ∃ a b, IsPair h TO a b) ∨ ∃ T f oT, IsZipHeld h z TI TO T f ∧ h.get? T = some oT ∧ T ≠ z ∧ T ≠ i1 ∧ T ≠ i2 ∧ T ≠ S
/-- the pairs told so far -/
structure Told (base : Nat) (xs ys : Array Value) (h : Heap) (Ts : List Addr) : Prop where
  inc : Ts.Pairwise (· < ·)
  bd : ∀ T ∈ Ts, base ≤ T ∧ h.objs.size > T
  at_ : ∀ (j : Nat) T, Ts[j]? = some T → ∃ x y, xs[j]? = some x ∧ ys[j]? = some y ∧ IsPair h T x y
section
variable {prog : Program} {w : World} {A : Around} {E : Value → Shared → Prop} {s : Shared} {S z TI TO i1 i2 l1 l2 : Addr} {xs ys : Array Value}
theorem ZSt.frame {i : Nat} {h h' : Heap} (st : ZSt S z TI TO i1 i2 l1 l2 xs ys i h) (d : S ≠ z ∧ S ≠ TI ∧ S ≠ TO ∧ S ≠ i1 ∧ S ≠ i2 ∧ S ≠ l1 ∧ S ≠ l2) (hk : ∀ b o, b ≠ S → h.get? b = some o → h'.get? b = some o) : ZSt S z TI TO i1 i2 l1 l2 xs ys i h' := by
  obtain ⟨d1, d2, d3, d4, d5, d6, d7⟩ := d
  obtain ⟨a1, a2, a3, a4, a5, a6⟩ := st
  refine ⟨hk _ _ (Ne.symm d2) a1, a2.at fun o e => hk _ o (Ne.symm d4) e, a3.at fun o e => hk _ o (Ne.symm d5) e, a4.at fun o e => hk _ o (Ne.symm d6) e, a5.at fun o e => hk _ o (Ne.symm d7) e, ?_⟩
  rcases a6 with ⟨hz, a, b, hTO⟩ | ⟨T, f, oT, hz, hT, r1, r2, r3, r4⟩
  · exact .inl ⟨hk _ _ (Ne.symm d1) hz, a, b, hk _ _ (Ne.symm d3) hTO⟩
  · exact .inr ⟨T, f, oT, hk _ _ (Ne.symm d1) hz, hk _ _ r4 hT, r1, r2, r3, r4⟩
theorem ZSt.item {i : Nat} {Q : Option Value → Shared → Prop} (D : ZipApart z TI TO i1 i2 l1 l2) (st : ZSt S z TI TO i1 i2 l1 l2 xs ys i s.heap) (hS : S < s.heap.objs.size) (hi : i < min xs.size ys.size)
    (hQ : ∀ h' x y, xs[i]? = some x → ys[i]? = some y → IsPair h' s.heap.objs.size x y → h'.objs.size = s.heap.objs.size + 1 → ZSt S z TI TO i1 i2 l1 l2 xs ys (i + 1) h' →
      (∀ c o, c ≠ z → c ≠ TO → c ≠ i1 → c ≠ i2 → s.heap.get? c = some o → h'.get? c = some o) → Q (some (.ref s.heap.objs.size)) { s with heap := h' }) : wpAny (model prog w) A (pyNext (.ref z)) Q E s := by
  obtain ⟨hTI, h1, h2, hl1, hl2, hz⟩ := st
  have hix : i < xs.size := Nat.lt_of_lt_of_le hi (Nat.min_le_left ..)
  have hiy : i < ys.size := Nat.lt_of_lt_of_le hi (Nat.min_le_right ..)
  have ex := Array.getElem?_eq_getElem hix
  have ey := Array.getElem?_eq_getElem hiy
  have lt : ∀ {c o}, s.heap.get? c = some o → s.heap.objs.size ≠ c := fun e => Nat.ne_of_gt (Heap.lt_size e)
  have n1 : s.heap.objs.size ≠ i1 := let ⟨_, e, _⟩ := h1; lt e
  have n2 : s.heap.objs.size ≠ i2 := let ⟨_, e, _⟩ := h2; lt e
  rcases hz with ⟨hz, a, b, hTO⟩ | ⟨T, f, oT, hz, hT, r1, r2, r3, r4⟩
  · refine wpAny_pyNext_zip_item D hz hTI hTO h1 h2 hl1 hl2 ex ey fun h' a1 a2 a3 a4 a5 a6 hk => ?_
    exact hQ h' _ _ ex ey a5 a6 ⟨hk _ _ D.TIz D.TITO D.TIi1 D.TIi2 hTI, a3, a4, hl1.at fun o e => hk _ o D.l1z D.l1TO D.l1i1 D.l1i2 e, hl2.at fun o e => hk _ o D.l2z D.l2TO D.l2i1 D.l2i2 e,
      .inr ⟨s.heap.objs.size, false, _, a1, a5, lt hz, n1, n2, Nat.ne_of_gt hS⟩⟩ hk
  · refine wpAny_pyNext_zip_item_held D hz hT hTI h1 h2 hl1 hl2 ex ey fun h' a1 a3 a4 a5 a6 hk => ?_
    exact hQ h' _ _ ex ey a5 a6 ⟨hk _ _ D.TIz D.TIi1 D.TIi2 hTI, a3, a4, hl1.at fun o e => hk _ o D.l1z D.l1i1 D.l1i2 e, hl2.at fun o e => hk _ o D.l2z D.l2i1 D.l2i2 e,
      .inr ⟨T, true, oT, a1, hk _ _ r1 r2 r3 hT, r1, r2, r3, r4⟩⟩ fun c o c1 c2 c3 c4 e => hk c o c1 c3 c4 e
theorem ZSt.done {Q : Option Value → Shared → Prop} (hA : A.handled = none) (D : ZipApart z TI TO i1 i2 l1 l2) (st : ZSt S z TI TO i1 i2 l1 l2 xs ys (min xs.size ys.size) s.heap)
    (hQ : ∀ h', (∀ c o, c ≠ z → c ≠ TO → c ≠ i1 → c ≠ i2 → s.heap.get? c = some o → h'.get? c = some o) → Q none { s with heap := h' }) : wpAny (model prog w) A (pyNext (.ref z)) Q E s := by
  obtain ⟨hTI, h1, h2, hl1, hl2, hz⟩ := st
  have hend : xs[min xs.size ys.size]? = none ∨ ys[min xs.size ys.size]? = none := by
    rcases Nat.le_total xs.size ys.size with h | h
    · exact .inl (Array.getElem?_eq_none (by rw [Nat.min_eq_left h]; exact Nat.le_refl _))
    · exact .inr (Array.getElem?_eq_none (by rw [Nat.min_eq_right h]; exact Nat.le_refl _))
  rcases hz with ⟨hz, a, b, hTO⟩ | ⟨T, f, oT, hz, hT, r1, r2, r3, r4⟩
  · exact wpAny_pyNext_zip_end hA D hz hTI hTO h1 h2 hl1 hl2 hend fun h' hk => hQ h' hk
  · exact wpAny_pyNext_zip_end_held hA D hz hT hTI h1 h2 hl1 hl2 hend fun h' hk => hQ h' fun c o c1 _ c3 c4 e => hk c o c1 c3 c4 e
theorem extend_zip {R : Result → Shared → Prop} (hh : A.handled = none) (D : ZipApart z TI TO i1 i2 l1 l2) (hn : min xs.size ys.size ≤ sizeLine) (dS : S ≠ z ∧ S ≠ TI ∧ S ≠ TO ∧ S ≠ i1 ∧ S ≠ i2 ∧ S ≠ l1 ∧ S ≠ l2) (res : Value) {base : Nat}
    (b0 : base > z ∧ base > TO ∧ base > i1 ∧ base > i2 ∧ base > S) {h0 : Heap} (k0 : h0.objs.size ≤ z ∧ h0.objs.size ≤ TO ∧ h0.objs.size ≤ i1 ∧ h0.objs.size ≤ i2 ∧ h0.objs.size ≤ S) :
    ∀ (k i : Nat) (s : Shared) (acc : Array Value) (c : Nat) (Ts : List Addr), min xs.size ys.size - i = k → i ≤ min xs.size ys.size → base ≤ s.heap.objs.size → ZSt S z TI TO i1 i2 l1 l2 xs ys i s.heap → (∀ b o, h0.get? b = some o → s.heap.get? b = some o) →
    s.heap.get? S = some { cls := .type "list", dict := none, data := .seq acc c, slots := #[] } → acc.toList = Ts.map Value.ref → Ts.length = i → Told base xs ys s.heap Ts →
    (∀ h' tk acc' c' Ts', (∀ b o, h0.get? b = some o → h'.get? b = some o) → h'.get? S = some { cls := .type "list", dict := none, data := .seq acc' c', slots := #[] } → acc'.toList = Ts'.map Value.ref → Ts'.length = min xs.size ys.size → Told base xs ys h' Ts' → R (.ok (.ret res)) { s with heap := h', toks := tk }) →
    codeAny (model prog w) A (.builtin "list.extend.loop" ⟨[.ref S, .ref z, res], []⟩) R s := by
  obtain ⟨b1, b2, b3, b4, b5⟩ := b0
  obtain ⟨k1, k2, k3, k4, k5⟩ := k0
  obtain ⟨e1, e2, e3, e4, e5, e6, e7⟩ := id dS
  intro k
  induction k with
  | zero =>
    intro i s acc c Ts hk hi hb st K0 hS hacc hTl T hR
    have hin : i = min xs.size ys.size := by omega
    subst hin
    refine codeAny_builtin F.entry_extend_loop ?_
    rw [Around.under_plainId F.plain_extend_loop _]
    show wpAny _ A.in1 (pyNext (.ref z) >>= _) _ _ s
    refine wpAny_bind (st.done (by simp [hh]) D fun h' hm => ?_)
    refine wpAny_pure (hR h' s.toks acc c Ts (fun b o e => ?_) (hm S _ e1 e3 e4 e5 hS) hacc hTl ⟨T.inc, fun t ht => ?_, fun j t e => ?_⟩)
    · have := ltS e
      exact hm b o (neA (by omega)) (neA (by omega)) (neA (by omega)) (neA (by omega)) (K0 b o e)
    · have := T.bd t ht
      obtain ⟨j, hj⟩ := List.mem_iff_getElem?.mp ht
      obtain ⟨x, y, _, _, hp⟩ := T.at_ j t hj
      exact ⟨this.1, Heap.lt_size (hm t _ (neA (by omega)) (neA (by omega)) (neA (by omega)) (neA (by omega)) hp)⟩
    · obtain ⟨x, y, hx, hy, hp⟩ := T.at_ j t e
      have := T.bd t (List.mem_of_getElem? e)
      exact ⟨x, y, hx, hy, hm t _ (neA (by omega)) (neA (by omega)) (neA (by omega)) (neA (by omega)) hp⟩
  | succ k ih =>
    intro i s acc c Ts hk hi hb st K0 hS hacc hTl T hR
    have hlt : i < min xs.size ys.size := by omega
    have al : acc.size = i := by rw [← Array.length_toList, hacc, List.length_map, hTl]
    refine codeAny_builtin F.entry_extend_loop ?_
    rw [Around.under_plainId F.plain_extend_loop _]
    show wpAny _ A.in1 (pyNext (.ref z) >>= _) _ _ s
    refine wpAny_bind (st.item D (Heap.lt_size hS) hlt fun h' x y hx hy hp hsz st' hm => ?_)
    have hS' := hm S _ e1 e3 e4 e5 hS
    show wpAny _ A.in1 (updateSeq S (·.push (.ref s.heap.objs.size)) >>= _) _ _ _
    refine wpAny_bind ?_
    have oth : ∀ b o, b ≠ S → h'.get? b = some o → (h'.update S (Obj.mapSeq (·.push (.ref s.heap.objs.size)))).get? b = some o := fun b o hb e => (Heap.get?_update_other _ _ (Ne.symm hb)).trans e
    have usz : (h'.update S (Obj.mapSeq (·.push (.ref s.heap.objs.size)))).objs.size = s.heap.objs.size + 1 := by rw [Heap.size_update, hsz]
    refine wpAny_updateSeq hS' rfl (wpAny_pure ⟨plainId_quiet F.plain_extend_loop _, ih (i + 1) _ (acc.push (.ref s.heap.objs.size)) _ (Ts ++ [s.heap.objs.size]) (by omega) hlt (by show base ≤ _; rw [usz]; omega) (st'.frame dS oth) (fun b o e => ?_) (Heap.get?_update_self _ hS' rfl) (by simp [hacc]) (by simp [hTl]) ⟨?_, fun t ht => ?_, fun j t e => ?_⟩ fun h2 tk acc' c' Ts' p1 p2 p3 p4 p5 => hR h2 tk acc' c' Ts' p1 p2 p3 p4 p5⟩)
      (by omega) (by show (acc.push _).size ≤ sizeLine + 1; rw [Array.size_push]; omega)
    · have := ltS e
      exact oth b o (neA (by omega)) (hm b o (neA (by omega)) (neA (by omega)) (neA (by omega)) (neA (by omega)) (K0 b o e))
    · refine List.pairwise_append.mpr ⟨T.inc, by simp, fun a ha b hb => ?_⟩
      rw [List.mem_singleton.mp hb]
      exact (T.bd a ha).2
    · refine (show base ≤ t ∧ s.heap.objs.size + 1 > t from ?_).imp id fun h => by rw [usz]; exact h
      rcases List.mem_append.mp ht with ht | ht
      · have := T.bd t ht
        omega
      · rw [List.mem_singleton.mp ht]; omega
    · by_cases hj : j < Ts.length
      · rw [List.getElem?_append_left hj] at e
        obtain ⟨x', y', hx', hy', hp'⟩ := T.at_ j t e
        have := T.bd t (List.mem_of_getElem? e)
        exact ⟨x', y', hx', hy', oth t _ (neA (by omega)) (hm t _ (neA (by omega)) (neA (by omega)) (neA (by omega)) (neA (by omega)) hp')⟩
      · have hj2 : j = Ts.length := by
          have := (List.getElem?_eq_some_iff.mp e).1
          simp at this; omega
        subst hj2
        rw [List.getElem?_append_right (Nat.le_refl _), Nat.sub_self] at e
        simp at e
        subst e
        rw [hTl]
        have := ltS hS
        exact ⟨x, y, hx, hy, oth _ _ (neA (by omega)) hp⟩
theorem zip_hint {Q : Bool → Shared → Prop} (hz : IsZip s.heap z TI TO .none) (h : Q true s) : wpAny (model prog w) A (Builtin.List.listLengthHint (.ref z)) Q E s := by
  have hT : s.TypeIs (.ref z) "zip" := ⟨_, hz, rfl⟩
  unfold Builtin.List.listLengthHint
  refine wpAny_bind (wpAny_specialOf hT zip_no_len ?_)
  show wpAny _ A (specialOf (Value.ref z) (Str.ofString "__length_hint__") >>= _) _ _ _
  refine wpAny_bind (wpAny_specialOf hT zip_no_hint ?_)
  exact wpAny_pure h
theorem listExtend_zip {R : Result → Shared → Prop} (hh : A.handled = none) (D : ZipApart z TI TO i1 i2 l1 l2) (hn : min xs.size ys.size ≤ sizeLine) (dS : S ≠ z ∧ S ≠ TI ∧ S ≠ TO ∧ S ≠ i1 ∧ S ≠ i2 ∧ S ≠ l1 ∧ S ≠ l2) (res : Value) {base : Nat}
    (b0 : base > z ∧ base > TO ∧ base > i1 ∧ base > i2 ∧ base > S) {h0 : Heap} (k0 : h0.objs.size ≤ z ∧ h0.objs.size ≤ TO ∧ h0.objs.size ≤ i1 ∧ h0.objs.size ≤ i2 ∧ h0.objs.size ≤ S) (c₀ : Nat)
    (hz : IsZip s.heap z TI TO .none) (st : ZSt S z TI TO i1 i2 l1 l2 xs ys 0 s.heap) (hb : base ≤ s.heap.objs.size) (K0 : ∀ b o, h0.get? b = some o → s.heap.get? b = some o) (hS : s.heap.get? S = some { cls := .type "list", data := .seq #[] c₀ })
    (hR : ∀ h' tk acc' c' Ts', (∀ b o, h0.get? b = some o → h'.get? b = some o) → h'.get? S = some { cls := .type "list", dict := none, data := .seq acc' c', slots := #[] } → acc'.toList = Ts'.map Value.ref → Ts'.length = min xs.size ys.size → Told base xs ys h' Ts' → R (.ok (.ret res)) { s with heap := h', toks := tk }) :
    wpAny (model prog w) A.in1 (Builtin.List.listExtendWith (.ref S) (.ref z) res)
      (fun fin s' => match fin with | .done f => R (.ok f) s' | .again c' => c'.quiet = true ∧ codeAny (model prog w) A c' R s') (fun e s' => R (.error e) s') s := by
  have hT : s.TypeIs (.ref z) "zip" := ⟨_, hz, rfl⟩
  have oth : ∀ (h : Heap) (f : Obj → Obj), (∀ b o, b ≠ S → s.heap.get? b = some o → h.get? b = some o) → ∀ b o, b ≠ S → s.heap.get? b = some o → (h.update S f).get? b = some o := fun h f k b o hb e => (Heap.get?_update_other _ _ (Ne.symm hb)).trans (k b o hb e)
  have key : ∀ (h : Heap) (c₁ : Nat), (∀ b o, b ≠ S → s.heap.get? b = some o → h.get? b = some o) → h.objs.size = s.heap.objs.size → h.get? S = some { cls := .type "list", data := .seq #[] c₁ } →
      codeAny (model prog w) A (.builtin "list.extend.loop" ⟨[.ref S, .ref z, res], []⟩) R { s with heap := h } := fun h c₁ hk hsz hS₁ => by
    refine extend_zip hh D hn dS res b0 k0 _ 0 { s with heap := h } #[] c₁ [] rfl (Nat.zero_le _) (by show base ≤ h.objs.size; omega) (st.frame dS hk) (fun b o e => ?_) hS₁ rfl rfl ⟨by simp, by simp, by simp⟩ hR
    have := ltS e
    have := k0.2.2.2.2
    exact hk b o (neA (by omega)) (K0 b o e)
  unfold Builtin.List.listExtendWith
  refine wpAny_bind (wpAny_typeOf (T := "zip") hT ?_)
  have h1 : Builtin.List.listSameRef (.ref S) (.ref z) = false := by simp [Builtin.List.listSameRef, dS.1]
  have h2 : (Value.type "zip" == Value.type "list") = false := by decide
  have h3 : (Value.type "zip" == Value.type "tuple") = false := by decide
  simp only [h1, h2, h3, Bool.or_false, Bool.false_eq_true, if_false]
  refine wpAny_bind (wpAny_pyIter_zip hz ?_)
  refine wpAny_bind (wpAny_holding (zip_hint hz ?_))
  refine wpAny_ite_split (fun _ => ?_) (fun _ => wpAny_pure ⟨plainId_quiet PySem.F.plain_extend_loop _, key _ c₀ (fun _ _ _ e => e) rfl hS⟩)
  refine wpAny_bind (wpAny_rule ?_)
  refine wpAny_bind ?_
  show wpAny _ _ (updateSeq S (·.push .none) >>= fun _ => updateSeq S (·.pop)) _ _ _
  refine wpAny_bind (wpAny_updateSeq hS rfl ?_)
  have hS₂ := Heap.get?_update_self (Obj.mapSeq (·.push Value.none)) hS rfl
  refine wpAny_updateSeq (hz := by seq_fits) hS₂ rfl ?_
  have hS₃ := Heap.get?_update_self (Obj.mapSeq (·.pop)) hS₂ rfl
  refine wpAny_pure ⟨plainId_quiet PySem.F.plain_extend_loop _, key _ _ (oth _ _ (oth _ _ fun _ _ _ e => e)) ?_ hS₃⟩
  rw [Heap.size_update, Heap.size_update]
end
section
variable {prog : Program} {w : World} {A : Around} {E : Value → Shared → Prop} {s : Shared} {z TI TO i1 i2 l1 l2 : Addr} {xs ys : Array Value}
theorem call_list_zip {Q : Value → Shared → Prop} (hh : A.handled = none) (D : ZipApart z TI TO i1 i2 l1 l2) (hn : min xs.size ys.size ≤ sizeLine) {h0 : Heap} (k0 : h0.objs.size ≤ z ∧ h0.objs.size ≤ TI ∧ h0.objs.size ≤ TO ∧ h0.objs.size ≤ i1 ∧ h0.objs.size ≤ i2)
    (hz : IsZip s.heap z TI TO .none) (hTI : IsPair s.heap TI (.ref i1) (.ref i2)) {a b : Value} (hTO : IsPair s.heap TO a b) (h1 : s.heap.IsListIter i1 l1 0) (h2 : s.heap.IsListIter i2 l2 0) (hl1 : s.heap.IsList l1 xs) (hl2 : s.heap.IsList l2 ys)
    (K0 : ∀ b o, h0.get? b = some o → s.heap.get? b = some o)
    (hQ : ∀ h' tk acc' c' Ts', (∀ b o, h0.get? b = some o → h'.get? b = some o) → h'.get? s.heap.objs.size = some { cls := .type "list", dict := none, data := .seq acc' c', slots := #[] } → acc'.toList = Ts'.map Value.ref → Ts'.length = min xs.size ys.size → Told (s.heap.objs.size + 1) xs ys h' Ts' → Q (.ref s.heap.objs.size) { s with heap := h', toks := tk }) :
    wpAny (model prog w) A (call (.type "list") [.ref z]) Q E s := by
  refine callType_codes (Q₁ := fun obj s₁ => obj = .ref s.heap.objs.size ∧ s₁ = { s with heap := s.heap.push { cls := .type "list", data := .seq #[] } }) PySem.F.called_list (PySem.F.typeCall_list_1 _) PySem.F.entry_list_init
    (code_list_new _ ⟨rfl, rfl⟩) fun obj s₁ h₁ => ?_
  obtain ⟨rfl, rfl⟩ := h₁
  have hS : (s.heap.push { cls := .type "list", data := .seq #[] }).get? s.heap.objs.size = some { cls := .type "list", data := .seq #[] } := Heap.get?_push_size _ rfl
  have z1 := ltS hz
  have z2 := ltS hTI
  have z3 := ltS hTO
  obtain ⟨o1, g1, _⟩ := id h1
  obtain ⟨o2, g2, _⟩ := id h2
  obtain ⟨o3, g3, _⟩ := id hl1
  obtain ⟨o4, g4, _⟩ := id hl2
  have z4 := ltS g1
  have z5 := ltS g2
  have z6 := ltS g3
  have z7 := ltS g4
  obtain ⟨k1, k2, k3, k4, k5⟩ := k0
  have pk : ∀ b o, s.heap.get? b = some o → (s.heap.push { cls := .type "list", data := .seq #[] }).get? b = some o := fun b o e => Heap.get?_push_of_some _ e
  have dS : s.heap.objs.size ≠ z ∧ s.heap.objs.size ≠ TI ∧ s.heap.objs.size ≠ TO ∧ s.heap.objs.size ≠ i1 ∧ s.heap.objs.size ≠ i2 ∧ s.heap.objs.size ≠ l1 ∧ s.heap.objs.size ≠ l2 := ⟨neA (by omega), neA (by omega), neA (by omega), neA (by omega), neA (by omega), neA (by omega), neA (by omega)⟩
  refine ⟨⟨_, hS, rfl⟩, PySem.F.args_list_init_2 _ _, ?_⟩
  show wpAny _ _ (do let old ← Builtin.List.listItems (.ref s.heap.objs.size); Builtin.List.listUpdate (.ref s.heap.objs.size) (fun _ => #[]); letGo old.toList.reverse; Builtin.List.listExtendWith (.ref s.heap.objs.size) (.ref z) .none) _ _ _
  refine wpAny_bind ?_
  unfold Builtin.List.listItems
  refine wpAny_bind (wpAny_seqItems hS rfl (wpAny_pure ?_))
  show wpAny _ _ (updateSeq s.heap.objs.size (fun _ => #[]) >>= fun _ => letGo (#[] : Array Value).toList.reverse >>= fun _ => Builtin.List.listExtendWith (.ref s.heap.objs.size) (.ref z) .none) _ _ _
  refine wpAny_bind (wpAny_updateSeq hS rfl ?_)
  have hS₂ := Heap.get?_update_self (Obj.mapSeq (fun _ => (#[] : Array Value))) hS rfl
  have oth : ∀ b o, b ≠ s.heap.objs.size → s.heap.get? b = some o → ((s.heap.push { cls := .type "list", data := .seq #[] }).update s.heap.objs.size (Obj.mapSeq (fun _ => (#[] : Array Value)))).get? b = some o :=
    fun b o hb e => (Heap.get?_update_other _ _ (Ne.symm hb)).trans (pk b o e)
  refine wpAny_bind (wpAny_letGo ?_)
  have st : ZSt s.heap.objs.size z TI TO i1 i2 l1 l2 xs ys 0 s.heap := ⟨hTI, h1, h2, hl1, hl2, .inl ⟨hz, a, b, hTO⟩⟩
  refine listExtend_zip (s := { s with heap := (s.heap.push { cls := .type "list", data := .seq #[] }).update s.heap.objs.size (Obj.mapSeq (fun _ => (#[] : Array Value))) }) (A := A.in1) (by simp [hh]) D hn dS .none (base := s.heap.objs.size + 1) ⟨by omega, by omega, by omega, by omega, by omega⟩ (h0 := h0) ⟨k1, k3, k4, k5, by omega⟩ _ (oth _ _ (neA (by omega)) hz) (st.frame dS oth) (by
    show s.heap.objs.size + 1 ≤ _
    rw [Heap.size_update, Heap.size_push]
    exact Nat.le_refl _) (fun b o e => ?_) hS₂ (fun h' tk acc' c' Ts' p1 p2 p3 p4 p5 => ⟨rfl, hQ h' tk acc' c' Ts' p1 p2 p3 p4 p5⟩)
  have := ltS (K0 b o e)
  exact oth b o (neA (by omega)) (K0 b o e)
end
end PL
namespace PL
open PySem PySem.Spec PyProof.Rows L2
/-- pairs laid, by states -/
def updPs : Hp → List (Addr × V × V) → Hp
  | H, [] => H
  | H, p :: ps => updPs (upd H p.1 (.tup [p.2.1, p.2.2])) ps
theorem updPs_out : ∀ {ps : List (Addr × V × V)} {H : Hp} {b : Addr}, b ∉ ps.map (·.1) → updPs H ps b = H b
  | [], _, _, _ => rfl
  | p :: ps, H, b, h => by
    rw [List.map_cons, List.mem_cons, not_or] at h
    show updPs (upd H p.1 _) ps b = H b
    rw [updPs_out h.2, upd_ne h.1]
theorem updPs_at : ∀ {ps : List (Addr × V × V)} {H : Hp} {p : Addr × V × V}, (ps.map (·.1)).Nodup → p ∈ ps → updPs H ps p.1 = some (.tup [p.2.1, p.2.2])
  | q :: ps, H, p, nd, h => by
    rw [List.map_cons, List.nodup_cons] at nd
    show updPs (upd H q.1 _) ps p.1 = _
    rcases List.mem_cons.mp h with rfl | h
    · rw [updPs_out nd.1, upd_same]
    · exact updPs_at nd.2 h
section
variable {P : Program} {w : World} {fs : List Addr} {H Hk : Hp} {h h' : Heap}
theorem un_more {a : Addr} {o : HO} (u : Un fs [] H Hk h h') (hp : h.objs.size ≤ a) (hn : Hk a = none) : Un fs [] H (upd Hk a o) h h' where
  keep := u.keep
  slot := u.slot
  free := fun b ob q n hx => by
    rw [upd_ne (neA (.inl (Nat.lt_of_lt_of_le (ltS q) hp)))]; exact u.free b ob q n hx
  there := u.there
  tups := fun b xs q => by rw [upd_ne (ne_of_none (u.tups b xs q) hn)]; exact u.tups b xs q
  frzs := fun b ob xs q => by rw [upd_ne (ne_of_none (u.frzs b ob xs q) hn)]; exact u.frzs b ob xs q
  tbls := fun b ps q => by
    obtain ⟨m, e⟩ := u.tbls b ps q
    exact ⟨m, by rw [upd_ne (ne_of_none e hn)]; exact e⟩
theorem laidPs : ∀ {ps : List (Addr × V × V)} {Hk : Hp}, Un fs [] H Hk h h' → HOk P w Hk h' → (∀ p ∈ ps, h.objs.size ≤ p.1 ∧ Hk p.1 = none) → (ps.map (·.1)).Nodup → (∀ p ∈ ps, ∃ u v, RelV p.2.1 u ∧ RelV p.2.2 v ∧ IsPair h' p.1 u v) →
    Un fs [] H (updPs Hk ps) h h' ∧ HOk P w (updPs Hk ps) h'
  | [], _, u, x, _, _, _ => ⟨u, x⟩
  | p :: ps, Hk, u, x, hb, nd, hr => by
    rw [List.map_cons, List.nodup_cons] at nd
    obtain ⟨h1, h2⟩ := hb p (List.mem_cons_self ..)
    obtain ⟨a, b, r1, r2, hp⟩ := hr p (List.mem_cons_self ..)
    refine laidPs (ps := ps) (un_more u h1 h2) (x.laidN (fun _ _ e => e) h2 ?_) (fun q hq => ?_) nd.2 fun q hq => hr q (List.mem_cons_of_mem _ hq)
    · exact ⟨show 2 ≤ 16777216 by decide, [a, b], .cons r1 (.cons r2 .nil), ⟨_, hp, rfl, _, rfl⟩⟩
    · have := hb q (List.mem_cons_of_mem _ hq)
      refine ⟨this.1, ?_⟩
      rw [upd_ne (show q.1 ≠ p.1 from fun z => nd.1 (z ▸ List.mem_map.mpr ⟨q, hq, rfl⟩))]
      exact this.2
end
def pz (Ts : List Addr) (xs ys : List V) : List (Addr × V × V) := Ts.zip (xs.zip ys)
theorem pz_fst {Ts : List Addr} {xs ys : List V} (h : Ts.length = min xs.length ys.length) : (pz Ts xs ys).map (·.1) = Ts := by
  unfold pz
  rw [List.map_fst_zip]
  rw [List.length_zip, h]
  exact Nat.le_refl _
theorem pz_get {Ts : List Addr} {xs ys : List V} {p : Addr × V × V} (h : p ∈ pz Ts xs ys) : ∃ j : Nat, Ts[j]? = some p.1 ∧ xs[j]? = some p.2.1 ∧ ys[j]? = some p.2.2 := by
  obtain ⟨j, hj⟩ := List.mem_iff_getElem?.mp h
  obtain ⟨h1, h2⟩ := List.getElem?_zip_eq_some.mp hj
  obtain ⟨h3, h4⟩ := List.getElem?_zip_eq_some.mp h2
  exact ⟨j, h1, h3, h4⟩
def tListZip (K : PySem.W.Frag) (ta : TA) : TE := fun σ H Q => ta σ H fun vs H1 => ∃ a b xs ys, vs = [.ref a, .ref b] ∧ SqL K H1 a xs ∧ SqL K H1 b ys ∧ ∀ (Ts : List Addr) l, Ts.length = min xs.length ys.length → Ts.Nodup → (∀ T ∈ Ts, H1 T = none) → H1 l = none → l ∉ Ts →
  Q (.ref l) (upd (updPs H1 (pz Ts xs ys)) l (.lst (Ts.map V.ref)))
theorem vals_refs : ∀ (Ts : List Addr), Vals (Ts.map V.ref) (Ts.map Value.ref)
  | [] => .nil
  | _ :: Ts => .cons rfl (vals_refs Ts)
theorem pe_listZip {X : Cx} {e e2 : Expr} {ta : TA} {p p2 pos pos2 : Pos} (hc : X.calm = true) (hgl : Gl X "list") (hml : X.mg "list" = none) (hg : Gl X "zip") (hm : X.mg "zip" = none) (ha : PA X [e, e2] ta)
    (hs : starEach [e, e2] X.env = (false, eval e X.env) :: starEach [e2] X.env := by rfl) (hpl : (backTo pos (starEach [e2] X.env)).any (·.1) = false := by rfl)
    (hs2 : starEach [.Call (.Name "zip" p) [e, e2] [] pos] X.env = (false, eval (.Call (.Name "zip" p) [e, e2] [] pos) X.env) :: starEach [] X.env := by rfl) (hpl2 : (backTo pos2 (starEach [] X.env)).any (·.1) = false := by rfl) :
    PE X (.Call (.Name "list" p2) [.Call (.Name "zip" p) [e, e2] [] pos] [] pos2) (tListZip X.K ta) := by
  refine ⟨fun pins s σ H R I h => ?_⟩
  refine Call_ (ld_blt I hgl hml PyProof.Rows.boot_list (PyProof.Rows.callWith_type1 ?_ hs2 hpl2))
  rw [hs2]
  refine args_cons (Call_ (ld_blt I hg hm PyProof.Rows.boot_zip (PyProof.Rows.callWith_type1 (thn (ha.run pos pins s σ H _ I h) fun us s1 ⟨vs, H1, I1, r1, q1⟩ => ?_) hs hpl)))
  obtain ⟨a, b, xs, ys, ex, hqx, hqy, q⟩ := q1
  subst ex
  cases r1 with
  | cons r rr =>
    cases rr with
    | cons r' rr =>
      cases rr
      cases r
      cases r'
      obtain ⟨its, rv, p1, z1⟩ := I1.list hqx
      obtain ⟨its2, rv2, p2, z2⟩ := I1.list hqy
      have la : a < s1.heap.objs.size := p1.lt
      have lb : b < s1.heap.objs.size := p2.lt
      have l1 := rv.length
      have l2 := rv2.length
      refine call_zip_2 p1.isList p2.isList fun h' hz hTI hTO h1 h2 hsz hk => args_nil ?_
      have mm : min its.toArray.size its2.toArray.size = min xs.length ys.length := by simp [l1, l2]
      refine call_list_zip (s := { s1 with heap := h' }) (I.ok.hd hc) (PySem.W.ktu_apart s1.heap.objs.size a b la lb) (by rw [mm]; omega) (h0 := s1.heap) ⟨Nat.le_add_right _ _, Nat.le_add_right _ _, Nat.le_add_right _ _, Nat.le_refl _, Nat.le_add_right _ _⟩ hz hTI hTO h1 h2 (p1.isList.at fun o e => hk _ o e) (p2.isList.at fun o e => hk _ o e) hk
        fun g tk acc c Ts k1 k2 k3 k4 T => ?_
      have k4' : Ts.length = min xs.length ys.length := by rw [k4, mm]
      have far : ∀ t ∈ Ts, s1.heap.objs.size ≤ t := fun t ht => by
        have := (T.bd t ht).1
        have : h'.objs.size + 1 ≤ t := this
        omega
      have farS : s1.heap.objs.size ≤ h'.objs.size := by omega
      have notS : h'.objs.size ∉ Ts := fun z => by
        have := (T.bd _ z).1
        have : h'.objs.size + 1 ≤ h'.objs.size := this
        omega
      have nd : Ts.Nodup := T.inc.imp fun {x y} (z : x < y) => neA (.inl z)
      have fst := pz_fst k4'
      have fr : ∀ c, s1.heap.objs.size ≤ c → H1 c = none := fun c hc => I1.hok.fresh hc
      obtain ⟨U, HO⟩ := laidPs (ps := pz Ts xs ys) (Un.kept k1) (I1.hok.kept k1) (fun pp hp => by
        have : pp.1 ∈ Ts := by rw [← fst]; exact List.mem_map.mpr ⟨pp, hp, rfl⟩
        exact ⟨far _ this, fr _ (far _ this)⟩) (by rw [fst]; exact nd) (fun pp hp => by
        obtain ⟨j, e1, e2, e3⟩ := pz_get hp
        obtain ⟨u, v, e4, e5, e6⟩ := T.at_ j _ e1
        obtain ⟨u', e7, r7⟩ := rv.get e2
        obtain ⟨v', e8, r8⟩ := rv2.get e3
        have e4 : its[j]? = some u := by simpa using e4
        have e5 : its2[j]? = some v := by simpa using e5
        rw [e7] at e4
        rw [e8] at e5
        cases e4
        cases e5
        exact ⟨_, _, r7, r8, e6⟩)
      have nS : updPs H1 (pz Ts xs ys) h'.objs.size = none := by
        rw [updPs_out (by rw [fst]; exact notS)]
        exact fr _ farS
      have accE : acc = (Ts.map Value.ref).toArray := by rw [← k3]
      have I2 := I1.un (t' := tk) (un_more (o := .lst (Ts.map V.ref)) U farS nS) (HO.laidN (fun _ _ e => e) nS ⟨by rw [List.length_map]; omega, Ts.map Value.ref, c, vals_refs Ts, by rw [← accE]; exact k2⟩)
      exact ⟨.ref h'.objs.size, _, I2, rfl, q Ts h'.objs.size k4' nd (fun t ht => fr _ (far t ht)) (fr _ farS) notS⟩
section
variable {K : PySem.W.Frag} {F H : Hp} {B : Addr → Prop} {env : En} {σ : L2.St} {As : List (List Addr)}
theorem SO.pairs : ∀ {ps : List (Addr × V × V)} {H : Hp}, SO K F H B env σ As → (∀ p ∈ ps, H p.1 = none) → (ps.map (·.1)).Nodup → PostE K true F H B env σ As F (updPs H ps) env As
  | [], H, s, _, _ => .refl s
  | p :: ps, H, s, h, nd => by
    rw [List.map_cons, List.nodup_cons] at nd
    have po := s.newO (o := .tup [p.2.1, p.2.2]) (h p (List.mem_cons_self ..))
    refine po.trans (SO.pairs (ps := ps) po.so (fun q hq => ?_) nd.2)
    rw [upd_ne (show q.1 ≠ p.1 from fun z => nd.1 (z ▸ List.mem_map.mpr ⟨q, hq, rfl⟩))]
    exact h q (List.mem_cons_of_mem _ hq)
end
def wListZip (wa : WA) : WE := fun env R => wa env fun ds e1 => match ds with
  | [.obj _ sh xs, .obj _ sh2 ys] => isSeq sh = true ∧ isSeq sh2 = true ∧ R (.lst true (zipD (D.frzL xs) (D.frzL ys))) e1
  | _ => False
theorem zip_rep {K : PySem.W.Frag} {F G H H' : Hp} : ∀ {Ts : List Addr} {xs ys : List D} {vs us : List V}, RepL K F H xs vs [] → RepL K F H ys us [] → Same F G → Ts.length = min vs.length us.length → (∀ p ∈ pz Ts vs us, G p.1 = some (.tup [p.2.1, p.2.2])) → RepL K G H' (zipD xs ys) (Ts.map V.ref) [] := by
  intro Ts
  induction Ts with
  | nil =>
    intro xs ys vs us rx ry _ hl _
    have e1 := rx.length
    have e2 := ry.length
    have : zipD xs ys = [] := by
      refine List.eq_nil_of_length_eq_zero ?_
      unfold zipD
      rw [List.length_zipWith]
      simp at hl
      omega
    rw [this]
    exact .nil
  | cons T Ts ih =>
    intro xs ys vs us rx ry sm hl hp
    cases vs with
    | nil => simp at hl
    | cons v vs =>
      cases us with
      | nil => simp at hl
      | cons u us =>
        cases xs with
        | nil => cases rx
        | cons x xs =>
          cases ys with
          | nil => cases ry
          | cons y ys =>
            obtain ⟨v', vs', A1, A2, e1, e0, r1, r2⟩ := rx.cons_inv
            cases e1
            obtain ⟨rfl, rfl⟩ := List.append_eq_nil_iff.mp e0.symm
            obtain ⟨u', us', A3, A4, e2, e3, r3, r4⟩ := ry.cons_inv
            cases e2
            obtain ⟨rfl, rfl⟩ := List.append_eq_nil_iff.mp e3.symm
            have h1 := hp (T, v, u) (List.mem_cons_self ..)
            refine .cons (A := []) (B := []) (.tup (A := []) h1 (.cons (A := []) (B := []) (r1.frame sm fun _ z => nomatch z) (.one (r3.frame sm fun _ z => nomatch z)))) (ih r2 r4 sm (by simp at hl; omega) fun p hq => hp p (List.mem_cons_of_mem _ hq))
theorem de_listZip {X : Cx} {pp : Bool} {e e2 : Expr} {wa : WA} {p p2 pos pos2 : Pos} (hc : X.calm = true) (hgl : Gl X "list") (hml : X.mg "list" = none) (hg : Gl X "zip") (hm : X.mg "zip" = none) (ha : DA pp X [e, e2] wa)
    (hs : starEach [e, e2] X.env = (false, eval e X.env) :: starEach [e2] X.env := by rfl) (hpl : (backTo pos (starEach [e2] X.env)).any (·.1) = false := by rfl)
    (hs2 : starEach [.Call (.Name "zip" p) [e, e2] [] pos] X.env = (false, eval (.Call (.Name "zip" p) [e, e2] [] pos) X.env) :: starEach [] X.env := by rfl) (hpl2 : (backTo pos2 (starEach [] X.env)).any (·.1) = false := by rfl) :
    DE pp X (.Call (.Name "list" p2) [.Call (.Name "zip" p) [e, e2] [] pos] [] pos2) (wListZip wa) := by
  refine ⟨PEimp (pe_listZip hc hgl hml hg hm ha.pa hs hpl hs2 hpl2) ?_⟩
  rintro σ H Q ⟨F, B, env, As, R, s, hw, k⟩
  refine ⟨F, B, env, As, _, s, hw, fun vs H1 F1 As1 a ds e1 po1 t1 h1 => ?_⟩
  obtain ⟨po2, r2⟩ := po1.so.freezeL t1
  split at h1
  · obtain ⟨hs1, hs2, h1⟩ := h1
    obtain ⟨v, us, A1, A2, rfl, e0, q1, q2⟩ := r2.cons_inv
    obtain ⟨v2, us2, A3, A4, rfl, e3, q3, q4⟩ := q2.cons_inv
    obtain ⟨rfl, _⟩ := q4.nil_inv
    obtain ⟨a1, xs', rfl, hx, rx⟩ := Rep.frz_seq (o := false) hs1 q1
    obtain ⟨a2, ys', rfl, hy, ry⟩ := Rep.frz_seq (o := false) hs2 q3
    refine ⟨a1, a2, xs', ys', rfl, po2.so.same.seq hx, po2.so.same.seq hy, fun Ts l hl nd hn hln hlT => ?_⟩
    have fst := pz_fst hl
    have po3 := po2.so.pairs (ps := pz Ts xs' ys') (fun q hq => hn _ (by rw [← fst]; exact List.mem_map.mpr ⟨q, hq, rfl⟩)) (by rw [fst]; exact nd)
    have tup : ∀ t ∈ Ts, ∃ ws, updPs H1 (pz Ts xs' ys') t = some (.tup ws) := fun t ht => by
      rw [← fst] at ht
      obtain ⟨q, hq, rfl⟩ := List.mem_map.mp ht
      exact ⟨_, updPs_at (by rw [fst]; exact nd) hq⟩
    have po4 := po3.so.tups tup
    have rz := zip_rep (H' := updPs H1 (pz Ts xs' ys')) rx ry (po3.ext.trans po4.ext) hl fun q hq => by
      rw [fzAt_in (show q.1 ∈ Ts by rw [← fst]; exact List.mem_map.mpr ⟨q, hq, rfl⟩)]
      exact updPs_at (by rw [fst]; exact nd) hq
    refine out_lst (R := fun z => R z e1) po4.so rz h1 (fun v' H3 F3 c z po5 t3 h3 => k v' H3 F3 As1 c z e1 (po1.trans ((po2.trans (po3.trans (po4.trans po5))).imp fun _ => rfl)) t3 h3) l ?_
    rw [updPs_out (by rw [fst]; exact hlT)]
    exact hln
  · exact h1.elim
end PL

/-! PL3: walks of zip(a, b, c). -/
namespace PL
open PySem PySem.Spec PyProof.Rows L2
theorem typeCall_zip3 (a b c : Value) : checkTypeCall "zip" ⟨[a, b, c], []⟩ = pure () := by kernel_rfl
theorem newCall_zip3 (a b c : Value) : checkBuiltinCall "zip.__new__" ⟨[.type "zip", a, b, c], []⟩ = pure () := by kernel_rfl
theorem args_init4 (a b c d : Value) : argsOk "object.__init__" ⟨[a, b, c, d], []⟩ := by
  unfold argsOk; rw [signature?_of (id := "object.__init__") (n := ['_', '_', 't', 'i', 'n', 'i', '_', '_']) (o := ['t', 'c', 'e', 'j', 'b', 'o']) (by kernel_rfl) PySem.F.owner_object]; kernel_rfl
def Is3 (h : Heap) (T : Addr) (a b c : Value) : Prop := h.get? T = some { cls := .type "tuple", data := .seq #[a, b, c] }
/-- a zip of three lists, k told; its objects lie from I on -/
structure Z3 (I l1 l2 l3 k : Nat) (h : Heap) (f0 : Value) : Prop where
  z : IsZip h (I + 5) (I + 3) (I + 4) f0
  ti : Is3 h (I + 3) (.ref I) (.ref (I + 1)) (.ref (I + 2))
  to : ∃ a b c, Is3 h (I + 4) a b c
  a : h.IsListIter I l1 k
  b : h.IsListIter (I + 1) l2 k
  c : h.IsListIter (I + 2) l3 k
/-- what a turn of it leaves alone -/
def Off3 (I c : Nat) : Prop := c < I ∨ c = I + 3 ∨ I + 5 < c
section
variable {prog : Program} {w : World} {A : Around} {E : Value → Shared → Prop} {s : Shared} {I l1 l2 l3 k : Nat} {xs ys zs : Array Value} {x y v : Value}
theorem put3 {T : Addr} {a b c x : Value} {k : Nat} {Q : Unit → Shared → Prop} (hT : Is3 s.heap T a b c)
    (h : ∀ h', h'.get? T = some { cls := .type "tuple", data := .seq ((#[a, b, c] : Array Value).setIfInBounds k x) } → Heap.SameBut T s.heap h' → Q () { s with heap := h' }) :
    wpAny (model prog w) A (updateSeq T (·.setIfInBounds k x)) Q E s := by
  refine wpAny_updateSeq hT rfl (h _ ?_ (Heap.SameBut.update ..))
  rw [Heap.get?_update_self _ hT rfl]
  simp [Obj.mapSeq]
theorem z3_item {Q : Value → Shared → Prop} (d : l1 < I ∧ l2 < I ∧ l3 < I) (st : Z3 I l1 l2 l3 k s.heap .none) (hl1 : s.heap.IsList l1 xs) (hl2 : s.heap.IsList l2 ys) (hl3 : s.heap.IsList l3 zs) (hx : xs[k]? = some x) (hy : ys[k]? = some y) (hv : zs[k]? = some v)
    (hQ : ∀ h', Z3 I l1 l2 l3 (k + 1) h' (rawInt s.heap.objs.size) → Is3 h' s.heap.objs.size x y v → h'.objs.size = s.heap.objs.size + 1 → (∀ (c : Nat) o, Off3 I c → s.heap.get? c = some o → h'.get? c = some o) → Q (.ref s.heap.objs.size) { s with heap := h' }) :
    wpAny (model prog w) A (Builtin.«zip.__next__» ⟨[.ref (I + 5)], []⟩) (fun fin s' => ∃ v, fin = .done (.ret v) ∧ Q v s') E s := by
  obtain ⟨hz, hTI, ⟨a0, b0, c0, hTO⟩, h1, h2, h3⟩ := st
  obtain ⟨d1, d2, d3⟩ := d
  show wpAny _ _ (field (.ref (I + 5)) 2 >>= _) _ _ _
  refine wpAny_bind (wpAny_field hz rfl (x := .bool false) rfl ?_)
  show wpAny _ _ (field (.ref (I + 5)) 3 >>= _) _ _ _
  refine wpAny_bind (wpAny_field hz rfl (x := .ref (I + 3)) rfl ?_)
  refine wpAny_bind (wpAny_seqItems hTI rfl ?_)
  show wpAny _ _ (Builtin.SmallTypes.ownedTupleIsFree (.ref (I + 5)) >>= _) _ _ _
  refine wpAny_bind ?_
  unfold Builtin.SmallTypes.ownedTupleIsFree
  refine wpAny_bind (wpAny_field hz rfl (x := .none) rfl (wpAny_pure ?_))
  simp only [if_true]
  refine wpAny_bind (wpAny_rule ?_)
  refine wpAny_bind (wpAny_field hz rfl (x := .ref (I + 4)) rfl ?_)
  refine wpAny_bind (wpAny_setField_rec hz (by simp) fun g₁ hz₁ q₁ => ?_)
  replace hz₁ : IsZip g₁ (I + 5) (I + 3) (I + 4) .ellipsis := hz₁
  refine wpAny_bind ?_
  simp only [List.zipIdx_cons, List.zipIdx_nil, List.forIn_cons, List.forIn_nil]
  -- the first
  refine wpAny_bind (wpAny_bind (wpAny_onRaise ?_))
  show wpAny _ _ (Builtin.SmallTypes.nextOf (.ref I) >>= _) _ _ _
  refine wpAny_bind (wpAny_nextOf_list_item (s := { s with heap := g₁ }) (h1.extBut q₁.extBut (neA (by omega))) (hl1.extBut q₁.extBut (neA (by omega))) hx fun g₂ h1₂ q₂ => wpAny_pure ?_)
  have o₂ : Is3 g₂ (I + 4) a0 b0 c0 := q₂.extBut _ _ (neA (by omega)) (q₁.extBut _ _ (neA (by omega)) hTO)
  refine wpAny_bind (wpAny_seqItems o₂ rfl ?_)
  refine wpAny_bind (put3 (s := { s with heap := g₂ }) o₂ fun g₃ o₃ q₃ => ?_)
  replace o₃ : Is3 g₃ (I + 4) x b0 c0 := o₃
  refine wpAny_bind (wpAny_letGo (wpAny_pure ?_))
  -- the second
  refine wpAny_bind (wpAny_bind (wpAny_onRaise ?_))
  show wpAny _ _ (Builtin.SmallTypes.nextOf (.ref (I + 1)) >>= _) _ _ _
  refine wpAny_bind (wpAny_nextOf_list_item (s := { s with heap := g₃ }) (((h2.extBut q₁.extBut (neA (by omega))).extBut q₂.extBut (neA (by omega))).extBut q₃.extBut (neA (by omega)))
    (((hl2.extBut q₁.extBut (neA (by omega))).extBut q₂.extBut (neA (by omega))).extBut q₃.extBut (neA (by omega))) hy fun g₄ h2₄ q₄ => wpAny_pure ?_)
  have o₄ : Is3 g₄ (I + 4) x b0 c0 := q₄.extBut _ _ (neA (by omega)) o₃
  refine wpAny_bind (wpAny_seqItems o₄ rfl ?_)
  refine wpAny_bind (put3 (s := { s with heap := g₄ }) o₄ fun g₅ o₅ q₅ => ?_)
  replace o₅ : Is3 g₅ (I + 4) x y c0 := o₅
  refine wpAny_bind (wpAny_letGo (wpAny_pure ?_))
  -- the third
  refine wpAny_bind (wpAny_bind (wpAny_onRaise ?_))
  show wpAny _ _ (Builtin.SmallTypes.nextOf (.ref (I + 2)) >>= _) _ _ _
  refine wpAny_bind (wpAny_nextOf_list_item (s := { s with heap := g₅ }) (((((h3.extBut q₁.extBut (neA (by omega))).extBut q₂.extBut (neA (by omega))).extBut q₃.extBut (neA (by omega))).extBut q₄.extBut (neA (by omega))).extBut q₅.extBut (neA (by omega)))
    (((((hl3.extBut q₁.extBut (neA (by omega))).extBut q₂.extBut (neA (by omega))).extBut q₃.extBut (neA (by omega))).extBut q₄.extBut (neA (by omega))).extBut q₅.extBut (neA (by omega))) hv fun g₆ h3₆ q₆ => wpAny_pure ?_)
  have o₆ : Is3 g₆ (I + 4) x y c0 := q₆.extBut _ _ (neA (by omega)) o₅
  refine wpAny_bind (wpAny_seqItems o₆ rfl ?_)
  refine wpAny_bind (put3 (s := { s with heap := g₆ }) o₆ fun g₇ o₇ q₇ => ?_)
  replace o₇ : Is3 g₇ (I + 4) x y v := o₇
  refine wpAny_bind (wpAny_letGo (wpAny_pure (wpAny_pure ?_)))
  -- handed out
  refine wpAny_bind (wpAny_seqItems o₇ rfl ?_)
  refine wpAny_bind (wpAny_newTuple ?_)
  have sz : g₇.objs.size = s.heap.objs.size := by rw [q₇.1, q₆.1, q₅.1, q₄.1, q₃.1, q₂.1, q₁.1]
  have kp : ∀ (c : Nat) o, c ≠ I → c ≠ I + 1 → c ≠ I + 2 → c ≠ I + 4 → c ≠ I + 5 → s.heap.get? c = some o → g₇.get? c = some o := fun c o c1 c2 c3 c4 c5 e =>
    q₇.extBut _ _ c4 (q₆.extBut _ _ c3 (q₅.extBut _ _ c4 (q₄.extBut _ _ c2 (q₃.extBut _ _ c4 (q₂.extBut _ _ c1 (q₁.extBut _ _ c5 e))))))
  have z₇ : IsZip g₇ (I + 5) (I + 3) (I + 4) .ellipsis := q₇.extBut _ _ (neA (by omega)) (q₆.extBut _ _ (neA (by omega)) (q₅.extBut _ _ (neA (by omega)) (q₄.extBut _ _ (neA (by omega)) (q₃.extBut _ _ (neA (by omega)) (q₂.extBut _ _ (neA (by omega)) hz₁)))))
  have a₇ : g₇.IsListIter I l1 (k + 1) := ((((h1₂.extBut q₃.extBut (neA (by omega))).extBut q₄.extBut (neA (by omega))).extBut q₅.extBut (neA (by omega))).extBut q₆.extBut (neA (by omega))).extBut q₇.extBut (neA (by omega))
  have b₇ : g₇.IsListIter (I + 1) l2 (k + 1) := ((h2₄.extBut q₅.extBut (neA (by omega))).extBut q₆.extBut (neA (by omega))).extBut q₇.extBut (neA (by omega))
  have c₇ : g₇.IsListIter (I + 2) l3 (k + 1) := h3₆.extBut q₇.extBut (neA (by omega))
  have t₇ : Is3 g₇ (I + 3) (.ref I) (.ref (I + 1)) (.ref (I + 2)) := kp _ _ (by omega) (by omega) (by omega) (by omega) (by omega) hTI
  have zl : I + 5 < g₇.objs.size := ltS z₇
  show wpAny _ _ (Builtin.SmallTypes.ownedTupleHandOut (.ref (I + 5)) (.ref g₇.objs.size) >>= _) _ _ _
  refine wpAny_bind ?_
  unfold Builtin.SmallTypes.ownedTupleHandOut
  have z₈ : IsZip (g₇.push { cls := .type "tuple", data := .seq #[x, y, v] }) (I + 5) (I + 3) (I + 4) .ellipsis := Heap.get?_push_of_some _ z₇
  refine wpAny_bind (wpAny_setField_rec z₈ (by simp) fun g₉ z₉ q₉ => ?_)
  replace z₉ : IsZip g₉ (I + 5) (I + 3) (I + 4) (rawInt g₇.objs.size) := z₉
  refine wpAny_setField_rec z₉ (by simp) fun g zg qg => ?_
  replace zg : IsZip g (I + 5) (I + 3) (I + 4) (rawInt g₇.objs.size) := zg
  have up : ∀ (c : Nat) o, c ≠ I + 5 → g₇.get? c = some o → g.get? c = some o := fun c o c1 e => qg.extBut _ _ c1 (q₉.extBut _ _ c1 (Heap.get?_push_of_some _ e))
  have hT : Is3 g g₇.objs.size x y v := qg.extBut _ _ (neA (by omega)) (q₉.extBut _ _ (neA (by omega)) (Heap.get?_push_size _ rfl))
  have gs : g.objs.size = g₇.objs.size + 1 := by rw [qg.1, q₉.1, Heap.size_push]
  rw [sz] at zg hT gs
  refine wpAny_pure ⟨_, rfl, ?_⟩
  show Q (.ref g₇.objs.size) _
  rw [sz]
  refine hQ g ⟨zg, up _ _ (by omega) t₇, ⟨x, y, v, up _ _ (by omega) o₇⟩, a₇.at fun o e => up _ o (by omega) e, b₇.at fun o e => up _ o (by omega) e, c₇.at fun o e => up _ o (by omega) e⟩ hT gs fun c o hc e => ?_
  unfold Off3 at hc
  exact up c o (by omega) (kp c o (by omega) (by omega) (by omega) (by omega) (by omega) e)
theorem z3_end {Q : Fin → Shared → Prop} (hh : A.handled = none) (d : l1 < I ∧ l2 < I ∧ l3 < I) (st : Z3 I l1 l2 l3 k s.heap .none) (hl1 : s.heap.IsList l1 xs) (hl2 : s.heap.IsList l2 ys) (hl3 : s.heap.IsList l3 zs) (hend : xs[k]? = none ∨ ys[k]? = none ∨ zs[k]? = none)
    (hE : ∀ h' e, (∀ (c : Nat) o, Off3 I c → s.heap.get? c = some o → h'.get? c = some o) → (∃ o, h'.get? e = some o ∧ o.cls = .type "StopIteration") → E (.ref e) { s with heap := h' }) :
    wpAny (model prog w) A (Builtin.«zip.__next__» ⟨[.ref (I + 5)], []⟩) Q E s := by
  obtain ⟨hz, hTI, ⟨a0, b0, c0, hTO⟩, h1, h2, h3⟩ := st
  obtain ⟨d1, d2, d3⟩ := d
  show wpAny _ _ (field (.ref (I + 5)) 2 >>= _) _ _ _
  refine wpAny_bind (wpAny_field hz rfl (x := .bool false) rfl ?_)
  show wpAny _ _ (field (.ref (I + 5)) 3 >>= _) _ _ _
  refine wpAny_bind (wpAny_field hz rfl (x := .ref (I + 3)) rfl ?_)
  refine wpAny_bind (wpAny_seqItems hTI rfl ?_)
  show wpAny _ _ (Builtin.SmallTypes.ownedTupleIsFree (.ref (I + 5)) >>= _) _ _ _
  refine wpAny_bind ?_
  unfold Builtin.SmallTypes.ownedTupleIsFree
  refine wpAny_bind (wpAny_field hz rfl (x := .none) rfl (wpAny_pure ?_))
  simp only [if_true]
  refine wpAny_bind (wpAny_rule ?_)
  refine wpAny_bind (wpAny_field hz rfl (x := .ref (I + 4)) rfl ?_)
  refine wpAny_bind (wpAny_setField_rec hz (by simp) fun g₁ hz₁ q₁ => ?_)
  replace hz₁ : IsZip g₁ (I + 5) (I + 3) (I + 4) .ellipsis := hz₁
  refine wpAny_bind ?_
  simp only [List.zipIdx_cons, List.zipIdx_nil, List.forIn_cons, List.forIn_nil]
  -- the end, at whichever of them it comes
  have stop : ∀ (j : Nat) (g g' : Heap) (e : Addr), j < 3 → IsZip g (I + 5) (I + 3) (I + 4) .ellipsis → (∀ (c : Nat) o, Off3 I c → s.heap.get? c = some o → g.get? c = some o) → (∀ (a : Addr) o, a ≠ I + j → g.get? a = some o → g'.get? a = some o) → (∃ o, g'.get? e = some o ∧ o.cls = .type "StopIteration") →
      wpAny (model prog w) A (setField (.ref (I + 5)) 0 .none) (fun _ s' => E (.ref e) s') E { s with heap := g' } := fun j g g' e hj zg kg q he => by
    obtain ⟨oe, hoe, hce⟩ := he
    have z' : IsZip g' (I + 5) (I + 3) (I + 4) .ellipsis := q _ _ (neA (by omega)) zg
    have hez : e ≠ I + 5 := fun x => by subst x; rw [z'] at hoe; cases hoe; simp at hce
    refine wpAny_setField_rec (s := { s with heap := g' }) z' (by simp) fun g₃ _ q₃ => hE g₃ e (fun c o hc x => ?_) ⟨oe, q₃.extBut _ _ hez hoe, hce⟩
    have hc' := hc
    unfold Off3 at hc'
    exact q₃.extBut _ _ (show (c : Addr) ≠ I + 5 from neA (by omega)) (q _ _ (show (c : Addr) ≠ I + j from neA (by omega)) (kg c o hc x))
  have k₁ : ∀ (c : Nat) o, Off3 I c → s.heap.get? c = some o → g₁.get? c = some o := fun c o hc x => by
    unfold Off3 at hc
    exact q₁.extBut _ _ (show (c : Addr) ≠ I + 5 from neA (by omega)) x
  refine wpAny_bind (wpAny_bind (wpAny_onRaise ?_))
  show wpAny _ _ (Builtin.SmallTypes.nextOf (.ref I) >>= _) _ _ _
  have i1 := h1.extBut q₁.extBut (show (I : Addr) ≠ I + 5 from neA (by omega))
  have m1 := hl1.extBut q₁.extBut (show (l1 : Addr) ≠ I + 5 from neA (by omega))
  cases hx : xs[k]? with
  | none => exact wpAny_bind (wpAny_nextOf_list_end (s := { s with heap := g₁ }) hh i1 m1 hx fun g₂ e q₂ he => stop 0 g₁ g₂ e (by omega) hz₁ k₁ q₂ he)
  | some x =>
    refine wpAny_bind (wpAny_nextOf_list_item (s := { s with heap := g₁ }) i1 m1 hx fun g₂ h1₂ q₂ => wpAny_pure ?_)
    have o₂ : Is3 g₂ (I + 4) a0 b0 c0 := q₂.extBut _ _ (neA (by omega)) (q₁.extBut _ _ (neA (by omega)) hTO)
    refine wpAny_bind (wpAny_seqItems o₂ rfl ?_)
    refine wpAny_bind (put3 (s := { s with heap := g₂ }) o₂ fun g₃ o₃ q₃ => ?_)
    replace o₃ : Is3 g₃ (I + 4) x b0 c0 := o₃
    refine wpAny_bind (wpAny_letGo (wpAny_pure ?_))
    have k₃ : ∀ (c : Nat) o, Off3 I c → s.heap.get? c = some o → g₃.get? c = some o := fun c o hc x => by
      have hc' := hc
      unfold Off3 at hc'
      exact q₃.extBut _ _ (show (c : Addr) ≠ I + 4 from neA (by omega)) (q₂.extBut _ _ (show (c : Addr) ≠ I from neA (by omega)) (k₁ c o hc x))
    have z₃ : IsZip g₃ (I + 5) (I + 3) (I + 4) .ellipsis := q₃.extBut _ _ (neA (by omega)) (q₂.extBut _ _ (neA (by omega)) hz₁)
    have i2 := ((h2.extBut q₁.extBut (show (I + 1 : Addr) ≠ I + 5 from neA (by omega))).extBut q₂.extBut (neA (by omega))).extBut q₃.extBut (neA (by omega))
    have m2 := ((hl2.extBut q₁.extBut (show (l2 : Addr) ≠ I + 5 from neA (by omega))).extBut q₂.extBut (neA (by omega))).extBut q₃.extBut (neA (by omega))
    refine wpAny_bind (wpAny_bind (wpAny_onRaise ?_))
    show wpAny _ _ (Builtin.SmallTypes.nextOf (.ref (I + 1)) >>= _) _ _ _
    cases hy : ys[k]? with
    | none => exact wpAny_bind (wpAny_nextOf_list_end (s := { s with heap := g₃ }) hh i2 m2 hy fun g₄ e q₄ he => stop 1 g₃ g₄ e (by omega) z₃ k₃ q₄ he)
    | some y =>
      have hv : zs[k]? = none := by
        rcases hend with h | h | h
        · rw [hx] at h; cases h
        · rw [hy] at h; cases h
        · exact h
      refine wpAny_bind (wpAny_nextOf_list_item (s := { s with heap := g₃ }) i2 m2 hy fun g₄ h2₄ q₄ => wpAny_pure ?_)
      have o₄ : Is3 g₄ (I + 4) x b0 c0 := q₄.extBut _ _ (neA (by omega)) o₃
      refine wpAny_bind (wpAny_seqItems o₄ rfl ?_)
      refine wpAny_bind (put3 (s := { s with heap := g₄ }) o₄ fun g₅ o₅ q₅ => ?_)
      refine wpAny_bind (wpAny_letGo (wpAny_pure ?_))
      have k₅ : ∀ (c : Nat) o, Off3 I c → s.heap.get? c = some o → g₅.get? c = some o := fun c o hc x => by
        have hc' := hc
        unfold Off3 at hc'
        exact q₅.extBut _ _ (show (c : Addr) ≠ I + 4 from neA (by omega)) (q₄.extBut _ _ (show (c : Addr) ≠ I + 1 from neA (by omega)) (k₃ c o hc x))
      have z₅ : IsZip g₅ (I + 5) (I + 3) (I + 4) .ellipsis := q₅.extBut _ _ (neA (by omega)) (q₄.extBut _ _ (neA (by omega)) z₃)
      have i3 := ((((h3.extBut q₁.extBut (show (I + 2 : Addr) ≠ I + 5 from neA (by omega))).extBut q₂.extBut (neA (by omega))).extBut q₃.extBut (neA (by omega))).extBut q₄.extBut (neA (by omega))).extBut q₅.extBut (neA (by omega))
      have m3 := ((((hl3.extBut q₁.extBut (show (l3 : Addr) ≠ I + 5 from neA (by omega))).extBut q₂.extBut (neA (by omega))).extBut q₃.extBut (neA (by omega))).extBut q₄.extBut (neA (by omega))).extBut q₅.extBut (neA (by omega))
      refine wpAny_bind (wpAny_bind (wpAny_onRaise ?_))
      show wpAny _ _ (Builtin.SmallTypes.nextOf (.ref (I + 2)) >>= _) _ _ _
      exact wpAny_bind (wpAny_nextOf_list_end (s := { s with heap := g₅ }) hh i3 m3 hv fun g₆ e q₆ he => stop 2 g₅ g₆ e (by omega) z₅ k₅ q₆ he)
theorem next3_item {Q : Option Value → Shared → Prop} (d : l1 < I ∧ l2 < I ∧ l3 < I) (st : Z3 I l1 l2 l3 k s.heap .none) (hl1 : s.heap.IsList l1 xs) (hl2 : s.heap.IsList l2 ys) (hl3 : s.heap.IsList l3 zs) (hx : xs[k]? = some x) (hy : ys[k]? = some y) (hv : zs[k]? = some v)
    (hQ : ∀ h', Z3 I l1 l2 l3 (k + 1) h' (rawInt s.heap.objs.size) → Is3 h' s.heap.objs.size x y v → h'.objs.size = s.heap.objs.size + 1 → (∀ (c : Nat) o, Off3 I c → s.heap.get? c = some o → h'.get? c = some o) → Q (some (.ref s.heap.objs.size)) { s with heap := h' }) :
    wpAny (model prog w) A (pyNext (.ref (I + 5))) Q E s := by
  have hT : s.TypeIs (.ref (I + 5)) "zip" := ⟨_, st.z, rfl⟩
  unfold pyNext
  exact wpAny_bind (wpAny_attempt (wpAny_callSpecial?_slot (name := Str.ofString "__next__") hT PySem.F.slot_zip_next
    (wpAny_call_entry PySem.F.slot_zip_next hT PySem.F.entry_zip_next (z3_item d st hl1 hl2 hl3 hx hy hv fun h' a1 a2 a3 a4 => wpAny_pure (hQ h' a1 a2 a3 a4)) (PySem.F.args_zip_next_1 _))))
theorem next3_end {Q : Option Value → Shared → Prop} (hh : A.handled = none) (d : l1 < I ∧ l2 < I ∧ l3 < I) (st : Z3 I l1 l2 l3 k s.heap .none) (hl1 : s.heap.IsList l1 xs) (hl2 : s.heap.IsList l2 ys) (hl3 : s.heap.IsList l3 zs) (hend : xs[k]? = none ∨ ys[k]? = none ∨ zs[k]? = none)
    (hQ : ∀ h', (∀ (c : Nat) o, Off3 I c → s.heap.get? c = some o → h'.get? c = some o) → Q none { s with heap := h' }) : wpAny (model prog w) A (pyNext (.ref (I + 5))) Q E s := by
  have hT : s.TypeIs (.ref (I + 5)) "zip" := ⟨_, st.z, rfl⟩
  unfold pyNext
  refine wpAny_bind (wpAny_attempt (wpAny_callSpecial?_slot (name := Str.ofString "__next__") hT PySem.F.slot_zip_next
    (wpAny_call_entry PySem.F.slot_zip_next hT PySem.F.entry_zip_next (z3_end hh d st hl1 hl2 hl3 hend fun h' e hk he => ?_) (PySem.F.args_zip_next_1 _))))
  obtain ⟨o, ho, hc⟩ := he
  refine wpAny_bind (wpAny_isInstance (T := "StopIteration") (b := true) ⟨o, ho, hc⟩ isSubtype_stop ?_)
  exact wpAny_pure (hQ _ hk)
end
/-! ### the making -/
abbrev it0 (l : Addr) : Obj := { cls := .type "list_iterator", data := .fields #[.ref l, .int 0 0] }
abbrev mk3 (h : Heap) (l1 l2 l3 : Addr) : Heap :=
  ((((h.push (it0 l1)).push (it0 l2)).push (it0 l3)).push { cls := .type "tuple", data := .seq #[.ref h.objs.size, .ref (h.push (it0 l1)).objs.size, .ref ((h.push (it0 l1)).push (it0 l2)).objs.size] }).push { cls := .type "tuple", data := .seq #[.none, .none, .none] }
set_option maxHeartbeats 4000000 in
theorem meets_zip3 (l1 l2 l3 : Addr) (xs ys zs : Array Value) :
    Meets (Builtin.«zip.__new__» ⟨[.type "zip", .ref l1, .ref l2, .ref l3], []⟩) (fun _ R s => s.heap.IsList l1 xs ∧ s.heap.IsList l2 ys ∧ s.heap.IsList l3 zs ∧
      R (.ok (.ret (.ref (mk3 s.heap l1 l2 l3).objs.size))) { s with heap := (mk3 s.heap l1 l2 l3).push { cls := .type "zip", data := .fields #[.none, .bool false, .bool false, .ref (((s.heap.push (it0 l1)).push (it0 l2)).push (it0 l3)).objs.size, .ref ((((s.heap.push (it0 l1)).push (it0 l2)).push (it0 l3)).push { cls := .type "tuple", data := .seq #[.ref s.heap.objs.size, .ref (s.heap.push (it0 l1)).objs.size, .ref ((s.heap.push (it0 l1)).push (it0 l2)).objs.size] }).objs.size] } }) :=
  .of_wp fun prog w A R s h => by
    obtain ⟨hp, g, d, tk, os⟩ := s; obtain ⟨hl1, hl2, hl3, h⟩ := h
    have hsub := sub_zip
    have hL1 : Heap.IsList (Shared.heap ⟨hp, g, d, tk, os⟩) l1 xs := hl1
    have hL2 : Heap.IsList (Shared.heap ⟨hp.push (it0 l1), g, d, tk, os⟩) l2 ys := Heap.IsList.push hl2 _
    have hL3 : Heap.IsList (Shared.heap ⟨(hp.push (it0 l1)).push (it0 l2), g, d, tk, os⟩) l3 zs := Heap.IsList.push (Heap.IsList.push hl3 _) _
    wp_walk using wpAny_pyIter_list hL1, wpAny_pyIter_list hL2, wpAny_pyIter_list hL3
    exact ⟨_, rfl, h⟩
end PL

/-! PL4: walks of zip(a, b, c), by data. -/
namespace PL
open PySem PySem.Spec PyProof.Rows L2
section
variable {prog : Program} {w : World} {A : Around} {E : Value → Shared → Prop} {s : Shared}
theorem call_zip3 {l1 l2 l3 : Addr} {xs ys zs : Array Value} {Q : Value → Shared → Prop} (hl1 : s.heap.IsList l1 xs) (hl2 : s.heap.IsList l2 ys) (hl3 : s.heap.IsList l3 zs)
    (h : ∀ h', Z3 s.heap.objs.size l1 l2 l3 0 h' .none → h'.objs.size = s.heap.objs.size + 6 → (∀ c o, s.heap.get? c = some o → h'.get? c = some o) → Q (.ref (s.heap.objs.size + 5)) { s with heap := h' }) :
    wpAny (model prog w) A (call (.type "zip") [.ref l1, .ref l2, .ref l3]) Q E s := by
  refine callType_new PySem.F.called_zip (by decide) (typeCall_zip3 _ _ _) (newCall_zip3 _ _ _) (fun obj => args_init4 obj _ _ _) PySem.F.entry_zip_new
    (meets_zip3 l1 l2 l3 xs ys zs) ⟨hl1, hl2, hl3, ?_⟩
  have s1 : (s.heap.push (it0 l1)).objs.size = s.heap.objs.size + 1 := Heap.size_push ..
  have s2 : ((s.heap.push (it0 l1)).push (it0 l2)).objs.size = s.heap.objs.size + 2 := by rw [Heap.size_push, s1]
  have s3 : (((s.heap.push (it0 l1)).push (it0 l2)).push (it0 l3)).objs.size = s.heap.objs.size + 3 := by rw [Heap.size_push, s2]
  show _ ∧ _
  unfold mk3
  rw [s1, s2, s3]
  generalize hT : Obj.mk (.type "tuple") none (.seq #[.ref s.heap.objs.size, .ref (s.heap.objs.size + 1), .ref (s.heap.objs.size + 2)]) #[] = oT
  generalize hO : Obj.mk (.type "tuple") none (.seq #[.none, .none, .none]) #[] = oO
  have s4 : ((((s.heap.push (it0 l1)).push (it0 l2)).push (it0 l3)).push oT).objs.size = s.heap.objs.size + 4 := by rw [Heap.size_push, s3]
  have s5 : (((((s.heap.push (it0 l1)).push (it0 l2)).push (it0 l3)).push oT).push oO).objs.size = s.heap.objs.size + 5 := by rw [Heap.size_push, s4]
  rw [s4, s5]
  generalize hZ : Obj.mk (.type "zip") none (.fields #[.none, .bool false, .bool false, .ref (s.heap.objs.size + 3), .ref (s.heap.objs.size + 4)]) #[] = oZ
  have pk : ∀ {g : Heap} {b : Addr} {o u : Obj}, g.get? b = some o → (g.push u).get? b = some o := fun e => Heap.get?_push_of_some _ e
  have new : ∀ {g : Heap} {u : Obj} {n : Nat}, u.isFreed = false → g.objs.size = n → (g.push u).get? n = some u := fun {g u n} hf e => by rw [← e]; exact Heap.get?_push_size _ hf
  have gz := new (u := oZ) (by rw [← hZ]; rfl) s5
  have go := pk (u := oZ) (new (u := oO) (by rw [← hO]; rfl) s4)
  have gt := pk (u := oZ) (pk (u := oO) (new (u := oT) (by rw [← hT]; rfl) s3))
  have gc := pk (u := oZ) (pk (u := oO) (pk (u := oT) (new (u := it0 l3) rfl s2)))
  have gb := pk (u := oZ) (pk (u := oO) (pk (u := oT) (pk (u := it0 l3) (new (u := it0 l2) rfl s1))))
  have ga := pk (u := oZ) (pk (u := oO) (pk (u := oT) (pk (u := it0 l3) (pk (u := it0 l2) (new (u := it0 l1) rfl (rfl : s.heap.objs.size = s.heap.objs.size))))))
  have s6 : ((((((s.heap.push (it0 l1)).push (it0 l2)).push (it0 l3)).push oT).push oO).push oZ).objs.size = s.heap.objs.size + 6 := by rw [Heap.size_push, s5]
  refine ⟨⟨_, gz, by rw [← hZ]⟩, h _ ⟨by rw [← hZ] at gz ⊢; exact gz, by rw [← hT] at gt ⊢; exact gt, ⟨_, _, _, by rw [← hO] at go ⊢; exact go⟩, ⟨_, ga, rfl, rfl⟩, ⟨_, gb, rfl, rfl⟩, ⟨_, gc, rfl, rfl⟩⟩ s6 fun c o e => pk (pk (pk (pk (pk (pk e)))))⟩
end
def Itz3 (K : PySem.W.Frag) (a b c : Addr) : It :=
  ⟨fun i H => ∃ (xs ys zs : List V) (x y z : V), SqL K H a xs ∧ SqL K H b ys ∧ SqL K H c zs ∧ xs[i]? = some x ∧ ys[i]? = some y ∧ zs[i]? = some z,
    fun i H v H' => ∃ T x y z, v = .ref T ∧ H T = none ∧ H' = upd H T (.tup [x, y, z]) ∧ (∀ xs, SqL K H a xs → xs[i]? = some x) ∧ (∀ ys, SqL K H b ys → ys[i]? = some y) ∧ ∀ zs, SqL K H c zs → zs[i]? = some z,
    fun i H => ∃ xs ys zs : List V, SqL K H a xs ∧ SqL K H b ys ∧ SqL K H c zs ∧ (xs.length ≤ i ∨ ys.length ≤ i ∨ zs.length ≤ i)⟩
def fp3 (I : Nat) : List Addr := [I + 5, I + 3, I + 4, I, I + 1, I + 2]
theorem fp3_of {I c : Nat} (h : (c : Addr) ∈ fp3 I) : c = I + 5 ∨ c = I + 3 ∨ c = I + 4 ∨ c = I ∨ c = I + 1 ∨ c = I + 2 := by
  unfold fp3 at h
  simpa using h
theorem fp3_in {I j : Nat} (h : j < 6) : (I + j : Nat) ∈ fp3 I := by
  unfold fp3
  have : j = 0 ∨ j = 1 ∨ j = 2 ∨ j = 3 ∨ j = 4 ∨ j = 5 := by omega
  rcases this with rfl | rfl | rfl | rfl | rfl | rfl <;> simp
theorem off3_of {I c : Nat} (h : (c : Addr) ∉ fp3 I) : Off3 I c := by
  unfold Off3
  by_cases z : I ≤ c ∧ c < I + 6
  · exfalso
    have := fp3_in (I := I) (j := c - I) (by omega)
    rw [show I + (c - I) = c by omega] at this
    exact h this
  · omega
theorem Z3.frame {I l1 l2 l3 k : Nat} {h h' : Heap} {f0 : Value} (st : Z3 I l1 l2 l3 k h f0) (hk : ∀ c ∈ fp3 I, ∀ o, h.get? c = some o → h'.get? c = some o) : Z3 I l1 l2 l3 k h' f0 := by
  obtain ⟨hz, hTI, ⟨a, b, c, hTO⟩, h1, h2, h3⟩ := st
  have m := fun (j : Nat) (hj : j < 6) => hk (I + j : Nat) (fp3_in hj)
  exact ⟨m 5 (by omega) _ hz, m 3 (by omega) _ hTI, ⟨a, b, c, m 4 (by omega) _ hTO⟩, h1.at fun o q => m 0 (by omega) o q, h2.at fun o q => m 1 (by omega) o q, h3.at fun o q => m 2 (by omega) o q⟩
theorem turn_zip3 {P : Program} {w : World} {K : PySem.W.Frag} {elts : List Expr} {kk : Nat} {tpos : Pos} {a b c I : Nat} (d : a < I ∧ b < I ∧ c < I) :
    Turn P w K (.Tuple elts kk tpos) (Itz3 K a b c) (fp3 I) (I + 5) (fun i h => Z3 I a b c i h .none) where
  mem := by simp [fp3]
  obj := fun i h st q hq => by
    obtain ⟨hz, hTI, ⟨x, y, v, hTO⟩, ⟨o1, e1, _, d1⟩, ⟨o2, e2, _, d2⟩, ⟨o3, e3, _, d3⟩⟩ := st
    rcases fp3_of hq with rfl | rfl | rfl | rfl | rfl | rfl
    · exact ⟨_, hz, fun v q => nomatch q⟩
    · exact ⟨_, hTI, fun v q => nomatch q⟩
    · exact ⟨_, hTO, fun v q => nomatch q⟩
    · exact ⟨o1, e1, fun v q => by rw [d1] at q; cases q⟩
    · exact ⟨o2, e2, fun v q => by rw [d2] at q; cases q⟩
    · exact ⟨o3, e3, fun v q => by rw [d3] at q; cases q⟩
  keep := fun i h h' st k => st.frame k
  item := by
    intro X hP hw hK hc i pins s σ H E Iv hf st hg
    subst hP hw hK
    obtain ⟨xs, ys, zs, x, y, v, hqx, hqy, hqz, hx, hy, hv⟩ := hg
    obtain ⟨its, rv, p, _⟩ := Iv.list hqx
    obtain ⟨its2, rv2, p2, _⟩ := Iv.list hqy
    obtain ⟨its3, rv3, p3, _⟩ := Iv.list hqz
    obtain ⟨u, hu, ru⟩ := rv.get hx
    obtain ⟨u2, hu2, ru2⟩ := rv2.get hy
    obtain ⟨u3, hu3, ru3⟩ := rv3.get hv
    have zl : I + 5 < s.heap.objs.size := ltS st.z
    refine next3_item d st p.isList p2.isList p3.isList (x := u) (y := u2) (v := u3) (by simpa using hu) (by simpa using hu2) (by simpa using hu3) fun h' st' hT hsz hk => ?_
    refine ⟨_, rfl, wpAny_letOwnedTupleGo_zip (s := { s with heap := h' }) st'.z fun h2 z2 sb => ?_⟩
    have ne : ∀ j : Nat, j < 5 → (show Addr from I + j) ≠ (show Addr from I + 5) := fun j hj => neA (by omega)
    have st2 : Z3 I a b c (i + 1) h2 .none := by
      obtain ⟨_, t2, ⟨m1, m2, m3, t3⟩, t4, t5, t6⟩ := st'
      exact ⟨z2, (sb.2 _ (ne 3 (by omega))).trans t2, ⟨m1, m2, m3, (sb.2 _ (ne 4 (by omega))).trans t3⟩, t4.at fun o q => (sb.2 _ (ne 0 (by omega))).trans q, t5.at fun o q => (sb.2 _ (ne 1 (by omega))).trans q, t6.at fun o q => (sb.2 _ (ne 2 (by omega))).trans q⟩
    have hT2 : h2.get? s.heap.objs.size = some { cls := .type "tuple", data := .seq #[u, u2, u3] } := (sb.2 _ (neA (by omega))).trans hT
    have new : ObjOk X.prog X.w (upd H s.heap.objs.size (.tup [x, y, v])) h2 s.heap.objs.size (.tup [x, y, v]) :=
      ⟨by show 3 ≤ sizeLine; decide, [u, u2, u3], .cons ru (.cons ru2 (.cons ru3 .nil)), ⟨_, hT2, rfl, _, rfl⟩⟩
    have I1 : Inv X pins σ (upd H s.heap.objs.size (.tup [x, y, v])) { s with heap := h2 } :=
      Iv.turnedNew (t' := s.toks) (ch := fp3 I) (fun q o hb e => (sb.2 q fun z => hb (by rw [z]; exact fp3_in (j := 5) (by omega))).trans (hk q o (off3_of hb) e)) hf (Nat.le_refl _) new
    refine ⟨.ref s.heap.objs.size, _, I1, rfl, ⟨_, x, y, v, rfl, Iv.hok.fresh (Nat.le_refl _), rfl, fun l hl => by rw [Iv.list_inj hl hqx]; exact hx, fun l hl => by rw [Iv.list_inj hl hqy]; exact hy, fun l hl => by rw [Iv.list_inj hl hqz]; exact hv⟩, st2, fun q hq => ?_⟩
    have hlt : s.heap.objs.size > q := by
      have := fp3_of hq
      omega
    rw [upd_ne (neA (.inl hlt))]
    exact (hf q hq).1
  done := by
    intro X hP hw hK hc i pins s σ H E Iv hf st hg
    subst hP hw hK
    obtain ⟨xs, ys, zs, hqx, hqy, hqz, hend⟩ := hg
    obtain ⟨its, rv, p, _⟩ := Iv.list hqx
    obtain ⟨its2, rv2, p2, _⟩ := Iv.list hqy
    obtain ⟨its3, rv3, p3, _⟩ := Iv.list hqz
    have l1 := rv.length
    have l2 := rv2.length
    have l3 := rv3.length
    refine next3_end (Iv.ok.hd hc) d st p.isList p2.isList p3.isList ?_ fun h' hk => ⟨rfl, Iv.turnedL (t' := s.toks) (ch := fp3 I) (fun q o hb e => hk q o (off3_of hb) e) hf⟩
    rcases hend with q | q | q
    · exact .inl (by simp; omega)
    · exact .inr (.inl (by simp; omega))
    · exact .inr (.inr (by simp; omega))
  self := fun A i s Q E st h => wpAny_pyIter_zip st.z h
def iZip3 (K : PySem.W.Frag) (ta : TA) : L2.TI := fun σ H R => ta σ H fun vs H1 => ∃ a b c xs ys zs, vs = [.ref a, .ref b, .ref c] ∧ SqL K H1 a xs ∧ SqL K H1 b ys ∧ SqL K H1 c zs ∧ R (Itz3 K a b c) H1
theorem pi_zip3 {X : Cx} {e e2 e3 : Expr} {ta : TA} {p pos tpos : Pos} {elts : List Expr} {kk : Nat} (hg : Gl X "zip") (hm : X.mg "zip" = none) (ha : PA X [e, e2, e3] ta)
    (hs : starEach [e, e2, e3] X.env = (false, eval e X.env) :: starEach [e2, e3] X.env := by rfl) (hpl : (backTo pos (starEach [e2, e3] X.env)).any (·.1) = false := by rfl) :
    PI X (.Tuple elts kk tpos) (.Call (.Name "zip" p) [e, e2, e3] [] pos) (iZip3 X.K ta) := by
  refine ⟨fun pins s σ H R I h => ?_⟩
  refine Call_ (ld_blt I hg hm PyProof.Rows.boot_zip (PyProof.Rows.callWith_type1 (thn (ha.run pos pins s σ H _ I h) fun us s1 ⟨vs, H1, I1, r1, q1⟩ => ?_) hs hpl))
  obtain ⟨a, b, c, xs, ys, zs, ex, hqx, hqy, hqz, q⟩ := q1
  subst ex
  cases r1 with
  | cons r rr =>
    cases rr with
    | cons r' rr =>
      cases rr with
      | cons r2 rr =>
        cases rr
        cases r
        cases r'
        cases r2
        obtain ⟨its, rv, p1, _⟩ := I1.list hqx
        obtain ⟨its2, rv2, p2, _⟩ := I1.list hqy
        obtain ⟨its3, rv3, p3, _⟩ := I1.list hqz
        refine call_zip3 p1.isList p2.isList p3.isList fun h' st hsz hk => wpAny_pyIter_zip st.z ?_
        have I2 : Inv X pins σ H1 { s1 with heap := h' } := I1.kept (t' := s1.toks) hk
        refine ⟨s1.heap.objs.size + 5, fp3 s1.heap.objs.size, _, _, H1, rfl, I2, turn_zip3 ⟨p1.lt, p2.lt, p3.lt⟩, st, fun q hq => ?_, q⟩
        have hle : s1.heap.objs.size ≤ q := by
          have := fp3_of hq
          omega
        exact I1.fpOk hle (I1.hok.fresh hle)
/-! by data -/
def zip3D (xs ys zs : List D) : List D := ((xs.zip ys).zip zs).map fun p => D.tup [p.1.1, p.1.2, p.2]
theorem zip3_get {xs ys zs : List D} {i : Nat} {d : D} (h : (zip3D xs ys zs)[i]? = some d) : ∃ x y z, xs[i]? = some x ∧ ys[i]? = some y ∧ zs[i]? = some z ∧ d = .tup [x, y, z] := by
  unfold zip3D at h
  rw [List.getElem?_map] at h
  obtain ⟨p, hp, rfl⟩ := Option.map_eq_some_iff.mp h
  obtain ⟨h1, h2⟩ := List.getElem?_zip_eq_some.mp hp
  obtain ⟨h3, h4⟩ := List.getElem?_zip_eq_some.mp h1
  exact ⟨_, _, _, h3, h4, h2, rfl⟩
theorem zip3_len {xs ys zs : List D} : (zip3D xs ys zs).length = min (min xs.length ys.length) zs.length := by
  unfold zip3D
  rw [List.length_map, List.length_zip, List.length_zip]
def iZp3 (wa : WA) : WI := fun env R => wa env fun ds e1 => match ds with
  | [.obj _ sh xs, .obj _ sh2 ys, .obj _ sh3 zs] => isSeq sh = true ∧ isSeq sh2 = true ∧ isSeq sh3 = true ∧ R (zip3D (D.frzL xs) (D.frzL ys) (D.frzL zs)) e1
  | _ => False
theorem di_zip3 {X : Cx} {pp : Bool} {e e2 e3 : Expr} {wa : WA} {p pos tpos : Pos} {elts : List Expr} {kk : Nat} (hg : Gl X "zip") (hm : X.mg "zip" = none) (ha : DA pp X [e, e2, e3] wa)
    (hs : starEach [e, e2, e3] X.env = (false, eval e X.env) :: starEach [e2, e3] X.env := by rfl) (hpl : (backTo pos (starEach [e2, e3] X.env)).any (·.1) = false := by rfl) :
    DI pp X (.Tuple elts kk tpos) (.Call (.Name "zip" p) [e, e2, e3] [] pos) (iZp3 wa) := by
  refine ⟨PIimp (pi_zip3 hg hm ha.pa hs hpl) ?_⟩
  rintro σ H Q ⟨F, B, env, As, R, s, hw, k⟩
  refine ⟨F, B, env, As, _, s, hw, fun vs H1 F1 As1 a ds e1 po1 t1 h1 => ?_⟩
  obtain ⟨po2, r2⟩ := po1.so.freezeL t1
  split at h1
  · obtain ⟨hs1, hs2, hs3, h1⟩ := h1
    obtain ⟨v, us, A1, A2, rfl, e0, q1, q2⟩ := r2.cons_inv
    obtain ⟨v2, us2, A3, A4, rfl, e3, q3, q4⟩ := q2.cons_inv
    obtain ⟨v3, us3, A5, A6, rfl, e4, q5, q6⟩ := q4.cons_inv
    obtain ⟨rfl, _⟩ := q6.nil_inv
    obtain ⟨a1, xs', rfl, hx, rx⟩ := Rep.frz_seq (o := false) hs1 q1
    obtain ⟨a2, ys', rfl, hy, ry⟩ := Rep.frz_seq (o := false) hs2 q3
    obtain ⟨a3, zs', rfl, hz, rz⟩ := Rep.frz_seq (o := false) hs3 q5
    refine ⟨a1, a2, a3, xs', ys', zs', rfl, po2.so.same.seq hx, po2.so.same.seq hy, po2.so.same.seq hz, k _ H1 _ As1 e1 _ (po1.trans (po2.imp fun _ => rfl)) ⟨fun i H sm hi => ?_, fun i H sm hi => ?_, fun i x H H' y sm d hd => ?_⟩ h1⟩
    · obtain ⟨x, y, z, h3, h4, h5, _⟩ := zip3_get (List.getElem?_eq_getElem hi)
      obtain ⟨w1, g1, _⟩ := rx.fz_get h3
      obtain ⟨w2, g2, _⟩ := ry.fz_get h4
      obtain ⟨w3, g3, _⟩ := rz.fz_get h5
      exact ⟨xs', ys', zs', w1, w2, w3, sm.seq hx, sm.seq hy, sm.seq hz, g1, g2, g3⟩
    · refine ⟨xs', ys', zs', sm.seq hx, sm.seq hy, sm.seq hz, ?_⟩
      have := rx.length
      have := ry.length
      have := rz.length
      rw [zip3_len] at hi
      omega
    · obtain ⟨T, x1, y1, z1, rfl, hT, rfl, gx, gy, gz⟩ := y
      obtain ⟨x, y, z, h3, h4, h5, rfl⟩ := zip3_get hd
      obtain ⟨w1, g1, p1⟩ := rx.fz_get h3
      obtain ⟨w2, g2, p2⟩ := ry.fz_get h4
      obtain ⟨w3, g3, p3⟩ := rz.fz_get h5
      have e1 := gx _ (sm.seq hx)
      have e2 := gy _ (sm.seq hy)
      have e3 := gz _ (sm.seq hz)
      rw [g1] at e1; rw [g2] at e2; rw [g3] at e3
      cases e1; cases e2; cases e3
      exact .inr ⟨T, _, _, hT, rfl, rfl, rfl, .cons (A := []) (B := []) (p1.frame (Same.refl _) fun _ z => nomatch z) (.cons (A := []) (B := []) (p2.frame (Same.refl _) fun _ z => nomatch z) (.one (p3.frame (Same.refl _) fun _ z => nomatch z)))⟩
  · exact h1.elim
end PL

/-! PL5: name[i] = e, the index computed by a call that changes names. -/
namespace PL
open PySem PySem.Spec PyProof.Rows L2
section
variable {X : Cx} {p : Bool} {kp : List Nat} {e o b : Expr} {we wi : WE} {pos : Pos}
def sSetNx (i : Nat) (we wi : WE) : WS := fun env RD => we env fun y e1 => (∃ d, e1[i]? = some (some d)) ∧ wi e1 fun k e2 => asI k fun kk => ownL (e2[i]?) fun xs => ∃ j, L2.ixN xs.length kk = some j ∧ RD.nx (e2.set i (some (.lst true (xs.set j y.frz))))
theorem ds_setNx {i : Nat} {tp : Pos} (ho : PE X o (tVar i)) (h : DE p X e we) (hi : DE p X b wi)
    (ha : ∀ v, assign (.Subscript o b tp) X.env v = (do
      let ov ← holding [v] (eval o X.env)
      let iv ← holding [v, ov] (eval b X.env)
      standAt tp
      holding [v, ov, iv] (setItem ov iv v)
      release [v, ov, iv] []) := by intro _; rfl)
    (hs : swapsWithSole [.Subscript o b tp] e pos.line X.env = pure false := by rfl) (hw : swappedStores [.Subscript o b tp] e X.env = pure none := by rfl)
    (h1 : (assignEach [.Subscript o b tp] X.env).map (·.2) = [assign (.Subscript o b tp) X.env] := by rfl) : DS kp X (.Assign [.Subscript o b tp] e pos) (sSetNx i we wi) := by
  refine ⟨PSimp (ps_asg h.pe (pg_sub ho hi.pe set_list ha) hs hw h1) ?_⟩
  rintro D σ H ⟨F, B, env, As, RD, s, hw, k1, k2, k3, k4⟩
  refine ⟨F, B, env, As, _, s, hw, fun yv H1 F1 As1 ay y e1 po1 t1 ⟨⟨d0, hd0⟩, h1⟩ => ?_⟩
  obtain ⟨v0, _, g0, _, _⟩ := po1.so.env.get hd0
  refine ⟨v0, g0, F1, Bx B ay, e1, As1, _, po1.so.push t1, h1, fun iv H3 F3 As3 ai kd e3 po3 t3 h3 => ?_⟩
  obtain ⟨kk, rfl, h3⟩ := asI_inv h3
  obtain ⟨rfl, _⟩ := t3.rep.sc_inv
  have t3' := t1.keep po3
  have s3 := po3.so.pop
  obtain ⟨F4, a4, po4, t4, sub4⟩ := in_ok false s3 t3'
  obtain ⟨xs, g5, j, hj, h3⟩ := ownL_inv h3
  obtain ⟨v', A3, g6, g7, g8⟩ := po4.so.env.get g5
  rw [g0] at g6; cases g6
  refine set_core po4.so g5 g0 g7 (.root g8) t4 hj h3 fun H5 As5 s5 kb h5 => ?_
  exact k1 σ H5 F4 As5 _ ⟨(po1.ext.trans po3.ext).trans po4.ext, s5, fun b hb => (kb b hb).trans ((po4.keep b hb).trans ((po3.pop.keep b hb).trans (po1.keep b hb))), fun _ _ => rfl, rfl⟩ h5
end
end PL

/-! PL6: zip of two lists or of two tuples. -/
namespace PL
open PySem PySem.Spec PyProof.Rows L2
def iZpA (wa : WA) : WI := fun env R => wa env fun ds e1 => match ds with
  | [.obj _ sh xs, .obj _ sh2 ys] => isSeq sh = true ∧ isSeq sh2 = true ∧ R (zipD (D.frzL xs) (D.frzL ys)) e1
  | [.tup xs, .tup ys] => R (zipD (D.frzL xs) (D.frzL ys)) e1
  | _ => False
theorem Rep.tup_F {K : PySem.W.Frag} {F H : Hp} {xs : List D} {v : V} {a : List Addr} (r : Rep K F H (.tup xs) v a) : ∃ p vs, v = .ref p ∧ F p = some (.tup vs) ∧ RepL K F H xs vs a := by
  cases r with
  | tup h r => exact ⟨_, _, rfl, h, r⟩
section
variable {X : Cx} {p : Bool} {e : Expr} {pos : Pos}
theorem di_zipA {e2 : Expr} {wa : WA} {q tpos : Pos} {elts : List Expr} {kk : Nat} (hg : Gl X "zip") (hm : X.mg "zip" = none) (ha : DA p X [e, e2] wa)
    (hs : starEach [e, e2] X.env = (false, eval e X.env) :: starEach [e2] X.env := by rfl) (hpl : (backTo pos (starEach [e2] X.env)).any (·.1) = false := by rfl) :
    DI p X (.Tuple elts kk tpos) (.Call (.Name "zip" q) [e, e2] [] pos) (iZpA wa) := by
  refine ⟨PIimp (RZ.pi_zipA hg hm ha.pa hs hpl) ?_⟩
  rintro σ H Q ⟨F, B, env, As, R, s, hw, k⟩
  refine ⟨F, B, env, As, _, s, hw, fun vs H1 F1 As1 a ds e1 po1 t1 h1 => ?_⟩
  obtain ⟨po2, r2⟩ := po1.so.freezeL t1
  split at h1
  · obtain ⟨hs1, hs2, h1⟩ := h1
    obtain ⟨v, us, A1, A2, rfl, e0, q1, q2⟩ := r2.cons_inv
    obtain ⟨v2, us2, A3, A4, rfl, e3, q3, q4⟩ := q2.cons_inv
    obtain ⟨rfl, _⟩ := q4.nil_inv
    obtain ⟨a1, xs', rfl, hx, rx⟩ := Rep.frz_seq (o := false) hs1 q1
    obtain ⟨a2, ys', rfl, hy, ry⟩ := Rep.frz_seq (o := false) hs2 q3
    refine ⟨a1, a2, xs', ys', rfl, .inl ⟨po2.so.same.seq hx, po2.so.same.seq hy, k _ H1 _ As1 e1 _ (po1.trans (po2.imp fun _ => rfl)) ⟨fun i H sm hi => ?_, fun i H sm hi => ?_, fun i x H H' y sm d hd => ?_⟩ h1⟩⟩
    · have hz : i < (zipD (D.frzL _) (D.frzL _)).length := hi
      obtain ⟨x, y, h3, h4, _⟩ := zipD_get (List.getElem?_eq_getElem hz)
      obtain ⟨w1, g1, _⟩ := rx.fz_get h3
      obtain ⟨w2, g2, _⟩ := ry.fz_get h4
      exact ⟨xs', ys', w1, w2, sm.seq hx, sm.seq hy, g1, g2⟩
    · refine ⟨xs', ys', sm.seq hx, sm.seq hy, ?_⟩
      have := rx.length
      have := ry.length
      unfold zipD at hi
      rw [List.length_zipWith] at hi
      omega
    · obtain ⟨T, x1, y1, rfl, hT, rfl, gx, gy⟩ := y
      obtain ⟨x, y, h3, h4, rfl⟩ := zipD_get hd
      obtain ⟨w1, g1, p1⟩ := rx.fz_get h3
      obtain ⟨w2, g2, p2⟩ := ry.fz_get h4
      have e1 := gx _ (sm.seq hx)
      have e2 := gy _ (sm.seq hy)
      rw [g1] at e1; rw [g2] at e2
      cases e1; cases e2
      exact .inr ⟨T, _, _, hT, rfl, rfl, rfl, .cons (A := []) (B := []) (p1.frame (Same.refl _) fun _ z => nomatch z) (.one (p2.frame (Same.refl _) fun _ z => nomatch z))⟩
  · obtain ⟨v, us, A1, A2, rfl, e0, q1, q2⟩ := r2.cons_inv
    obtain ⟨v2, us2, A3, A4, rfl, e3, q3, q4⟩ := q2.cons_inv
    obtain ⟨rfl, _⟩ := q4.nil_inv
    obtain ⟨rfl, rfl⟩ := List.append_eq_nil_iff.mp e0.symm
    obtain ⟨rfl, rfl⟩ := List.append_eq_nil_iff.mp e3.symm
    obtain ⟨a1, xs', rfl, hx, rx⟩ := Rep.tup_F q1
    obtain ⟨a2, ys', rfl, hy, ry⟩ := Rep.tup_F q3
    have hx := SqT.of (K := X.K) hx
    have hy := SqT.of (K := X.K) hy
    refine ⟨a1, a2, xs', ys', rfl, .inr ⟨Same.sqT po2.so.same hx, Same.sqT po2.so.same hy, k _ H1 _ As1 e1 _ (po1.trans (po2.imp fun _ => rfl)) ⟨fun i H sm hi => ?_, fun i H sm hi => ?_, fun i x H H' y sm d hd => ?_⟩ h1⟩⟩
    · have hz : i < (zipD (D.frzL _) (D.frzL _)).length := hi
      obtain ⟨x, y, h3, h4, _⟩ := zipD_get (List.getElem?_eq_getElem hz)
      obtain ⟨w1, g1, _⟩ := rx.fz_get h3
      obtain ⟨w2, g2, _⟩ := ry.fz_get h4
      exact ⟨xs', ys', w1, w2, Same.sqT sm hx, Same.sqT sm hy, g1, g2⟩
    · refine ⟨xs', ys', Same.sqT sm hx, Same.sqT sm hy, ?_⟩
      have := rx.length
      have := ry.length
      unfold zipD at hi
      rw [List.length_zipWith] at hi
      omega
    · obtain ⟨T, x1, y1, rfl, hT, rfl, gx, gy⟩ := y
      obtain ⟨x, y, h3, h4, rfl⟩ := zipD_get hd
      obtain ⟨w1, g1, p1⟩ := rx.fz_get h3
      obtain ⟨w2, g2, p2⟩ := ry.fz_get h4
      have e1 := gx _ (Same.sqT sm hx)
      have e2 := gy _ (Same.sqT sm hy)
      rw [g1] at e1; rw [g2] at e2
      cases e1; cases e2
      exact .inr ⟨T, _, _, hT, rfl, rfl, rfl, .cons (A := []) (B := []) (p1.frame (Same.refl _) fun _ z => nomatch z) (.one (p2.frame (Same.refl _) fun _ z => nomatch z))⟩
  · exact h1.elim
end
end PL

/-! PL7: dict of pairs whose keys are tuples; in a dict by tuples; range with a step of -1. -/
namespace PL
open PySem PySem.Spec PyProof.Rows L2
section
variable {K : PySem.W.Frag}
def rdInT (neg : Bool) : RD2 := fun x y R => ∃ o kvs key, y = dctD o kvs ∧ x = keyT key ∧ R (.bl (if neg = true then !(valV kvs key).isSome else (valV kvs key).isSome))
theorem sInT {neg : Bool} : Snd2 K (rInK neg) (rdInT neg) := by
  intro F H B env σ As x y v u a b R Q s rx ry h k
  obtain ⟨o, kvs, key, rfl, rfl, h⟩ := h
  obtain ⟨pk, us, rfl, e1, r1⟩ := Rep.tup_at rx s.same
  rw [show key.map keyD = (key.map kV).map PL.D.sc by rw [List.map_map]; rfl] at r1
  obtain ⟨rfl, _⟩ := r1.sc_inv
  obtain ⟨q, rfl, hq, _⟩ := dctD_cell ry s.same
  exact ⟨q, _, rfl, .inr ⟨kvs, key, pk, .inl hq, rfl, e1, rfl⟩, out_sc s h k⟩
end
/-- pairs put one behind the other -/
def putAllT (kvs : List (List Key × V)) : List (List Key × V) := kvs.foldl (fun acc p => putK acc p.1 p.2) []
section
variable {X : Cx}
abbrev PairT (H : Hp) (K : PySem.W.Frag) (p : Addr) (kv : List Key × Addr × V) : Prop := SqT K H p [.ref kv.2.1, kv.2.2] ∧ H kv.2.1 = some (.tup (kv.1.map kV))
theorem pairsT_of {pins : List (Addr × Obj)} {σ : L2.St} {H : Hp} {s : Shared} (I : L2.Inv X pins σ H s) : ∀ {ps : List Addr} {kvs : List (List Key × Addr × V)}, Paired (PairT H X.K) ps kvs →
    ∃ prs : List (List Key × Addr × Value), KT H (kvs.map fun q => (q.1, q.2.2)) prs ∧ prs.length = ps.length ∧ ∀ (j : Nat) (q : List Key × Addr × Value), prs[j]? = some q → ∃ b : Addr, ps[j]? = some b ∧ s.heap.IsTuple b #[.ref q.2.1, q.2.2] ∧ H q.2.1 = some (.tup (q.1.map kV))
  | _, _, .nil => ⟨[], .nil, rfl, fun j q e => by simp at e⟩
  | _, _, .cons (a := p) (b := kv) h t => by
    obtain ⟨prs, r, hl, hp⟩ := pairsT_of I t
    obtain ⟨its, rv, ht, _⟩ := I.tuple h.1
    obtain ⟨u, y, ei, ru, ry⟩ := vals2 rv
    subst ei
    cases ru
    refine ⟨(kv.1, kv.2.1, y) :: prs, .cons ⟨rfl, h.2, ry⟩ r, by rw [List.length_cons, List.length_cons, hl], fun j q e => ?_⟩
    cases j with
    | zero =>
      have e' : (kv.1, kv.2.1, y) = q := Option.some.inj e
      subst e'
      exact ⟨p, rfl, ht, h.2⟩
    | succ j =>
      obtain ⟨b, e1, e2, e3⟩ := hp j q (by simpa using e)
      exact ⟨b, by simpa using e1, e2, e3⟩
theorem KT.all {H : Hp} : ∀ {kvs acc : List (List Key × V)} {xs axs : List (List Key × Addr × Value)}, KT H kvs xs → KT H acc axs → KT H (kvs.foldl (fun acc p => putK acc p.1 p.2) acc) (storedAllH axs xs)
  | _, _, _, _, .nil, r => r
  | _, _, _, _, .cons (a := p) (b := q) h t, r => by
    have e : p.1 = q.1 := h.1
    have := KT.all t (r.put p.1 h.2.1 h.2.2)
    rw [e] at this
    rw [List.foldl_cons, e]
    exact this
theorem putAllT_len {kvs : List (List Key × V)} : (putAllT kvs).length ≤ kvs.length := by
  have : ∀ (kvs acc : List (List Key × V)), (kvs.foldl (fun acc p => putK acc p.1 p.2) acc).length ≤ acc.length + kvs.length := by
    intro kvs
    induction kvs with
    | nil => intro acc; exact Nat.le_refl _
    | cons p kvs ih =>
      intro acc
      have := ih (putK acc p.1 p.2)
      have := length_putK acc p.1 p.2
      rw [List.foldl_cons, List.length_cons]
      omega
  have := this kvs []
  unfold putAllT
  simpa using this
theorem call_dictPT (hcalm : X.calm = true) (hu : X.A.units + 2 < cLine) : CallR X (.type "dict") (fun xs H Q => ∃ (a : Addr) (ps : List Addr) (kvs : List (List Key × Addr × V)), xs = [.ref a] ∧ SqL X.K H a (ps.map V.ref) ∧ Paired (PairT H X.K) ps kvs ∧
    ∀ p, H p = none → Q (.ref p) (upd H p (.dT (putAllT (kvs.map fun q => (q.1, q.2.2)))))) := by
  intro pins s σ H xs us Q I r q
  obtain ⟨a, ps, kvs, ex, hq, hp, q⟩ := q
  subst ex
  obtain ⟨u, eu, rx⟩ := vals1 r
  subst eu
  cases rx
  obtain ⟨its, rv, pl, hz⟩ := I.list hq
  have ei := refs_at rv
  subst ei
  rw [List.length_map] at hz
  obtain ⟨prs, rel, hl, hpr⟩ := pairsT_of I hp
  obtain ⟨o, n, ho, hc, hd, hdat⟩ := pl
  have P := PairArg.list (prog := X.prog) (w := X.w) a (ps.map Value.ref).toArray (fun j => ps.getD j 0) (prs.map fun q => (Value.ref q.2.1, q.2.2))
  have pget : ∀ j (hj : j < prs.length), ∃ b : Addr, ps[j]? = some b ∧ s.heap.IsTuple b #[.ref (prs[j]).2.1, (prs[j]).2.2] ∧ H (prs[j]).2.1 = some (.tup ((prs[j]).1.map kV)) := fun j hj => hpr j _ (List.getElem?_eq_getElem hj)
  refine call_dict_pairsH (knd := tupleKind (mixKind X.prog X.w)) (ps := prs) P (I.ok.hd hcalm) (tupleKind_room_in1 (by show X.A.units + 1 + 1 < cLine; omega)) ⟨⟨o, n, ho, hc, hd, hdat⟩, by simp [hl], fun j k v hj => ?_⟩ ⟨by rw [List.length_map], fun i key v hr => ?_⟩ ?_ (by rw [List.length_map, hl]; exact hz) fun h' tk hd' k => ?_
  · rw [List.getElem?_map] at hj
    obtain ⟨q', e1, e2⟩ := Option.map_eq_some_iff.mp hj
    obtain ⟨b, b1, b2, b3⟩ := hpr j q' e1
    cases e2
    refine ⟨by simp [b1], .inl ?_⟩
    show s.heap.IsTuple (ps.getD j 0) _
    rw [show ps.getD j 0 = b by rw [List.getD_eq_getElem?_getD, b1]; rfl]
    exact b2
  · have hr : (prs.map fun q => (Value.ref q.2.1, q.2.2))[i]? = some (key, v) := hr
    rw [List.getElem?_map] at hr
    obtain ⟨q', e1, e2⟩ := Option.map_eq_some_iff.mp hr
    cases e2
    exact ⟨q'.1, q'.2.1, e1, rfl⟩
  · intro h' hk x hx
    obtain ⟨j, hj⟩ := List.mem_iff_getElem?.mp hx
    obtain ⟨b, b1, b2, b3⟩ := hpr j x hj
    obtain ⟨o2, its2, n2, g1, g2, g3, g4⟩ := key_of I.hok b3
    exact ⟨o2, its2, n2, hk _ _ (fun z => by
      have := Heap.lt_size g1
      rw [z] at this
      exact Nat.lt_irrefl _ this) (by simp) g1, g2, g3, g4⟩
  · have hm : (s.heap.objs.size == sysModules) = false := beq_eq_false_iff_ne.mpr (Nat.ne_of_gt I.big)
    have hlen : (putAllT (kvs.map fun q => (q.1, q.2.2))).length ≤ sizeLine := by
      refine Nat.le_trans putAllT_len ?_
      rw [List.length_map, ← Paired.length hp]
      exact hz
    have rel2 : KT H (putAllT (kvs.map fun q => (q.1, q.2.2))) (storedAllH [] prs) := KT.all rel .nil
    obtain ⟨od, es, ep, f1, f2, f3, f4, _, f5⟩ := hd'
    have fresh := I.hok.fresh (Nat.le_refl s.heap.objs.size)
    refine ⟨.ref s.heap.objs.size, upd H s.heap.objs.size (.dT (putAllT (kvs.map fun q => (q.1, q.2.2)))), I.laid (t' := tk) (fun b o e => k b o (by simp) e) (Nat.le_refl _) ⟨hlen, hm, _, rel2.keeps fun c ys ec => ?_, od, es, ep, f1, f2, f3, f4, f5⟩, rfl, q _ fresh⟩
    rw [upd_ne (ne_of_none ec fresh)]
    exact ec
end
end PL
namespace PL
open PySem PySem.Spec PyProof.Rows L2
section
variable {K : PySem.W.Frag} {F H : Hp}
def pT (p : List Key × V) : D := .tup [keyT p.1, .sc p.2]
theorem pairs_rep : ∀ {kvs : List (List Key × V)} {vs : List V} {a : List Addr}, RepL K F H (kvs.map pT) vs a → Same F H → ∃ (ps : List Addr) (ks : List (List Key × Addr × V)), vs = ps.map V.ref ∧ ks.map (fun q => (q.1, q.2.2)) = kvs ∧ Paired (PairT H K) ps ks
  | [], vs, a, r, s => by
    cases r
    exact ⟨[], [], rfl, rfl, .nil⟩
  | p :: kvs, vs, a, r, s => by
    obtain ⟨v, us, A1, A2, rfl, e0, q1, q2⟩ := r.cons_inv
    obtain ⟨ps, ks, rfl, e1, pp⟩ := pairs_rep q2 s
    obtain ⟨pk, ws, rfl, h1, r1⟩ := Rep.tup_at q1 s
    obtain ⟨x, y, rfl, ⟨_, rx⟩, ⟨_, ry⟩⟩ := r1.two_inv
    obtain ⟨rfl, _⟩ := ry.sc_inv
    obtain ⟨b, us2, rfl, h2, r2⟩ := Rep.tup_at rx s
    rw [show p.1.map keyD = (p.1.map kV).map PL.D.sc by rw [List.map_map]; rfl] at r2
    obtain ⟨rfl, _⟩ := r2.sc_inv
    exact ⟨pk :: ps, (p.1, b, p.2) :: ks, rfl, by rw [List.map_cons, e1], .cons ⟨.of h1, h2⟩ pp⟩
/-- dict(pairs), keys tuples -/
def rdDictPT : RDA := fun ds R => ∃ o kvs, ds = [.obj o .lst (kvs.map pT)] ∧ R (dctD true (putAllT kvs))
theorem sDictPT : SndA K (fun xs H Q => ∃ (a : Addr) (ps : List Addr) (kvs : List (List Key × Addr × V)), xs = [V.ref a] ∧ SqL K H a (ps.map V.ref) ∧ Paired (PairT H K) ps kvs ∧ ∀ p, H p = none → Q (.ref p) (upd H p (.dT (putAllT (kvs.map fun q => (q.1, q.2.2)))))) rdDictPT := by
  intro F H B env σ As ds vs a R Q s r h k
  obtain ⟨o, kvs, rfl, hR⟩ := h
  obtain ⟨v, rfl, a', r⟩ := r.one_inv'
  obtain ⟨p, us, a2, rfl, e1, r1⟩ := r.seq_inv rfl s.same
  obtain ⟨ps, ks, rfl, e2, pp⟩ := pairs_rep r1 s.same
  refine ⟨p, ps, ks, rfl, e1, pp, fun q hq => ?_⟩
  rw [e2]
  refine k _ _ F [q] _ ((s.newO hq).imp fun _ => rfl) ⟨dctD_own upd_same, ?_, ?_, ?_⟩ hR
  · exact List.nodup_cons.mpr ⟨s.notAs hq, s.nd⟩
  · intro x hx; rw [List.mem_singleton.mp hx]; exact s.freeF hq
  · intro x hx; rw [List.mem_singleton.mp hx]; exact s.notB hq
end
/-! range(i, j, -1) -/
def rngDn (i : Int) (n : Nat) : List D := (List.range n).map fun (k : Nat) => D.int (i - (k : Int))
def iRngDn (wa : WA) : WI := fun env R => wa env fun ds e1 => match ds with
  | [.sc (.int i), .sc (.int j), .sc (.int c)] => c = -1 ∧ -(2 ^ 62) ≤ i ∧ i < 2 ^ 62 ∧ -(2 ^ 62) ≤ j ∧ j < 2 ^ 62 ∧ R (rngDn i (i - j).toNat) e1
  | _ => False
section
variable {X : Cx} {p : Bool} {pos : Pos}
theorem di_rangeDn {tg a b c : Expr} {wa : WA} {q : Pos} (hg : Gl X "range") (hm : X.mg "range" = none) (ha : DA p X [a, b, c] wa)
    (hs : starEach [a, b, c] X.env = (false, eval a X.env) :: starEach [b, c] X.env := by rfl) (hpl : (backTo pos (starEach [b, c] X.env)).any (·.1) = false := by rfl) :
    DI p X tg (.Call (.Name "range" q) [a, b, c] [] pos) (iRngDn wa) := by
  refine ⟨PIimp (pi_range3 hg hm ha.pa hs hpl) ?_⟩
  rintro σ H Q ⟨F, B, env, As, R, s, hw, k⟩
  refine ⟨F, B, env, As, _, s, hw, fun vs H1 F1 As1 a ds e1 po1 t1 h1 => ?_⟩
  split at h1
  · obtain ⟨rfl, h2, h3, h4, h5, h6⟩ := h1
    obtain ⟨v, us, A1, A2, rfl, e0, q1, q2⟩ := t1.rep.cons_inv
    obtain ⟨v2, us2, A3, A4, rfl, e3, q3, q4⟩ := q2.cons_inv
    obtain ⟨v3, us3, A5, A6, rfl, e4, q5, q6⟩ := q4.cons_inv
    obtain ⟨rfl, _⟩ := q6.nil_inv
    obtain ⟨rfl, _⟩ := q1.sc_inv
    obtain ⟨rfl, _⟩ := q3.sc_inv
    obtain ⟨rfl, _⟩ := q5.sc_inv
    refine ⟨_, _, _, _, rfl, .neg h2 h3 h4 h5, k _ H1 F1 As1 e1 _ po1 ⟨fun i H sm hi => ?_, fun i H sm hi => ?_, fun i x H H' y sm d hd => ?_⟩ h6⟩
    · unfold rngDn at hi
      rw [List.length_map, List.length_range] at hi
      exact hi
    · unfold rngDn at hi
      rw [List.length_map, List.length_range] at hi
      exact hi
    · obtain ⟨rfl, rfl⟩ := y
      unfold rngDn at hd
      rw [List.getElem?_map] at hd
      obtain ⟨k', e1, rfl⟩ := Option.map_eq_some_iff.mp hd
      have e2 : k' = i := by
        have := List.getElem?_eq_some_iff.mp e1
        obtain ⟨_, e3⟩ := this
        rw [List.getElem_range] at e3
        exact e3.symm
      subst e2
      refine .inl ⟨rfl, ?_⟩
      have h : ∀ a b : Int, a + b * (-1) = a - b := fun a b => by omega
      rw [h]
      exact .sc
  · exact h1.elim
end
theorem units2 {n : Nat} (h : n + 65 < cLine) : n + 2 < cLine := by omega
end PL

/-! PL8: what raises for sure: a second judgement beside DE and DS, whose one end is the raise (the name of its class, and the names as they stand then);
defs that raise; try with one except clause without a name: its body runs, or it raises and the suite runs. -/
namespace PL
open PySem PySem.Spec PyProof.Rows L2

abbrev XR := Str → En → Prop
abbrev WRS := En → XR → Prop
abbrev WRF := List D → XR → Prop
/-- the raise is taken by W -/
def liftR (K : PySem.W.Frag) (mg : Str → Option Value) (kp : List Nat) (W : WX) (w : WRS) : L2.St → Hp → Prop := fun σ H => ∃ F B env As, ∃ Rr : XR, SO K F H B env σ As ∧ w env Rr ∧
  ∀ nm c σ' H' F' As' env', PostS K kp F H B σ F' H' env' σ' As' → mg nm = some (.ref c) → Rr nm env' → W (.ref c) none σ' H'
structure RE (kp : List Nat) (X : Cx) (W : WX) (e : Expr) (w : WRS) : Prop where
  pe : PE X e fun σ H _ => liftR X.K X.mg kp W w σ H
structure RA (kp : List Nat) (X : Cx) (W : WX) (es : List Expr) (w : WRS) : Prop where
  pa : PA X es fun σ H _ => liftR X.K X.mg kp W w σ H
structure RS (kp : List Nat) (X : Cx) (W : WX) (st : Stmt) (w : WRS) : Prop where
  ps : PS X st fun _ σ H => liftR X.K X.mg kp W w σ H
structure RSs (kp : List Nat) (X : Cx) (W : WX) (st : List Stmt) (w : WRS) : Prop where
  ps : PSs X st fun _ σ H => liftR X.K X.mg kp W w σ H
/-- what raises behind something that went on -/
theorem liftR_on {K : PySem.W.Frag} {mg : Str → Option Value} {kp : List Nat} {W : WX} {w : WRS} {Rr : XR} {F F1 H H1 : Hp} {B : Addr → Prop} {env1 : En} {σ σ1 : L2.St} {As1 : List (List Addr)}
    (po : PostS K kp F H B σ F1 H1 env1 σ1 As1) (hw : w env1 Rr) (k : ∀ nm c σ' H' F' As' env', PostS K kp F H B σ F' H' env' σ' As' → mg nm = some (.ref c) → Rr nm env' → W (.ref c) none σ' H') : liftR K mg kp W w σ1 H1 :=
  ⟨F1, B, env1, As1, Rr, po.so, hw, fun nm c σ' H' F' As' env' po2 hm h => k nm c σ' H' F' As' env' (po.trans po2) hm h⟩
section
variable {X : Cx} {W : WX} {kp : List Nat} {p : Bool} {e c : Expr} {es : List Expr} {st : Stmt} {sa sb rest : List Stmt} {we : WE} {ws : WS} {wt : WT} {wr wr2 : WRS} {pos : Pos}
def rNever : WRS := fun _ _ => False
theorem re_never : RE kp X W e rNever := ⟨⟨fun pins s σ H Q I ⟨_, _, _, _, _, _, h, _⟩ => h.elim⟩⟩
theorem ra_never : RA kp X W es rNever := ⟨⟨fun pos pins s σ H Q I ⟨_, _, _, _, _, _, h, _⟩ => h.elim⟩⟩
theorem rs_never : RS kp X W st rNever := ⟨⟨fun pins s σ H D I ⟨_, _, _, _, _, _, h, _⟩ => h.elim⟩⟩
theorem rss_never : RSs kp X W sa rNever := ⟨⟨fun pins s σ H D I ⟨_, _, _, _, _, _, h, _⟩ => h.elim⟩⟩
theorem ps_no : PS X st fun _ _ _ => False := ⟨fun pins s σ H D I h => h.elim⟩
theorem pss_no : PSs X sa fun _ _ _ => False := ⟨fun pins s σ H D I h => h.elim⟩
theorem pa_no : PA X es fun _ _ _ => False := ⟨fun pos pins s σ H Q I h => h.elim⟩
/-! ### arguments, displays -/
theorem ra_head (h : RE kp X W e wr) (hs : starEach (e :: es) X.env = (false, eval e X.env) :: starEach es X.env := by rfl) : RA kp X W (e :: es) wr :=
  ⟨PAimp (pa_cons h.pe (pa_no (X := X) (es := es)) hs) fun _ _ _ h => h⟩
def rCons (we : WE) (wr : WRS) : WRS := fun env Rr => we env fun _ e1 => wr e1 Rr
theorem ra_later (h : DE p X e we) (ha : RA kp X W es wr) (hs : starEach (e :: es) X.env = (false, eval e X.env) :: starEach es X.env := by rfl) : RA kp X W (e :: es) (rCons we wr) := by
  refine ⟨PAimp (pa_cons h.pe ha.pa hs) ?_⟩
  rintro σ H Q ⟨F, B, env, As, Rr, s, hw, k⟩
  exact ⟨F, B, env, As, _, s, hw, fun v H1 F1 As1 a d e1 po1 t1 h1 => liftR_on po1.ps h1 k⟩
/-- [f(..), ..] -/
theorem re_lst (h : RA kp X W es wr) : RE kp X W (.List es pos) wr := ⟨PEimp (pe_lst h.pa) fun _ _ _ h => h⟩
/-! ### statements -/
theorem rs_expr (h : RE kp X W e wr) (hs : swapsWith e none pos.line X.env = pure false := by rfl) : RS kp X W (.Expr e pos) wr := ⟨PSimp (ps_expr h.pe hs) fun _ _ _ h => h⟩
theorem rs_ret (h : RE kp X W e wr) : RS kp X W (.Return (some e) pos) wr := ⟨PSimp (ps_ret h.pe) fun _ _ _ h => h⟩
theorem rs_set {i : Nat} {x : Str} {pos' : Pos} (hN : X.N.Nodup) (hi : X.N[i]? = some x) (hx : Loc X.env.scope x) (h : RE kp X W e wr) (hs : swapsWith e (some (.Name x pos')) pos.line X.env = pure false := by rfl)
    (hf : X.fn x = true ∨ X.env.scope.names.lookup x = some .local := by first | exact .inl rfl | exact .inr rfl | assumption) : RS kp X W (.Assign [.Name x pos'] e pos) wr :=
  ⟨PSimp (ps_set hN hi hx h.pe hs hf) fun _ _ _ h => h⟩
def rRaise (nm : Str) : WRS := fun env Rr => Rr nm env
theorem rs_raise {nm : Str} {C : Addr} {bmB : List Value} {Bn newId initId : String} {m : Str} {j : Nat} {p1 p2 p3 : Pos} (tk : Takes X W) (hc : X.calm = true) (F : ExcBaseFacts Bn newId initId bmB) (q : PySem.W.excIn X.K C bmB newId = true) (gC : X.mg nm = some (.ref C)) (kC : PySem.W.keepIn X.K (.ref C) = true)
    (b1 : PySem.W.subIn X.K (.ref C) (.type "BaseException") = some true) (b2 : PySem.W.typeIn X.K (.ref C) = some (.type "type")) (hg : Gl X nm)
    (hdb : (nm == ("__debug__" : Str)) = false := by decide) : RS kp X W (.Raise (some (.Call (.Name nm p1) [.Constant (.str m) j p2] [] p3)) none pos) (rRaise nm) := by
  refine ⟨PSimp (ps_raise hc tk (pmk_own F q gC kC (raises_own b1 b2) hg hdb)) ?_⟩
  rintro D σ H ⟨F, B, env, As, Rr, s, hw, k⟩
  exact k nm C σ H F As env (.refl s) gC hw
theorem rss_first (h : RS kp X W st wr) : RSs kp X W (st :: rest) wr := ⟨PSsimp (pss_cons h.ps (pss_no (X := X) (sa := rest))) fun _ _ _ h => h⟩
def rSeq (ws : WS) (wr : WRS) : WRS := fun env Rr => ws env ⟨fun e1 => wr e1 Rr, fun _ _ => False, fun _ => False, fun _ => False⟩
theorem rss_later (h : DS kp X st ws) (hr : RSs kp X W rest wr) : RSs kp X W (st :: rest) (rSeq ws wr) := by
  refine ⟨PSsimp (pss_cons h.ps hr.ps) ?_⟩
  rintro D σ H ⟨F, B, env, As, Rr, s, hw, k⟩
  exact ⟨F, B, env, As, _, s, hw, fun σ1 H1 F1 As1 e1 po1 h1 => liftR_on po1 h1 k, fun _ _ _ _ _ _ h => h.elim, fun _ _ _ _ _ _ h => h.elim, fun _ _ _ _ _ _ _ _ _ _ h => h.elim⟩
def rIf (wt : WT) (wa wb : WRS) : WRS := fun env Rr => wt env fun b e1 => if b = true then wa e1 Rr else wb e1 Rr
theorem rs_if (hc : DT p X c wt) (ha : RSs kp X W sa wr) (hb : RSs kp X W sb wr2) : RS kp X W (.If c sa sb pos) (rIf wt wr wr2) := by
  refine ⟨PSimp (ps_if hc.pt ha.ps hb.ps) ?_⟩
  rintro D σ H ⟨F, B, env, As, Rr, s, hw, k⟩
  refine ⟨F, B, env, As, _, s, hw, fun b H1 F1 As1 e1 po1 h1 => ?_⟩
  cases b with
  | true => exact liftR_on po1.ps (by simpa using h1) k
  | false => exact liftR_on po1.ps (by simpa using h1) k
end
/-- an exception class of the text over ValueError, without a body of its own -/
structure OwnX (K : PySem.W.Frag) (mg : Str → Option Value) (nm : Str) : Prop where
  ex : ∃ C : Addr, mg nm = some (.ref C) ∧ PySem.W.keepIn K (.ref C) = true ∧ PySem.W.excIn K C [.type "ValueError", .type "Exception", .type "BaseException", .type "object"] "ValueError.__new__" = true ∧
    PySem.W.subIn K (.ref C) (.type "BaseException") = some true ∧ PySem.W.typeIn K (.ref C) = some (.type "type") ∧ PySem.W.exmOne K (.ref C) (.ref C) = some true
/-- such a class names itself in an except clause -/
theorem exm_selfX {K : PySem.W.Frag} {C : Addr} (h1 : PySem.W.subIn K (.ref C) (.type "BaseException") = some true) (h2 : PySem.W.isClsIn K C = true) (h3 : PySem.W.typeIn K (.ref C) = some (.type "type")) (h4 : PySem.W.subIn K (.ref C) (.ref C) = some true) :
    PySem.W.exmOne K (.ref C) (.ref C) = some true := by
  have e1 : (PySem.W.subIn K (.ref C) (.type "BaseException") == some true) = true := by rw [h1] <;> rfl
  have e2 : ((PySem.W.clsIn K C).isSome && PySem.W.typeIn K (.ref C) == some (.type "type")) = true := by rw [show (PySem.W.clsIn K C).isSome = true from h2, h3] <;> rfl
  show (if (PySem.W.subIn K (.ref C) (.type "BaseException") == some true) = true then (if ((PySem.W.clsIn K C).isSome && PySem.W.typeIn K (.ref C) == some (.type "type")) = true then PySem.W.subIn K (.ref C) (.ref C) else none) else none) = some true
  rw [if_pos e1, if_pos e2]
  exact h4
theorem rs_raiseO {X : Cx} {W : WX} {kp : List Nat} {pos : Pos} {nm : Str} {m : Str} {j : Nat} {p1 p2 p3 : Pos} (tk : Takes X W) (hc : X.calm = true) (o : OwnX X.K X.mg nm) (hg : Gl X nm) (hdb : (nm == ("__debug__" : Str)) = false := by decide) :
    RS kp X W (.Raise (some (.Call (.Name nm p1) [.Constant (.str m) j p2] [] p3)) none pos) (rRaise nm) := by
  obtain ⟨C, h1, h2, h3, h4, h5, _⟩ := o.ex
  exact rs_raise tk hc PySem.F.excBase_ValueError h3 h1 h2 h4 h5 hg hdb
/-! ### calls of defs that raise -/
/-- the promise of a def that raises for sure -/
def spR (K : PySem.W.Frag) (mg : Str → Option Value) (w : WRF) : Sp := fun vs H _ E => ∃ F B ds As, ∃ Rr : XR, SO K F H B (ds.map some) (vs.map some) As ∧ w ds Rr ∧
  ∀ nm c H' F' As' ds', PostE K false F H B (ds.map some) (vs.map some) As F' H' ds' As' → mg nm = some (.ref c) → Rr nm ds' → E (.ref c) none H'
def rCall (f : WRF) (wc : WC) : WRS := fun env Rr => wc env fun is e1 => match takeA e1 is with
  | some (ds, e2) => f ds fun nm ds' => Rr nm (putA e2 is ds')
  | none => False
theorem call_atR {K : PySem.W.Frag} {mg : Str → Option Value} {f : WRF} {E : XK} {F H : Hp} {B : Addr → Prop} {env : En} {σ : L2.St} {As : List (List Addr)} {is : List AV} {vs : List V} {a : List Addr} {Rr : XR} {Q : VK} (so : SO K F H B env σ As) (t1 : TI K F H B σ As is vs a)
    (h1 : match takeA env is with | some (ds, e2) => f ds fun nm ds' => Rr nm (putA e2 is ds') | none => False)
    (k : ∀ nm c H' F' As' env', PostE K false F H B env σ As F' H' env' As' → mg nm = some (.ref c) → Rr nm env' → E (.ref c) none H') : spR K mg f vs H Q E := by
  split at h1
  · rename_i ds e2 ht
    obtain ⟨As2, AA, q1, q2, q3, q4, q5, q6, q7, q8, q9⟩ := take_ok so t1 ht
    have n3 := List.nodup_append.mp q3
    have sc : SO K F H (fun x => B x ∨ x ∈ As2.flatten) (ds.map some) (vs.map some) AA := by
      refine ⟨so.same, q2, n3.1, fun x hx => (q4 x hx).1, fun b hb => ?_⟩
      rcases hb with hb | hb
      · obtain ⟨k1, k2, k3⟩ := q1.out b hb
        exact ⟨k1, k2, fun z => (q4 b z).2 hb⟩
      · refine ⟨q1.fr b hb, ?_, fun z => n3.2.2 b z b hb rfl⟩
        exact q1.env.mut b hb
    refine ⟨F, _, ds, AA, _, sc, h1, fun nm c H2 F2 AA2 ds' po2 hm h2 => ?_⟩
    have kA : ∀ x ∈ As2.flatten, H2 x = H x := fun x hx => po2.keep x (.inr hx)
    have s2 : SO K F2 H2 B e2 σ As2 := by
      refine ⟨po2.so.same, q1.env.frame po2.ext kA, q1.nd, fun x hx => (po2.so.out x (.inr hx)).1, fun b hb => ?_⟩
      obtain ⟨k1, k2, k3⟩ := po2.so.out b (.inl hb)
      exact ⟨k1, k2, (q1.out b hb).2.2⟩
    have ndd : (AA2.flatten ++ As2.flatten).Nodup := List.nodup_append.mpr ⟨po2.so.nd, q1.nd, fun x hx y hy e => (po2.so.out y (.inr hy)).2.2 (e ▸ hx)⟩
    obtain ⟨As3, s3, sub⟩ := put_ok s2 q7 (fun i hi => (q8 i hi).1) t1.rep po2.so.env ndd fun x hx => ⟨po2.so.fr x hx, fun hb => (po2.so.out x (.inl hb)).2.2 hx⟩
    exact k nm c H2 F2 As3 _ ⟨po2.ext, s3, fun b hb => po2.keep b (.inl hb), fun z => Bool.noConfusion z⟩ hm h2
  · exact h1.elim
section
variable {X : Cx} {CX : CXT} {k j : Nat} {f : Addr} {fd : FuncData} {ps : List Str} {x : Str} {st : Stmt} {q pos : Pos} {e : Expr} {es : List Expr} {w : WRF} {wc : WC} {sp : Sp} {E : L2.St → XK} {dvs : List V} {dfs : List Value} {ta : TA} {W : WX} {kp : List Nat}
open PySem.Spec PyProof.Rows in
theorem FnG.runS (G : FnG X.prog X.w X.K X.mg X.base CX k f fd ps sp) (hr : Room k X.A) (hg : X.A.guards = some []) (hb : Binds X.K fd ps dfs) (hd : Vals dvs dfs) {pins : List (Addr × Obj)} {σ : L2.St} {H : Hp} {s : Shared} {us : List Value} {vs : List V} {Q : VK} (hx : PassesAt CX X σ (E σ))
    (I : Inv X pins σ H s) (rv : Vals vs us) (h : sp (vs ++ dvs) H Q (E σ)) : wpAny (model X.prog X.w) X.A (call (.ref f) us) (EP X pins σ Q) X.xe s := by
  have rv2 := rv.append hd
  have bound := hb s us I.kIn (rv2.length ▸ G.len _ _ _ _ h)
  refine wpAny_call (codeAny_mono (G.go X.A hr hg X.stack s H I.env0 _ _ _ bound rv2 Q (E σ) h) ?_)
  rintro (e | fl) s' done
  · exact hx pins H s e s' I done
  · cases fl with
    | ret u => exact I.after done
    | _ => exact done.elim
open PySem.Spec PyProof.Rows in
theorem peg_callS (G : FnG X.prog X.w X.K X.mg X.base CX k f fd ps sp) (hr : Room k X.A) (hgd : X.A.guards = some []) (hg : Gl X x) (hm : X.mg x = some (.ref f)) (hk : PySem.W.keepIn X.K (.ref f) = true) (hb : Binds X.K fd ps dfs) (hd : Vals dvs dfs) (hx : ∀ σ, PassesAt CX X σ (E σ)) (ha : PA X (e :: es) ta)
    (hdb : (x == ("__debug__" : Str)) = false := by decide) (he : starEach (e :: es) X.env = (false, eval e X.env) :: starEach es X.env := by rfl) (hpl : (backTo pos (starEach es X.env)).any (·.1) = false := by rfl) :
    PE X (.Call (.Name x q) (e :: es) [] pos) (fun σ H Q => ta σ H fun vs H1 => sp (vs ++ dvs) H1 Q (E σ)) :=
  ⟨fun pins s σ H Q I h => wpAny_Call_Name_kw (ld_glob I hg hm (PySem.W.callWith_K (h₀ := X.base) I.ok.mod.kin hk (thn (ha.run pos pins s σ H _ I h) fun us s1 ⟨vs, H1, I1, rv, q⟩ => ⟨I1.kIn, G.runS hr hgd hb hd (hx σ) I1 rv q⟩) he hpl) hdb)⟩
/-- a def that raises for sure -/
structure CalR (P : Program) (w : World) (K : PySem.W.Frag) (mg : Str → Option Value) (base : Heap) (k : Nat) (x : Str) (st : Stmt) (ps : List Str) (wf : WRF) : Prop where
  ex : ∃ (f : Addr) (fd : FuncData), FnG P w K mg base (L2.CX P w) k f fd ps (spR K mg wf) ∧ mg x = some (.ref f) ∧ PySem.W.keepIn K (.ref f) = true ∧ Binds K fd ps [] ∧ Fun K x x st f fd
theorem CalR.mk' {P : Program} {w : World} {K : PySem.W.Frag} {mg : Str → Option Value} {base : Heap} {k : Nat} {x : Str} {st : Stmt} {ps : List Str} {wf : WRF} {f : Addr} {fd : FuncData} (G : Fun K x x st f fd) (hm : mg x = some (.ref f)) (hb : Binds K fd ps []) (h : FnG P w K mg base (L2.CX P w) k f fd ps (spR K mg wf)) : CalR P w K mg base k x st ps wf := ⟨f, fd, h, hm, G.kp, hb, G⟩
/-- f(e, ..) that raises -/
theorem re_cal (C : CalR X.prog X.w X.K X.mg X.base k x st ps w) (tk : Takes X W) (hr : Room j X.A) (hj : k ≤ j) (hgd : X.A.guards = some []) (hg : Gl X x) (ha : DC X (e :: es) wc)
    (hdb : (x == ("__debug__" : Str)) = false := by decide) (he : starEach (e :: es) X.env = (false, eval e X.env) :: starEach es X.env := by rfl) (hpl : (backTo pos (starEach es X.env)).any (·.1) = false := by rfl) :
    RE kp X W (.Call (.Name x q) (e :: es) [] pos) (rCall w wc) := by
  obtain ⟨f, fd, G, hm, hk, hb, _⟩ := C.ex
  refine ⟨PEimp (peg_callS (E := L2.WE W) G (hr.mono hj) hgd hg hm hk hb .nil (fun σ => passAt tk σ) ha.pa hdb he hpl) ?_⟩
  rintro σ H Q ⟨F, B, env, As, Rr, s, hw, k⟩
  refine ⟨F, B, env, As, _, s, hw, fun vs H1 F1 As1 a is e1 po1 t1 h1 => ?_⟩
  show spR X.K X.mg w (vs ++ []) H1 Q (L2.WE W σ)
  rw [List.append_nil]
  exact call_atR po1.so t1 h1 fun nm c H' F' As' env' po hm h => k nm c σ H' F' As' env' (po1.trans po).ps hm h
end
/-! ### a def that raises -/
def fnR (mask : List Bool) (loc : Nat) (wb : WRS) : WRF := fun ds Rr => ds.length = mask.length ∧ wb (ds.map some ++ List.replicate loc none) fun nm env => Rr nm (parm mask env)
section
variable {P : Program} {w : World} {K : PySem.W.Frag} {mg : Str → Option Value} {base : Heap}
theorem fn_raise {x qual : Str} {st : Stmt} {f : Addr} {fd : FuncData} {N ps : List Str} {k : Nat} {mask : List Bool} {loc : Nat} {wb : WRS} (G : Fun K x qual st f fd) (S : FnScope N ps (defScope st)) (hN : N.length = mask.length + loc) (hps : ps.length = mask.length)
    (hbody : ∀ (cdv : Value) (A : Around) (outer : List Env) (s : Shared) (H : Hp) (E : XK), Room k (A.deeper (PyProof.Rows.envOfC qual (defScope st) s.heap.objs.size f cdv)) → (A.deeper (PyProof.Rows.envOfC qual (defScope st) s.heap.objs.size f cdv)).guards = some [] →
      ∀ W : WX, Takes (cxOf (L2.CX P w) P w K mg base N qual (defScope st) f cdv A outer s H E) W →
      RSs (keptOf mask) (cxOf (L2.CX P w) P w K mg base N qual (defScope st) f cdv A outer s H E) W (defBody st) wb) : FnG P w K mg base (L2.CX P w) (k + 1) f fd ps (spR K mg (fnR mask loc wb)) := by
  obtain ⟨oc, od, kV, doc, pm, an, cdv, ct, osl, hfd, lk, hcd⟩ := G.ex
  refine fng_of hfd lk hcd S (fun vs H Q E h => ?_) (fun A outer s H vs Q E hr hgd h => ?_)
  · obtain ⟨F, B, ds, As, R, so, ⟨hl, _⟩, _⟩ := h
    have := so.env.len.1
    simp at this
    omega
  · obtain ⟨F, B, ds, As, Rr, so, ⟨hl, hw⟩, kk⟩ := h
    have hlv : vs.length = mask.length := by
      have := so.env.len.1
      simp at this
      omega
    refine ⟨_, (hbody cdv A outer s H E hr hgd (fun cls d _ H => E cls d H) (takes_of rfl rfl rfl rfl)).ps, ?_⟩
    have es : L2.start N vs = vs.map some ++ List.replicate loc none := by
      unfold L2.start
      rw [hN, hlv]
      congr 2
      omega
    rw [es]
    have so' : SO K F H B (ds.map some ++ List.replicate loc none) (vs.map some ++ List.replicate loc none) (As ++ List.replicate loc []) :=
      ⟨so.same, envR_pad so.env loc, by rw [flat_pad]; exact so.nd, by rw [flat_pad]; exact so.fr, by rw [flat_pad]; exact so.out⟩
    refine ⟨F, B, _, _, _, so', hw, fun nm c σ' H' F' As' env' po hm h => ?_⟩
    obtain ⟨As2, q1, q2⟩ := parm_env (mask := mask) (vs := vs) po.so.env hlv.symm (by rw [po.len]; simp) (fun i hi => by
      have hil : i < mask.length := (List.getElem?_eq_some_iff.mp hi).1
      rw [po.kp i (List.mem_filter.mpr ⟨List.mem_range.mpr hil, by rw [List.getD_eq_getElem?_getD, hi]; rfl⟩), List.getElem?_append_left (by rw [List.length_map]; omega)])
    have nd2 := q2.nodup po.so.nd
    refine kk nm c H' F' As2 _ ⟨po.ext, ⟨po.so.same, q1, nd2, fun x hx => po.so.fr x (q2.subset hx), fun b hb => ?_⟩, po.keep, fun z => Bool.noConfusion z⟩ hm h
    obtain ⟨k1, k2, k3⟩ := po.so.out b hb
    exact ⟨k1, k2, fun z => k3 (q2.subset z)⟩
end
/-! ### try: body, except X: suite -/
/-- it runs, or it raises and the suite runs -/
def sTry (x : Str) (wb : WS) (wr : WRS) (wh : WS) : WS := fun env RD => wb env RD ∨ wr env fun nm e1 => nm = x ∧ wh e1 RD
section
variable {X : Cx} {kp : List Nat} {x : Str} {C : Addr} {body suite : List Stmt} {b₀ : Stmt} {np pos pos' : Pos} {wb wh : WS} {wr : WRS}
theorem ds_try (hs : X.stack = X.env :: X.outer) (hf : X.env.frame = some X.env.locals) (hg : Gl X x) (hm : X.mg x = some (.ref C)) (he : PySem.W.exmOne X.K (.ref C) (.ref C) = some true)
    (hb : ∀ (pn : List (Addr × Obj)) (xe : Value → Shared → Prop), DSs kp (X.tr pn xe) body wb)
    (hr : ∀ (W : WX) (pn : List (Addr × Obj)) (xe : Value → Shared → Prop), Takes (X.tr pn xe) W → RSs kp (X.tr pn xe) W body wr)
    (hsu : ∀ (a : Addr) (oe : Obj) (pn : List (Addr × Obj)), DSs kp (X.suite a ((a, oe) :: pn)) (b₀ :: suite) wh) (hdb : (x == ("__debug__" : Str)) = false := by decide) :
    DS kp X (.Try body [.ExceptHandler (some (.Name x np)) none (b₀ :: suite) pos'] [] [] pos) (sTry x wb wr wh) := by
  refine ⟨PSimp (ps_try_only (tb := fun W D σ H => liftS X.K kp wb D σ H ∨ liftR X.K X.mg kp W wr σ H) (ts := fun _ _ _ => liftS X.K kp wh) hs hf ⟨hg, hdb, .inl hm⟩ takes0 (fun W pn xe tk _ => ⟨fun pins s σ H D I h => ?_⟩) (fun a oe cls d pn _ _ => (hsu a oe pn).ps)) ?_⟩
  · rcases h with h | h
    · exact (hb pn xe).ps.run pins s σ H D I h
    · exact (hr W pn xe tk).ps.run pins s σ H D I h
  · rintro D σ H ⟨F, B, env, As, RD, s, hw, k1, k2, k3, k4⟩
    rcases hw with hw | hw
    · exact .inl ⟨F, B, env, As, RD, s, hw, k1, k2, k3, k4⟩
    · refine .inr ⟨F, B, env, As, _, s, hw, fun nm c σ' H' F' As' env' po hm' h => ?_⟩
      obtain ⟨rfl, h⟩ := h
      rw [hm] at hm'
      obtain rfl : C = c := by injection hm' with z; injection z
      refine ⟨true, he, fun _ a _ => ⟨F', B, env', As', RD, po.so, h, fun σ2 H2 F2 As2 e2 po2 => k1 σ2 H2 F2 As2 e2 (po.trans po2), fun σ2 H2 F2 As2 e2 po2 => k2 σ2 H2 F2 As2 e2 (po.trans po2), fun σ2 H2 F2 As2 e2 po2 => k3 σ2 H2 F2 As2 e2 (po.trans po2),
        fun v σ2 H2 F2 As2 a d e2 po2 => k4 v σ2 H2 F2 As2 a d e2 (po.trans po2)⟩, fun z => Bool.noConfusion z⟩
theorem ds_tryO (hs : X.stack = X.env :: X.outer) (hf : X.env.frame = some X.env.locals) (hg : Gl X x) (o : OwnX X.K X.mg x)
    (hb : ∀ (pn : List (Addr × Obj)) (xe : Value → Shared → Prop), DSs kp (X.tr pn xe) body wb)
    (hr : ∀ (W : WX) (pn : List (Addr × Obj)) (xe : Value → Shared → Prop), Takes (X.tr pn xe) W → RSs kp (X.tr pn xe) W body wr)
    (hsu : ∀ (a : Addr) (oe : Obj) (pn : List (Addr × Obj)), DSs kp (X.suite a ((a, oe) :: pn)) (b₀ :: suite) wh) (hdb : (x == ("__debug__" : Str)) = false := by decide) :
    DS kp X (.Try body [.ExceptHandler (some (.Name x np)) none (b₀ :: suite) pos'] [] [] pos) (sTry x wb wr wh) := by
  obtain ⟨C, h1, _, _, _, _, h6⟩ := o.ex
  exact ds_try hs hf hg h1 h6 hb hr hsu hdb
end
end PL

/-! PL9: except (A, B, ..) as e, the exception held on as data. -/
namespace PL
open PySem PySem.Spec PyProof.Rows L2
section
variable {M : Model} {A : Around} {E : Value → Shared → Prop} {s : Shared}
theorem forIn_all {f : Value → PUnit → Sem (ForInStep PUnit)} {Q : PUnit → Shared → Prop} : ∀ {cs : List Value}, (∀ c ∈ cs, ∀ Q' : ForInStep PUnit → Shared → Prop, Q' (.yield PUnit.unit) s → wpAny M A (f c PUnit.unit) Q' E s) → Q PUnit.unit s → wpAny M A (forIn cs PUnit.unit f) Q E s
  | [], _, q => by
    simp only [List.forIn_nil]
    exact wpAny_pure q
  | c :: cs, h, q => by
    simp only [List.forIn_cons]
    refine wpAny_bind (h c (List.mem_cons_self ..) _ ?_)
    exact forIn_all (fun c hc => h c (List.mem_cons_of_mem _ hc)) q
theorem forIn_find {p : Value → Bool} {f : Value → Option Bool × Unit → Sem (ForInStep (Option Bool × Unit))} {Q : Option Bool × Unit → Shared → Prop} :
    ∀ {cs : List Value}, (∀ c ∈ cs, ∀ Q' : ForInStep (Option Bool × Unit) → Shared → Prop, Q' (if p c = true then .done (some true, ()) else .yield (none, ())) s → wpAny M A (f c (none, ())) Q' E s) →
    Q (if cs.any p = true then (some true, ()) else (none, ())) s → wpAny M A (forIn cs (none, ()) f) Q E s
  | [], _, q => by
    simp only [List.forIn_nil]
    exact wpAny_pure (by simpa using q)
  | c :: cs, h, q => by
    simp only [List.forIn_cons]
    refine wpAny_bind (h c (List.mem_cons_self ..) _ ?_)
    by_cases hp : p c = true
    · rw [if_pos hp]
      rw [List.any_cons, hp, Bool.true_or, if_pos rfl] at q
      exact wpAny_pure q
    · rw [if_neg hp]
      rw [List.any_cons, Bool.eq_false_iff.mpr hp, Bool.false_or] at q
      exact forIn_find (fun c hc => h c (List.mem_cons_of_mem _ hc)) q
end
open PySem.W in
theorem exm_list {M : Model} {K : Frag} {cs : List Value} {cls : Value} {tp e : Addr} {h : Heap} (X : K.In h) (LT : Looks M h (typeOf (.ref e)) cls) (hp : h.get? tp = some { cls := .type "tuple", data := .seq cs.toArray }) (hx : ∀ c ∈ cs, ∃ b, exmOne K cls c = some b) :
    Looks M h (excMatches (.ref e) (.ref tp)) (cs.any fun c => exmOne K cls c == some true) := by
  intro A Q E s k₀ q
  obtain ⟨hh, g, d, tk, os⟩ := s
  have k : ∀ b o, h.get? b = some o → hh.get? b = some o := k₀
  have LT0 : Looks M h (isInstance (.ref tp) (.type "tuple")) true := ((Looks.ld hp).andThen .now).andThen (Looks.of_pure isSubtype_tuple_tuple)
  have LT := LT.keeps k
  have LT0 := LT0.keeps k
  have hp' := k _ _ hp
  unfold excMatches
  refine wpAny_bind (LT0.at ?_)
  dsimp only
  rw [if_pos rfl]
  first
    | refine wpAny_bind (wpAny_seqItems hp' rfl ?_)
    | refine wpAny_bind (wpAny_bind (wpAny_seqItems hp' rfl (wpAny_pure ?_)))
  dsimp only [Option.getD_some, Option.getD]
  refine wpAny_bind (wpAny_pure ?_)
  refine wpAny_bind (forIn_all (fun c hc Q' q' => ?_) ?_)
  · obtain ⟨b, hb⟩ := hx c hc
    obtain ⟨e1, _⟩ := exm_cls (M := M) X hb
    have e1 := e1.keeps k
    refine wpAny_bind (e1.here ?_)
    simp only [Bool.not_true, Bool.false_eq_true, if_false]
    exact wpAny_pure q'
  · refine wpAny_bind (LT.here ?_)
    refine wpAny_bind (forIn_find (p := fun c => exmOne K cls c == some true) (fun c hc Q' q' => ?_) ?_)
    · obtain ⟨b, hb⟩ := hx c hc
      obtain ⟨_, S1⟩ := exm_cls (M := M) X hb
      have S1 := S1.keeps k
      refine wpAny_bind (S1.here ?_)
      simp only [hb] at q'
      cases b with
      | true => exact wpAny_pure (by simpa using q')
      | false => exact wpAny_pure (by simpa using q')
    · by_cases z : (cs.any fun c => exmOne K cls c == some true) = true
      · rw [z] at q
        simp only [List.toList_toArray, z, if_true] at q ⊢
        exact wpAny_pure q
      · rw [Bool.eq_false_iff.mpr z] at q
        simp only [List.toList_toArray, z, if_false] at q ⊢
        exact wpAny_pure q

/-! ### the exception is tracked from where the suite begins -/
section
variable {X : Cx} {pins : List (Addr × Obj)} {σ : L2.St} {H : Hp} {sI s s' : Shared} {B : Heap}
theorem Inv.landedT (I : L2.Inv X pins σ H sI) (nb : ∀ b o, sI.heap.get? b = some o → b ∉ frs X.stack → B.get? b = some o) (st : B.StaysIn s'.heap) (up : sI.heap.UpToSlots s'.heap) (os : s'.os = sI.os) (ag : AllBare s'.gens)
    {a c : Addr} {oe : Obj} {vs : Array Value} (ne : sI.heap.get? a = none) (na : H a = none) (ha : s'.heap.get? a = some oe) (hz : Zc (.ref c) none oe) (hd : oe.data = .fields vs) : L2.Inv X pins σ (upd H a (ExC c a)) s' := by
  have nf : ∀ b ∈ frs X.stack, ∀ o, sI.heap.get? b = some o → ∃ sl, s'.heap.get? b = some { o with slots := sl } := fun b hb o e => by
    obtain ⟨_, o', e', hd⟩ := I.stack.mem hb
    rw [e] at e'; cases e'
    exact up b o e hd
  have nea : ∀ b o, sI.heap.get? b = some o → b ≠ a := fun b o e z => by rw [z, ne] at e; cases e
  have neH : ∀ b o, H b = some o → b ≠ a := fun b o e z => by rw [z, na] at e; cases e
  have new : ObjOk X.prog X.w (upd H a (ExC c a)) s'.heap a (ExC c a) := ⟨⟨oe, vs, ha, hz, hd⟩, ⟨oe, ha⟩, fun _ _ ⟨o, v, q, r⟩ k => ⟨o, v, k o q, r⟩⟩
  have J := I.call (ch := []) (h' := s'.heap) (g' := s'.gens) (t' := s'.toks) (d' := s'.drawn) (H' := upd H a (ExC c a))
    ⟨fun b o e _ hb _ => st b o (nb b o e hb), fun b o e _ hb _ => nf b hb o e, fun b o e n _ => (upd_ne (nea b o e)).trans n, fun b o e _ => by
      by_cases hb : b ∈ frs X.stack
      · obtain ⟨sl, q⟩ := nf b hb o e
        exact ⟨_, q⟩
      · exact ⟨o, st b o (nb b o e hb)⟩, fun b xs e => (upd_ne (neH b _ e)).trans e, fun b o xs e => (upd_ne (neH b _ e)).trans e, fun b ps e => ⟨#[], by rw [upd_ne (neH b _ e), e]; simp⟩⟩
    (HOk.laidN ((I.inGround nb).kept st) (fun _ _ q => q) na new) ag (fun _ z => nomatch z)
  obtain ⟨a1, a2, a3, a4, a5⟩ := s'
  have e5 : a5 = sI.os := os
  subst e5
  exact J
theorem Inv.suiteT (I : L2.Inv X pins σ H s) (a : Addr) : L2.Inv (X.suite a (X.pn ++ pins)) [] σ H s :=
  ⟨I.ok.suite _ _, I.os, I.bare, I.base, I.loc, I.cell, I.free, I.freeC, fun p hp => I.pin p (by rw [List.append_nil] at hp; exact hp), I.hok, I.len⟩
theorem Inv.unsuiteT {a : Addr} {pn' : List (Addr × Obj)} (I : L2.Inv (X.suite a (X.pn ++ pins)) pn' σ H s) (ok : X.Ok) : L2.Inv X pins σ H s :=
  ⟨ok, I.os, I.bare, I.base, I.loc, I.cell, I.free, I.freeC, fun p hp => I.pin p (List.mem_append_left _ hp), I.hok, I.len⟩
end
theorem flying_keeps {B h h' : Heap} {l : List Env} {a : Addr} {Z : Obj → Prop} (x : HandSPX.FlyingZ B l a Z h) (k : ∀ b o, h.get? b = some o → h'.get? b = some o) : HandSPX.FlyingZ B l a Z h' := by
  obtain ⟨x1, x2, x3, oe, vs, T, oT, ts, he, hz, hd, h1, hn, hT, hTg, r⟩ := x
  exact ⟨fun b o e => k b o (x1 b o e), x2, x3.of_keeps fun b o e _ => ⟨o, k b o e, rfl⟩, oe, vs, T, oT, ts, k _ _ he, hz, hd, h1, hn, hT, k _ _ hTg, r⟩
/-- names of classes, with what stands for them -/
def nameE (x : Str × Pos) : Expr := .Name x.1 x.2
def NamesC (X : Cx) : List (Str × Pos) → List Value → Prop
  | [], [] => True
  | x :: xs, c :: cs => (Gl X x.1 ∧ (x.1 == ("__debug__" : Str)) = false ∧ X.mg x.1 = some c) ∧ NamesC X xs cs
  | _, _ => False
theorem names_suite {X : Cx} {a : Addr} {pn : List (Addr × Obj)} : ∀ {xs : List (Str × Pos)} {cs : List Value}, NamesC X xs cs → NamesC (X.suite a pn) xs cs
  | [], [], h => h
  | _ :: _, _ :: _, ⟨h, hn⟩ => ⟨h, names_suite hn⟩
theorem back_names {env : Env} {pos : Pos} : ∀ xs : List (Str × Pos), backTo pos (starEach (xs.map nameE) env) = starEach (xs.map nameE) env
  | [] => rfl
  | x :: xs => by
    have := back_names (env := env) (pos := pos) xs
    show (false, eval (.Name x.1 x.2) env) :: backTo pos (starEach (xs.map nameE) env) = (false, eval (.Name x.1 x.2) env) :: starEach (xs.map nameE) env
    rw [this]
theorem names_run {X : Cx} {E : Value → Shared → Prop} {pins : List (Addr × Obj)} {σ : L2.St} {H : Hp} {s : Shared} (I : L2.Inv X pins σ H s) : ∀ {xs : List (Str × Pos)} {cs : List Value} {Q : List Value → Shared → Prop}, NamesC X xs cs → Q cs s → wpAny (model X.prog X.w) X.A (spliced (starEach (xs.map nameE) X.env)) Q E s
  | [], [], Q, _, q => Calls.spliced_nil q
  | x :: xs, c :: cs, Q, ⟨⟨h1, h2, h3⟩, hn⟩, q => by
    show wpAny _ _ (spliced ((false, eval (.Name x.1 x.2) X.env) :: starEach (xs.map nameE) X.env)) Q E s
    exact Calls.spliced_cons (ld_glob I h1 h3 (names_run I hn q) h2)
/-- what 'except (A, B, ..) as e' wishes of an exception of the body -/
def wExcT (K : PySem.W.Frag) (cs : List Value) (i : Nat) (ts : Addr → Addr → TS) (D : Ends) : WX := fun cls d σ H =>
  ∃ c : Addr, cls = .ref c ∧ d = none ∧ (∀ v ∈ cs, ∃ b, PySem.W.exmOne K cls v = some b) ∧ (cs.any fun v => PySem.W.exmOne K cls v == some true) = true ∧
    ∀ a, H a = none → ts a c { nx := fun σ' H' => D.nx (σ'.set i none) H', rt := D.rt, bk := fun σ' H' => D.bk (σ'.set i none) H', ct := fun σ' H' => D.ct (σ'.set i none) H' } (σ.set i (some (.ref a))) (upd H a (ExC c a))
section
variable {X : Cx} {n : Str} {i k : Nat} {body suite : List Stmt} {b₀ : Stmt} {np pos pos' : Pos} {xs : List (Str × Pos)} {cs : List Value} {tb : WX → TS} {ts : Addr → Addr → TS}
theorem ps_try_tup (hs : X.stack = X.env :: X.outer) (hf : X.env.frame = some X.env.locals) (hN : X.N.Nodup) (hi : X.N[i]? = some n) (hln : X.env.kindOf n = some .local) (hc : NamesC X xs cs) (hcl : cs.length ≤ sizeLine)
    (hb : ∀ (W : WX) (pn : List (Addr × Obj)) (xe : Value → Shared → Prop), Takes (X.tr pn xe) W → PSs (X.tr pn xe) body (tb W))
    (hsu : ∀ (a c : Addr) (pn : List (Addr × Obj)), PSs (X.suite a pn) (b₀ :: suite) (ts a c)) :
    PS X (.Try body [.ExceptHandler (some (.Tuple (xs.map nameE) k np)) (some n) (b₀ :: suite) pos'] [] [] pos) (fun D σ H => tb (wExcT X.K cs i ts D) D σ H) := by
  refine ⟨fun pins s σ H D I h => ?_⟩
  have ok := I.ok
  have hfr : X.A.frames = some (X.env :: X.outer) := by rw [ok.frames, hs]
  have hloc : Loc X.env.scope n := .inl hln
  refine wpAny_Try_except ?_
  refine wpAny_mono ((hb (wExcT X.K cs i ts D) (X.pn ++ pins) (fun e s₁ => wpAny (model X.prog X.w) X.A (noteFrame e X.env) (fun _ s₂ => wpAny (model X.prog X.w) X.A (setFlight e none) (fun _ s₃ =>
    wpAny (model X.prog X.w) X.A (handleBy e X.env [.ExceptHandler (some (.Tuple (xs.map nameE) k np)) (some n) (b₀ :: suite) pos']) (SP X pins D) X.xe s₃) X.xe s₂) X.xe s₁) (fun u s' xx => ?_)).run [] s σ H D (I.toTry _) h) (fun f s1 hsp => ?_) (fun e s1 he => he)
  · -- the catch
    obtain ⟨a, B, sI, pins', σ', H', cls, d, rfl, J', nb, up, sky, na, os, ag, c, rfl, rfl, hx1, hx2, hyes⟩ := xx
    have J : L2.Inv X pins σ' H' sI := J'.ofTry ok
    have sky' : Sky B (X.env :: X.outer) a (Zc (.ref c) none) X.env.locals s'.heap := by rw [← hs]; exact sky
    show wpAny (model X.prog X.w) X.A (noteFrame (.ref a) X.env) _ _ _
    refine Sky.land Zc.steady hfr hf sky' fun h3 fl3 up3 => ?_
    have J3 : L2.Inv X pins σ' H' { s' with heap := h3 } := J.landed nb fl3.1 (up.trans up3) os ag
    obtain ⟨oe3, vs3, he3, hz3, hd3⟩ := fl3.there
    have notFr : ∀ {h : Heap} {o : Obj} {vs : Array Value}, h.FunFrames B (X.env :: X.outer) → h.get? a = some o → o.data = .fields vs → a ∉ frs (X.env :: X.outer) := fun {h o vs} ff e dd hm => by
      obtain ⟨_, o', e', hnf⟩ := ff.mem hm
      rw [e] at e'; cases e'
      exact hnf _ dd
    have nfr := notFr fl3.2.2.1 he3 hd3
    have nL : a ≠ X.env.locals := fun z => nfr (List.mem_filterMap.mpr ⟨X.env, List.mem_cons_self, by rw [hf, z]⟩)
    have nF : a ∉ X.fs := fun hm => by
      obtain ⟨e, he, q⟩ := List.mem_filterMap.mp hm
      exact nfr (List.mem_filterMap.mpr ⟨e, List.mem_cons_of_mem _ he, q⟩)
    have nI : sI.heap.get? a = none := by
      cases q : sI.heap.get? a with
      | none => rfl
      | some o =>
        have z := nb a o q (by rw [hs]; exact nfr)
        rw [fl3.2.1] at z; cases z
    have S3 := J3.suite he3 hd3 na nL nF
    refine wpAny_handleBy_cons (codeAny_handlers_test ?_) (by intro q; cases q)
    refine wpAny_Tuple_spliced ?_
    rw [back_names]
    refine names_run (X := X.suite a ((a, oe3) :: (X.pn ++ pins))) S3 (names_suite hc) ⟨hcl, ?_⟩
    have kp : ∀ b o, h3.get? b = some o → (h3.push { cls := .type "tuple", data := .seq cs.toArray }).get? b = some o := fun b o e => Heap.get?_push_of_some _ e
    have fl3' := flying_keeps fl3 kp
    have he3' := kp _ _ he3
    have LT : PySem.W.Looks (model X.prog X.w) (h3.push { cls := .type "tuple", data := .seq cs.toArray }) (typeOf (.ref a)) (.ref c) := fun A Q E s k q => wpAny_typeOf_ref (k _ _ he3') (by rw [hz3.1]; exact q)
    have LM := exm_list (M := model X.prog X.w) (J3.kIn.keeps kp) LT (Heap.get?_push_size _ rfl) hx1
    rw [hx2] at LM
    refine LM.here ?_
    refine codeAny_handlers_suite_as ?_
    refine HandSPX.lands_againZ fl3' fun h4 fl4 up4 => ?_
    obtain ⟨oe4, vs4, he4, hz4, hd4⟩ := fl4.there
    have upT : sI.heap.UpToSlots h4 := ((up.trans up3).trans (Heap.UpToSlots.of_keeps kp)).trans up4
    have J4 := Inv.landedT (s' := { s' with heap := h4 }) J nb fl4.1 upT os ag nI na he4 hz4 hd4
    have S4 := Inv.suiteT J4 a
    refine store_ok (X := X.suite a (X.pn ++ pins)) (v := .ref a) S4 hN hi hloc rfl (fun s5 S5 => ?_) (.inr hln)
    refine wpAny_mono ((hsu a c (X.pn ++ pins)).run [] s5 _ _ _ S5 (hyes a na)) (fun f s6 hsp => ?_) (fun _ _ z => False.elim z)
    have end_ : ∀ {σ6 : L2.St} {H6 : Hp} {Q : Shared → Prop}, L2.Inv (X.suite a (X.pn ++ pins)) [] σ6 H6 s6 → (∀ s7, L2.Inv X pins (σ6.set i none) H6 s7 → Q s7) →
        wpAny (model X.prog X.w) X.A (do bindName X.env n .none; unbindBehindTheSuite X.env n pos') (fun _ s7 => Q s7) X.xe s6 := fun {σ6 H6 Q} S6 hq => gone_ok (Inv.unsuiteT S6 ok) hN hi hln hq
    cases f with
    | next =>
      obtain ⟨σ6, H6, S6, q6⟩ := hsp
      exact end_ S6 fun s7 J7 => ⟨_, _, J7, q6⟩
    | brk =>
      obtain ⟨σ6, H6, S6, q6⟩ := hsp
      exact end_ S6 fun s7 J7 => ⟨_, _, J7, q6⟩
    | cont =>
      obtain ⟨σ6, H6, S6, q6⟩ := hsp
      exact end_ S6 fun s7 J7 => ⟨_, _, J7, q6⟩
    | ret u =>
      obtain ⟨v6, σ6, H6, S6, r6, q6⟩ := hsp
      exact end_ S6 fun s7 J7 => ⟨_, _, _, J7, r6, q6⟩
  · cases f with
    | next =>
      obtain ⟨σ', H', J', q⟩ := hsp
      exact wpAny_execs_nil ⟨σ', H', J'.ofTry ok, q⟩
    | brk =>
      obtain ⟨σ', H', J', q⟩ := hsp
      exact ⟨σ', H', J'.ofTry ok, q⟩
    | cont =>
      obtain ⟨σ', H', J', q⟩ := hsp
      exact ⟨σ', H', J'.ofTry ok, q⟩
    | ret u =>
      obtain ⟨v, σ', H', J', r, q⟩ := hsp
      exact ⟨v, σ', H', J'.ofTry ok, r, q⟩
end

/-! ### as data -/
/-- the tree of a caught exception -/
abbrev excD (nm : Str) : D := .obj false (.exc nm) []
/-- what an except clause and isinstance ask of two classes -/
structure FactD (K : PySem.W.Frag) (c d : Addr) (b : Bool) : Prop where
  s : PySem.W.subIn K (.ref c) (.ref d) = some b
  i : PySem.W.isClsIn K d = true
  t : PySem.W.typeIn K (.ref d) = some (.type "type")
  e : PySem.W.subIn K (.ref d) (.type "BaseException") = some true
theorem exmOne_of {K : PySem.W.Frag} {c d : Addr} {b : Bool} (f : FactD K c d b) : PySem.W.exmOne K (.ref c) (.ref d) = some b := by
  have e1 : (PySem.W.subIn K (.ref d) (.type "BaseException") == some true) = true := by rw [f.e] <;> rfl
  have e2 : ((PySem.W.clsIn K d).isSome && PySem.W.typeIn K (.ref d) == some (.type "type")) = true := by rw [show (PySem.W.clsIn K d).isSome = true from f.i, f.t] <;> rfl
  show (if (PySem.W.subIn K (.ref d) (.type "BaseException") == some true) = true then (if ((PySem.W.clsIn K d).isSome && PySem.W.typeIn K (.ref d) == some (.type "type")) = true then PySem.W.subIn K (.ref c) (.ref d) else none) else none) = some b
  rw [if_pos e1, if_pos e2]
  exact f.s
theorem kitOne_of {K : PySem.W.Frag} {c d : Addr} {b : Bool} (f : FactD K c d b) (g : PySem.W.subIn K (.ref c) (.ref c) = some true) : PySem.W.kitOne K (.ref c) (.ref d) = some b := by
  have e2 : ((PySem.W.clsIn K d).isSome && PySem.W.typeIn K (.ref d) == some (.type "type")) = true := by rw [show (PySem.W.clsIn K d).isSome = true from f.i, f.t] <;> rfl
  show (if (Value.ref c == Value.ref d) = true then some true else (if ((PySem.W.clsIn K d).isSome && PySem.W.typeIn K (.ref d) == some (.type "type")) = true then PySem.W.subIn K (.ref c) (.ref d) else none)) = some b
  by_cases z : (Value.ref c == Value.ref d) = true
  · rw [if_pos z]
    have e : c = d := Value.ref.inj (beq_iff_eq.mp z)
    subst e
    exact g.symm.trans f.s
  · rw [if_neg z, if_pos e2]
    exact f.s
/-- .. of a class and several -/
inductive FactL (K : PySem.W.Frag) (c : Addr) : List Addr → List Bool → Prop
  | nil : FactL K c [] []
  | cons {d ds b bs} : FactD K c d b → FactL K c ds bs → FactL K c (d :: ds) (b :: bs)
theorem FactL.exm {K : PySem.W.Frag} {c : Addr} {ds : List Addr} {bs : List Bool} (f : FactL K c ds bs) : (∀ v ∈ ds.map Value.ref, ∃ b, PySem.W.exmOne K (.ref c) v = some b) ∧ ((ds.map Value.ref).any fun v => PySem.W.exmOne K (.ref c) v == some true) = bs.any id := by
  induction f with
  | nil => exact ⟨(fun v hv => nomatch hv), rfl⟩
  | cons h _ ih =>
    refine ⟨fun v hv => ?_, ?_⟩
    · rcases List.mem_cons.mp hv with rfl | hv
      · exact ⟨_, exmOne_of h⟩
      · exact ih.1 v hv
    · rw [List.map_cons, List.any_cons, ih.2, exmOne_of h, List.any_cons]
      congr 1
      cases ‹Bool› <;> rfl
theorem FactL.kit {K : PySem.W.Frag} {c : Addr} {ds : List Addr} {bs : List Bool} (f : FactL K c ds bs) (g : PySem.W.subIn K (.ref c) (.ref c) = some true) : PySem.W.kitAny K (.ref c) (ds.map Value.ref) = some (bs.any id) := by
  induction f with
  | nil => rfl
  | @cons d ds b bs h _ ih =>
    rw [List.map_cons]
    unfold PySem.W.kitAny
    rw [kitOne_of h g]
    cases b with
    | true => rfl
    | false => exact ih
def MgAll (mg : Str → Option Value) : List Str → List Addr → Prop
  | [], [] => True
  | x :: xs, d :: ds => mg x = some (.ref d) ∧ MgAll mg xs ds
  | _, _ => False
def GlAll (X : Cx) : List Str → Prop
  | [] => True
  | x :: xs => (Gl X x ∧ (x == ("__debug__" : Str)) = false) ∧ GlAll X xs
theorem MgAll.len {mg : Str → Option Value} : ∀ {xs : List Str} {ds : List Addr}, MgAll mg xs ds → ds.length = xs.length
  | [], [], _ => rfl
  | _ :: _, _ :: _, ⟨_, h⟩ => by rw [List.length_cons, List.length_cons, MgAll.len h]
theorem names_of {X : Cx} : ∀ {xs : List (Str × Pos)} {ds : List Addr}, GlAll X (xs.map (·.1)) → MgAll X.mg (xs.map (·.1)) ds → NamesC X xs (ds.map Value.ref)
  | [], [], _, _ => trivial
  | _ :: _, _ :: _, ⟨g, gs⟩, ⟨m, ms⟩ => ⟨⟨g.1, g.2, m⟩, names_of gs ms⟩
def unName : Expr → Str × Pos
  | .Name x p => (x, p)
  | _ => (Str.empty, ⟨0, 0, 0, 0⟩)
/-- classes of these names stand there, and each of ns is told by them so -/
structure TupX (K : PySem.W.Frag) (mg : Str → Option Value) (names : List Str) (ns : List Str) (tbl : Str → Bool) : Prop where
  ex : ∃ ds, MgAll mg names ds ∧ ∀ nm ∈ ns, ∃ c bs, mg nm = some (.ref c) ∧ PySem.W.nsIn K PySem.mainGlobals nm = some (some (.ref c)) ∧ FactL K c ds bs ∧ bs.any id = tbl nm ∧ PySem.W.subIn K (.ref c) (.ref c) = some true ∧ ExcC K c
/-! ### try .. except (A, B, ..) as e -/
/-- the body runs, or it raises one of ns and the suite runs, the exception in slot i; behind the suite slot i is none -/
def sTryT (ns : List Str) (i : Nat) (wb : WS) (wr : WRS) (wh : WS) : WS := fun env RD => wb env RD ∨ wr env fun nm e1 => nm ∈ ns ∧ wh (e1.set i (some (excD nm))) { RD with nx := fun e2 => RD.nx (e2.set i none), bk := fun e2 => RD.bk (e2.set i none), ct := fun e2 => RD.ct (e2.set i none) }
section
variable {K : PySem.W.Frag} {F H : Hp} {B : Addr → Prop} {env : En} {σ : L2.St} {As : List (List Addr)}
theorem envR_unset : ∀ {env : En} {σ : L2.St} {As : List (List Addr)} {i : Nat}, EnvR K F H env σ As → EnvR K F H (env.set i none) (σ.set i none) (As.set i [])
  | _, _, _, i, .nil => by cases i <;> exact .nil
  | _, _, _, 0, .emp r => .emp r
  | _, _, _, 0, .val _ r => .emp r
  | _, _, _, i + 1, .emp r => .emp (envR_unset r)
  | _, _, _, i + 1, .val x r => .val x (envR_unset r)
theorem SO.unset (s : SO K F H B env σ As) {kp : List Nat} {i : Nat} (h : i ∉ kp) : PostS K kp F H B σ F H (env.set i none) (σ.set i none) (As.set i []) := by
  have s1 := s.drop i
  exact ⟨Same.refl _, ⟨s1.same, envR_unset s.env, s1.nd, s1.fr, s1.out⟩, fun _ _ => rfl, fun j hj => List.getElem?_set_ne (fun e : i = j => h (e ▸ hj)), List.length_set ..⟩
end
section
variable {X : Cx} {kp : List Nat} {n : Str} {i k : Nat} {body suite : List Stmt} {b₀ : Stmt} {np pos pos' : Pos} {es : List Expr} {names ns : List Str} {wb wh : WS} {wr : WRS}
theorem ds_tryT (hs : X.stack = X.env :: X.outer) (hf : X.env.frame = some X.env.locals) (hN : X.N.Nodup) (hi : X.N[i]? = some n) (hln : X.env.kindOf n = some .local) (hik : i ∉ kp)
    (hes : (es.map unName).map nameE = es) (hnm : (es.map unName).map (·.1) = names) (hg : GlAll X names) (t : TupX X.K X.mg names ns fun _ => true) (hsz : names.length ≤ 1000)
    (hb : ∀ (pn : List (Addr × Obj)) (xe : Value → Shared → Prop), DSs kp (X.tr pn xe) body wb)
    (hr : ∀ (W : WX) (pn : List (Addr × Obj)) (xe : Value → Shared → Prop), Takes (X.tr pn xe) W → RSs kp (X.tr pn xe) W body wr)
    (hsu : ∀ (a : Addr) (pn : List (Addr × Obj)), DSs kp (X.suite a pn) (b₀ :: suite) wh) :
    DS kp X (.Try body [.ExceptHandler (some (.Tuple es k np)) (some n) (b₀ :: suite) pos'] [] [] pos) (sTryT ns i wb wr wh) := by
  subst hnm
  obtain ⟨ds, hmg, ht⟩ := t.ex
  have hdl := hmg.len
  rw [← hes]
  refine ⟨PSimp (ps_try_tup (tb := fun W D σ H => liftS X.K kp wb D σ H ∨ liftR X.K X.mg kp W wr σ H) (ts := fun _ _ => liftS X.K kp wh) hs hf hN hi hln (names_of hg hmg) (by rw [List.length_map, hdl]; show _ ≤ 16777216; omega) (fun W pn xe tk => ⟨fun pins s σ H D I h => ?_⟩) (fun a c pn => (hsu a pn).ps)) ?_⟩
  · rcases h with h | h
    · exact (hb pn xe).ps.run pins s σ H D I h
    · exact (hr W pn xe tk).ps.run pins s σ H D I h
  · rintro D σ H ⟨F, B, env, As, RD, s, hw, k1, k2, k3, k4⟩
    rcases hw with hw | hw
    · exact .inl ⟨F, B, env, As, RD, s, hw, k1, k2, k3, k4⟩
    · refine .inr ⟨F, B, env, As, _, s, hw, fun nm c σ' H' F' As' env' po hm' h => ?_⟩
      obtain ⟨hn, h⟩ := h
      obtain ⟨c', bs, h1, h2, h3, h4, h5, h6⟩ := ht nm hn
      rw [h1] at hm'
      obtain rfl : c' = c := by injection hm' with z; injection z
      obtain ⟨x1, x2⟩ := h3.exm
      refine ⟨c', rfl, rfl, x1, by rw [x2]; exact h4, fun a na => ?_⟩
      have poN := po.so.newF (o := ExC c' a) na
      have to : TO X.K (upd F' a (ExC c' a)) (upd H' a (ExC c' a)) B As' (excD nm) (.ref a) [] :=
        ⟨.frz ⟨rfl, c', h2, upd_same⟩ .nil, by simpa using poN.so.nd, (fun _ z => nomatch z), (fun _ z => nomatch z)⟩
      have poA := po.trans (poN.ps.trans (poN.so.assignS to hik))
      refine ⟨_, B, _, _, _, poA.so, h, fun σ2 H2 F2 As2 e2 po2 q => ?_, fun σ2 H2 F2 As2 e2 po2 q => ?_, fun σ2 H2 F2 As2 e2 po2 q => ?_, fun v σ2 H2 F2 As2 a d e2 po2 => k4 v σ2 H2 F2 As2 a d e2 (poA.trans po2)⟩
      · exact k1 _ H2 F2 _ _ (poA.trans (po2.trans (po2.so.unset hik))) q
      · exact k2 _ H2 F2 _ _ (poA.trans (po2.trans (po2.so.unset hik))) q
      · exact k3 _ H2 F2 _ _ (poA.trans (po2.trans (po2.so.unset hik))) q
end

/-! ### isinstance of a caught exception -/
def rIsX (K : PySem.W.Frag) : List V → Hp → VK → Prop := fun xs H Q => ∃ (a D : Addr) (b : Bool), ExcC K D ∧ H a = some (ExC D a) ∧
  ((∃ c : Addr, xs = [.ref a, .ref c] ∧ PySem.W.kitOne K (.ref D) (.ref c) = some b) ∨ (∃ T : String, xs = [.ref a, .ty T] ∧ PySem.W.kitOne K (.ref D) (.type T) = some b) ∨
    ∃ (t : Addr) (cs : List Addr), xs = [.ref a, .ref t] ∧ H t = some (.tup (cs.map V.ref)) ∧ PySem.W.kitAny K (.ref D) (cs.map Value.ref) = some b) ∧ Q (.bl b) H
theorem vals_addrs : ∀ {cs : List Addr} {its : List Value}, Vals (cs.map V.ref) its → its = cs.map Value.ref
  | [], _, .nil => rfl
  | c :: cs, u :: us, .cons r rs => by
    have e : u = Value.ref c := r
    rw [e, vals_addrs rs]; rfl
theorem call_isX {X : Cx} : CallR X (.builtin "isinstance") (rIsX X.K) := by
  intro pins s σ H xs us Q I r h
  obtain ⟨a, D, b, C, ha, h, q⟩ := h
  obtain ⟨⟨oe, vs, hget, ⟨h1, h2⟩, hv⟩, _⟩ := I.hok a _ ha
  have J : PySem.W.InstAt s.heap a oe D none := by
    obtain ⟨oc, od, oda, osl⟩ := oe
    dsimp only at h1 h2 hv
    subst h1 h2 hv
    exact ⟨hget, rfl, rfl, trivial⟩
  have fin : ∀ tk, EP X pins σ Q (.bool b) { s with toks := tk } := fun tk => ⟨.bl b, H, I.kept (t' := tk) fun _ _ z => z, rfl, q⟩
  rcases h with ⟨c, rfl, e⟩ | ⟨T, rfl, e⟩ | ⟨t, cs, rfl, ht, e⟩
  · cases r with
    | cons rx rr =>
      cases rr with
      | cons rt rr =>
        cases rr
        cases rx
        cases rt
        exact PySem.W.kia_one (PySem.W.handS_kitx_exc C.hg C.hk C.hs C.hd C.ha C.hn C.ht C.hm) I.kIn J e (fun z => nomatch z) fin
  · cases r with
    | cons rx rr =>
      cases rr with
      | cons rt rr =>
        cases rr
        cases rx
        cases rt
        exact PySem.W.kia_one (PySem.W.handS_kitx_exc C.hg C.hk C.hs C.hd C.ha C.hn C.ht C.hm) I.kIn J e (fun z => nomatch z) fin
  · cases r with
    | cons rx rr =>
      cases rr with
      | cons rt rr =>
        cases rr
        cases rx
        cases rt
        obtain ⟨its, rv, p, _⟩ := I.tuple (.inl (.inl ht))
        have ei := vals_addrs rv
        subst ei
        obtain ⟨o, ho, hc, n, hd⟩ := p
        obtain ⟨oc, od, oda, osl⟩ := o
        dsimp only at hc hd
        subst hc hd
        exact PySem.W.kia_tup (PySem.W.handS_kitx_exc C.hg C.hk C.hs C.hd C.ha C.hn C.ht C.hm) I.kIn J ho e (fun z => nomatch z) fin
/-- whether the exception in slot i, one of ns, is of the class (or one of the classes) that tbl tells -/
def wIsE (i : Nat) (ns : List Str) (tbl : Str → Bool) : WE := fun env R => ∃ nm, env[i]? = some (some (excD nm)) ∧ nm ∈ ns ∧ R (.bl (tbl nm)) env
theorem exc_at {K : PySem.W.Frag} {F H : Hp} {B : Addr → Prop} {env : En} {σ : L2.St} {As : List (List Addr)} {i : Nat} {nm : Str} (s : SO K F H B env σ As) (h : env[i]? = some (some (excD nm))) :
    ∃ p c, σ[i]? = some (some (.ref p)) ∧ PySem.W.nsIn K PySem.mainGlobals nm = some (some (.ref c)) ∧ H p = some (ExC c p) := by
  obtain ⟨v, a, h1, h2, h3⟩ := s.env.get h
  cases h3 with
  | @frz sh p vs xs h r =>
    obtain ⟨_, c, hc, hF⟩ := h
    exact ⟨p, c, h1, hc, s.same _ _ hF⟩
section
variable {X : Cx} {pp : Bool} {ex : Expr} {i : Nat} {names ns : List Str} {tbl : Str → Bool} {y : Str} {p pos p2 : Pos} {k : Nat} {es : List Expr}
theorem pa_names : ∀ {xs : List (Str × Pos)} {ds : List Addr}, GlAll X (xs.map (·.1)) → MgAll X.mg (xs.map (·.1)) ds → PA X (xs.map nameE) (fun _ H Q => Q (ds.map V.ref) H)
  | [], [], _, _ => pa_nil
  | x :: xs, d :: ds, ⟨g, gs⟩, ⟨m, ms⟩ => PAimp (pa_cons (e := .Name x.1 x.2) (pe_glob (v := .ref d) g.1 m rfl g.2) (pa_names gs ms) rfl) fun σ H Q h => h
theorem nsIn_mg {K : PySem.W.Frag} {c d : Addr} {nm : Str} (h1 : PySem.W.nsIn K PySem.mainGlobals nm = some (some (.ref c))) (h2 : PySem.W.nsIn K PySem.mainGlobals nm = some (some (.ref d))) : c = d := by
  rw [h1] at h2
  injection h2 with z
  injection z with z
  injection z
/-- isinstance(x, (A, B, ..)) -/
theorem de_isT (hx : PE X ex (tVar i)) (hg0 : Gl X "isinstance") (hm0 : X.mg "isinstance" = none) (hes : (es.map unName).map nameE = es) (hnm : (es.map unName).map (·.1) = names) (hg : GlAll X names) (t : TupX X.K X.mg names ns tbl) (hsz : names.length ≤ 1000)
    (hs : starEach [ex, .Tuple es k p2] X.env = (false, eval ex X.env) :: starEach [.Tuple es k p2] X.env := by rfl) (hs2 : starEach [.Tuple es k p2] X.env = (false, eval (.Tuple es k p2) X.env) :: starEach [] X.env := by rfl)
    (hpl : (backTo pos (starEach [.Tuple es k p2] X.env)).any (·.1) = false := by rfl) :
    DE true X (.Call (.Name "isinstance" p) [ex, .Tuple es k p2] [] pos) (wIsE i ns tbl) := by
  subst hnm
  obtain ⟨ds, hmg, ht⟩ := t.ex
  have hdl := hmg.len
  have pt : PE X (.Tuple es k p2) (tTup fun _ H Q => Q (ds.map V.ref) H) := by
    rw [← hes]
    exact pe_tup (pa_names hg hmg)
  refine ⟨PEimp (pe_callB (x := "isinstance") (id := "isinstance") call_isX hg0 hm0 (by decide +kernel) (pa_cons hx (pa_cons pt pa_nil hs2) hs) (by decide) (by decide) hs hpl) ?_⟩
  rintro σ H Q ⟨F, B, env, As, R, s, ⟨nm, hi, hn, hw⟩, kk⟩
  obtain ⟨pa, c, hσ, hc, hH⟩ := exc_at s hi
  obtain ⟨c', bs, h1, h2, h3, h4, h5, h6⟩ := ht nm hn
  obtain rfl := nsIn_mg hc h2
  refine ⟨_, hσ, by rw [List.length_map, hdl]; show _ ≤ 16777216; omega, fun q hq => ?_⟩
  have poN := s.newF (o := .tup (ds.map V.ref)) hq
  have ne : pa ≠ q := fun z => by rw [z, hq] at hH; cases hH
  refine ⟨pa, c, bs.any id, h6, by rw [upd_ne ne]; exact hH, .inr (.inr ⟨q, ds, rfl, upd_same, h3.kit h5⟩), ?_⟩
  rw [h4]
  exact kk _ _ _ _ _ _ _ poN (.sc poN.so _) hw
/-- isinstance(x, A) -/
theorem de_isC (hx : PE X ex (tVar i)) (hg0 : Gl X "isinstance") (hm0 : X.mg "isinstance" = none) (hg : Gl X y) (t : TupX X.K X.mg [y] ns tbl)
    (hs : starEach [ex, .Name y p2] X.env = (false, eval ex X.env) :: starEach [.Name y p2] X.env := by rfl) (hpl : (backTo pos (starEach [.Name y p2] X.env)).any (·.1) = false := by rfl) (hd : (y == ("__debug__" : Str)) = false := by decide) :
    DE true X (.Call (.Name "isinstance" p) [ex, .Name y p2] [] pos) (wIsE i ns tbl) := by
  obtain ⟨ds, hmg, ht⟩ := t.ex
  match ds, hmg with
  | [d], ⟨hmd, _⟩ =>
    refine ⟨PEimp (pe_callB (x := "isinstance") (id := "isinstance") call_isX hg0 hm0 (by decide +kernel) (pa_cons hx (pa_cons (pe_glob (v := .ref d) hg hmd rfl hd) pa_nil rfl) hs) (by decide) (by decide) hs hpl) ?_⟩
    rintro σ H Q ⟨F, B, env, As, R, s, ⟨nm, hi, hn, hw⟩, kk⟩
    obtain ⟨pa, c, hσ, hc, hH⟩ := exc_at s hi
    obtain ⟨c', bs, h1, h2, h3, h4, h5, h6⟩ := ht nm hn
    obtain rfl := nsIn_mg hc h2
    match bs, h3 with
    | [b], .cons f .nil =>
      refine ⟨_, hσ, pa, c, b, h6, hH, .inl ⟨d, rfl, kitOne_of f h5⟩, ?_⟩
      have e : b = tbl nm := by rw [← h4]; simp
      rw [e]
      exact kk _ _ _ _ _ _ _ (.refl s) (.sc s _) hw
/-- a class of the text is of a built-in one -/
structure OfT (K : PySem.W.Frag) (ns : List Str) (T : String) (tbl : Str → Bool) : Prop where
  ex : ∀ nm ∈ ns, ∃ c, PySem.W.nsIn K PySem.mainGlobals nm = some (some (.ref c)) ∧ PySem.W.subIn K (.ref c) (.type T) = some (tbl nm) ∧ PySem.W.kitMeta T = true ∧ ExcC K c
/-- isinstance(x, ValueError) -/
theorem de_isB {T : String} (hx : PE X ex (tVar i)) (hg0 : Gl X "isinstance") (hm0 : X.mg "isinstance" = none) (hg : Gl X y) (hmy : X.mg y = none) (hv : bootBuiltins y = some (.type T)) (t : OfT X.K ns T tbl)
    (hs : starEach [ex, .Name y p2] X.env = (false, eval ex X.env) :: starEach [.Name y p2] X.env := by rfl) (hpl : (backTo pos (starEach [.Name y p2] X.env)).any (·.1) = false := by rfl) (hn' : y ≠ "__name__" := by decide) (hd : (y == ("__debug__" : Str)) = false := by decide) :
    DE true X (.Call (.Name "isinstance" p) [ex, .Name y p2] [] pos) (wIsE i ns tbl) := by
  have py : PE X (.Name y p2) (tC (.ty T)) := ⟨fun pins s σ H Q I h => ld_blt I hg hmy hv ⟨.ty T, H, I, rfl, h⟩ hn' hd⟩
  refine ⟨PEimp (pe_callB (x := "isinstance") (id := "isinstance") call_isX hg0 hm0 (by decide +kernel) (pa_cons hx (pa_cons py pa_nil rfl) hs) (by decide) (by decide) hs hpl) ?_⟩
  rintro σ H Q ⟨F, B, env, As, R, s, ⟨nm, hi, hn, hw⟩, kk⟩
  obtain ⟨pa, c, hσ, hc, hH⟩ := exc_at s hi
  obtain ⟨c', h2, h3, h4, h6⟩ := t.ex nm hn
  obtain rfl := nsIn_mg hc h2
  refine ⟨_, hσ, pa, c, tbl nm, h6, hH, .inr (.inl ⟨T, rfl, ?_⟩), kk _ _ _ _ _ _ _ (.refl s) (.sc s _) hw⟩
  show (if (Value.ref c == Value.type T) = true then some true else (if PySem.W.kitMeta T = true then PySem.W.subIn X.K (.ref c) (.type T) else none)) = _
  rw [if_neg (by intro z; cases beq_iff_eq.mp z), if_pos h4, h3]
end
end PL

/-! PL12: except A as e, the exception held on as data; isinstance of it and classes of which the last is a built-in one. -/
namespace PL
open PySem PySem.Spec PyProof.Rows L2
section
variable {X : Cx} {n x : Str} {cv : Value} {i k : Nat} {body suite : List Stmt} {b₀ : Stmt} {np pos pos' : Pos} {tb : WX → TS} {ts : Addr → Addr → TS}
theorem ps_try_name (hs : X.stack = X.env :: X.outer) (hf : X.env.frame = some X.env.locals) (hN : X.N.Nodup) (hi : X.N[i]? = some n) (hln : X.env.kindOf n = some .local) (hg : Gl X x) (hdb : (x == ("__debug__" : Str)) = false) (hm : X.mg x = some cv)
    (hb : ∀ (W : WX) (pn : List (Addr × Obj)) (xe : Value → Shared → Prop), Takes (X.tr pn xe) W → PSs (X.tr pn xe) body (tb W))
    (hsu : ∀ (a c : Addr) (pn : List (Addr × Obj)), PSs (X.suite a pn) (b₀ :: suite) (ts a c)) :
    PS X (.Try body [.ExceptHandler (some (.Name x np)) (some n) (b₀ :: suite) pos'] [] [] pos) (fun D σ H => tb (wExcT X.K [cv] i ts D) D σ H) := by
  refine ⟨fun pins s σ H D I h => ?_⟩
  have ok := I.ok
  have hfr : X.A.frames = some (X.env :: X.outer) := by rw [ok.frames, hs]
  have hloc : Loc X.env.scope n := .inl hln
  refine wpAny_Try_except ?_
  refine wpAny_mono ((hb (wExcT X.K [cv] i ts D) (X.pn ++ pins) (fun e s₁ => wpAny (model X.prog X.w) X.A (noteFrame e X.env) (fun _ s₂ => wpAny (model X.prog X.w) X.A (setFlight e none) (fun _ s₃ =>
    wpAny (model X.prog X.w) X.A (handleBy e X.env [.ExceptHandler (some (.Name x np)) (some n) (b₀ :: suite) pos']) (SP X pins D) X.xe s₃) X.xe s₂) X.xe s₁) (fun u s' xx => ?_)).run [] s σ H D (I.toTry _) h) (fun f s1 hsp => ?_) (fun e s1 he => he)
  · -- the catch
    obtain ⟨a, B, sI, pins', σ', H', cls, d, rfl, J', nb, up, sky, na, os, ag, c, rfl, rfl, hx1, hx2, hyes⟩ := xx
    have J : L2.Inv X pins σ' H' sI := J'.ofTry ok
    have sky' : Sky B (X.env :: X.outer) a (Zc (.ref c) none) X.env.locals s'.heap := by rw [← hs]; exact sky
    show wpAny (model X.prog X.w) X.A (noteFrame (.ref a) X.env) _ _ _
    refine Sky.land Zc.steady hfr hf sky' fun h3 fl3 up3 => ?_
    have J3 : L2.Inv X pins σ' H' { s' with heap := h3 } := J.landed nb fl3.1 (up.trans up3) os ag
    obtain ⟨oe3, vs3, he3, hz3, hd3⟩ := fl3.there
    have notFr : ∀ {h : Heap} {o : Obj} {vs : Array Value}, h.FunFrames B (X.env :: X.outer) → h.get? a = some o → o.data = .fields vs → a ∉ frs (X.env :: X.outer) := fun {h o vs} ff e dd hm => by
      obtain ⟨_, o', e', hnf⟩ := ff.mem hm
      rw [e] at e'; cases e'
      exact hnf _ dd
    have nfr := notFr fl3.2.2.1 he3 hd3
    have nL : a ≠ X.env.locals := fun z => nfr (List.mem_filterMap.mpr ⟨X.env, List.mem_cons_self, by rw [hf, z]⟩)
    have nF : a ∉ X.fs := fun hm => by
      obtain ⟨e, he, q⟩ := List.mem_filterMap.mp hm
      exact nfr (List.mem_filterMap.mpr ⟨e, List.mem_cons_of_mem _ he, q⟩)
    have nI : sI.heap.get? a = none := by
      cases q : sI.heap.get? a with
      | none => rfl
      | some o =>
        have z := nb a o q (by rw [hs]; exact nfr)
        rw [fl3.2.1] at z; cases z
    have S3 := J3.suite he3 hd3 na nL nF
    refine wpAny_handleBy_cons (codeAny_handlers_test ?_) (by intro q; cases q)
    have LT : PySem.W.Looks (model X.prog X.w) h3 (typeOf (.ref a)) (.ref c) := fun A Q E s k q => wpAny_typeOf_ref (k _ _ he3) (by rw [hz3.1]; exact q)
    obtain ⟨b, hb1⟩ := hx1 cv (List.mem_cons_self ..)
    have hbt : b = true := by
      rw [List.any_cons, hb1] at hx2
      cases b with
      | true => rfl
      | false => simp at hx2
    subst hbt
    have LM := PySem.W.exm_one (M := model X.prog X.w) (J3.kIn) LT hb1
    refine ld_glob (X := X.suite a ((a, oe3) :: (X.pn ++ pins))) S3 hg hm ?_ hdb
    refine LM.here ?_
    refine codeAny_handlers_suite_as ?_
    refine HandSPX.lands_againZ fl3 fun h4 fl4 up4 => ?_
    obtain ⟨oe4, vs4, he4, hz4, hd4⟩ := fl4.there
    have upT : sI.heap.UpToSlots h4 := (up.trans up3).trans up4
    have J4 := Inv.landedT (s' := { s' with heap := h4 }) J nb fl4.1 upT os ag nI na he4 hz4 hd4
    have S4 := Inv.suiteT J4 a
    refine store_ok (X := X.suite a (X.pn ++ pins)) (v := .ref a) S4 hN hi hloc rfl (fun s5 S5 => ?_) (.inr hln)
    refine wpAny_mono ((hsu a c (X.pn ++ pins)).run [] s5 _ _ _ S5 (hyes a na)) (fun f s6 hsp => ?_) (fun _ _ z => False.elim z)
    have end_ : ∀ {σ6 : L2.St} {H6 : Hp} {Q : Shared → Prop}, L2.Inv (X.suite a (X.pn ++ pins)) [] σ6 H6 s6 → (∀ s7, L2.Inv X pins (σ6.set i none) H6 s7 → Q s7) →
        wpAny (model X.prog X.w) X.A (do bindName X.env n .none; unbindBehindTheSuite X.env n pos') (fun _ s7 => Q s7) X.xe s6 := fun {σ6 H6 Q} S6 hq => gone_ok (Inv.unsuiteT S6 ok) hN hi hln hq
    cases f with
    | next =>
      obtain ⟨σ6, H6, S6, q6⟩ := hsp
      exact end_ S6 fun s7 J7 => ⟨_, _, J7, q6⟩
    | brk =>
      obtain ⟨σ6, H6, S6, q6⟩ := hsp
      exact end_ S6 fun s7 J7 => ⟨_, _, J7, q6⟩
    | cont =>
      obtain ⟨σ6, H6, S6, q6⟩ := hsp
      exact end_ S6 fun s7 J7 => ⟨_, _, J7, q6⟩
    | ret u =>
      obtain ⟨v6, σ6, H6, S6, r6, q6⟩ := hsp
      exact end_ S6 fun s7 J7 => ⟨_, _, _, J7, r6, q6⟩
  · cases f with
    | next =>
      obtain ⟨σ', H', J', q⟩ := hsp
      exact wpAny_execs_nil ⟨σ', H', J'.ofTry ok, q⟩
    | brk =>
      obtain ⟨σ', H', J', q⟩ := hsp
      exact ⟨σ', H', J'.ofTry ok, q⟩
    | cont =>
      obtain ⟨σ', H', J', q⟩ := hsp
      exact ⟨σ', H', J'.ofTry ok, q⟩
    | ret u =>
      obtain ⟨v, σ', H', J', r, q⟩ := hsp
      exact ⟨v, σ', H', J'.ofTry ok, r, q⟩
end
section
variable {X : Cx} {kp : List Nat} {n x : Str} {i k : Nat} {body suite : List Stmt} {b₀ : Stmt} {np pos pos' : Pos} {ns : List Str} {wb wh : WS} {wr : WRS}
theorem ds_tryN (hs : X.stack = X.env :: X.outer) (hf : X.env.frame = some X.env.locals) (hN : X.N.Nodup) (hi : X.N[i]? = some n) (hln : X.env.kindOf n = some .local) (hik : i ∉ kp)
    (hg : Gl X x) (hdb : (x == ("__debug__" : Str)) = false) (t : TupX X.K X.mg [x] ns fun _ => true)
    (hb : ∀ (pn : List (Addr × Obj)) (xe : Value → Shared → Prop), DSs kp (X.tr pn xe) body wb)
    (hr : ∀ (W : WX) (pn : List (Addr × Obj)) (xe : Value → Shared → Prop), Takes (X.tr pn xe) W → RSs kp (X.tr pn xe) W body wr)
    (hsu : ∀ (a : Addr) (pn : List (Addr × Obj)), DSs kp (X.suite a pn) (b₀ :: suite) wh) :
    DS kp X (.Try body [.ExceptHandler (some (.Name x np)) (some n) (b₀ :: suite) pos'] [] [] pos) (sTryT ns i wb wr wh) := by
  obtain ⟨ds, hmg, ht⟩ := t.ex
  match ds, hmg with
  | [d0], ⟨hmd, _⟩ =>
  refine ⟨PSimp (ps_try_name (cv := .ref d0) (tb := fun W D σ H => liftS X.K kp wb D σ H ∨ liftR X.K X.mg kp W wr σ H) (ts := fun _ _ => liftS X.K kp wh) hs hf hN hi hln hg hdb hmd (fun W pn xe tk => ⟨fun pins s σ H D I h => ?_⟩) (fun a c pn => (hsu a pn).ps)) ?_⟩
  · rcases h with h | h
    · exact (hb pn xe).ps.run pins s σ H D I h
    · exact (hr W pn xe tk).ps.run pins s σ H D I h
  · rintro D σ H ⟨F, B, env, As, RD, s, hw, k1, k2, k3, k4⟩
    rcases hw with hw | hw
    · exact .inl ⟨F, B, env, As, RD, s, hw, k1, k2, k3, k4⟩
    · refine .inr ⟨F, B, env, As, _, s, hw, fun nm c σ' H' F' As' env' po hm' h => ?_⟩
      obtain ⟨hn, h⟩ := h
      obtain ⟨c', bs, h1, h2, h3, h4, h5, h6⟩ := ht nm hn
      rw [h1] at hm'
      obtain rfl : c' = c := by injection hm' with z; injection z
      obtain ⟨x1, x2⟩ := h3.exm
      refine ⟨c', rfl, rfl, x1, by rw [show ([Value.ref d0]) = [d0].map Value.ref from rfl, x2]; exact h4, fun a na => ?_⟩
      have poN := po.so.newF (o := ExC c' a) na
      have to : TO X.K (upd F' a (ExC c' a)) (upd H' a (ExC c' a)) B As' (excD nm) (.ref a) [] :=
        ⟨.frz ⟨rfl, c', h2, upd_same⟩ .nil, by simpa using poN.so.nd, (fun _ z => nomatch z), (fun _ z => nomatch z)⟩
      have poA := po.trans (poN.ps.trans (poN.so.assignS to hik))
      refine ⟨_, B, _, _, _, poA.so, h, fun σ2 H2 F2 As2 e2 po2 q => ?_, fun σ2 H2 F2 As2 e2 po2 q => ?_, fun σ2 H2 F2 As2 e2 po2 q => ?_, fun v σ2 H2 F2 As2 a d e2 po2 => k4 v σ2 H2 F2 As2 a d e2 (poA.trans po2)⟩
      · exact k1 _ H2 F2 _ _ (poA.trans (po2.trans (po2.so.unset hik))) q
      · exact k2 _ H2 F2 _ _ (poA.trans (po2.trans (po2.so.unset hik))) q
      · exact k3 _ H2 F2 _ _ (poA.trans (po2.trans (po2.so.unset hik))) q
end
/-! ### isinstance(e, (A, .., LookupError)) -/
theorem vals_addrsT {T : String} : ∀ {cs : List Addr} {its : List Value}, Vals (cs.map V.ref ++ [V.ty T]) its → its = cs.map Value.ref ++ [Value.type T]
  | [], u :: us, .cons r rs => by
    have e : u = Value.type T := r
    cases rs
    rw [e]; rfl
  | c :: cs, u :: us, .cons r rs => by
    have e : u = Value.ref c := r
    rw [e, vals_addrsT rs]; rfl
def rIsM (K : PySem.W.Frag) : List V → Hp → VK → Prop := fun xs H Q => ∃ (a D : Addr) (b : Bool) (t : Addr) (cs : List Addr) (T : String), ExcC K D ∧ H a = some (ExC D a) ∧
  xs = [.ref a, .ref t] ∧ H t = some (.tup (cs.map V.ref ++ [V.ty T])) ∧ PySem.W.kitAny K (.ref D) (cs.map Value.ref ++ [Value.type T]) = some b ∧ Q (.bl b) H
theorem call_isM {X : Cx} : CallR X (.builtin "isinstance") (rIsM X.K) := by
  intro pins s σ H xs us Q I r h
  obtain ⟨a, D, b, t, cs, T, C, ha, rfl, ht, e, q⟩ := h
  obtain ⟨⟨oe, vs, hget, ⟨h1, h2⟩, hv⟩, _⟩ := I.hok a _ ha
  have J : PySem.W.InstAt s.heap a oe D none := by
    obtain ⟨oc, od, oda, osl⟩ := oe
    dsimp only at h1 h2 hv
    subst h1 h2 hv
    exact ⟨hget, rfl, rfl, trivial⟩
  have fin : ∀ tk, EP X pins σ Q (.bool b) { s with toks := tk } := fun tk => ⟨.bl b, H, I.kept (t' := tk) fun _ _ z => z, rfl, q⟩
  cases r with
  | cons rx rr =>
    cases rr with
    | cons rt rr =>
      cases rr
      cases rx
      cases rt
      obtain ⟨its, rv, p, _⟩ := I.tuple (.inl (.inl ht))
      have ei := vals_addrsT rv
      subst ei
      obtain ⟨o, ho, hc, n, hd⟩ := p
      obtain ⟨oc, od, oda, osl⟩ := o
      dsimp only at hc hd
      subst hc hd
      exact PySem.W.kia_tup (PySem.W.handS_kitx_exc C.hg C.hk C.hs C.hd C.ha C.hn C.ht C.hm) I.kIn J ho e (fun z => nomatch z) fin
theorem FactL.kitT {K : PySem.W.Frag} {c : Addr} {ds : List Addr} {bs : List Bool} {T : String} {b : Bool} (f : FactL K c ds bs) (g : PySem.W.subIn K (.ref c) (.ref c) = some true) (hT : PySem.W.kitOne K (.ref c) (.type T) = some b) : PySem.W.kitAny K (.ref c) (ds.map Value.ref ++ [Value.type T]) = some (bs.any id || b) := by
  induction f with
  | nil =>
    show PySem.W.kitAny K (.ref c) [Value.type T] = _
    unfold PySem.W.kitAny
    rw [hT]
    cases b <;> rfl
  | @cons d ds b0 bs h _ ih =>
    rw [List.map_cons, List.cons_append]
    unfold PySem.W.kitAny
    rw [kitOne_of h g]
    cases b0 with
    | true => rfl
    | false => exact ih
section
variable {X : Cx} {pp : Bool} {ex : Expr} {i : Nat} {names ns : List Str} {tbl tblB : Str → Bool} {y : Str} {T : String} {p pos p2 p3 : Pos} {k : Nat} {es : List Expr}
theorem pa_namesT (hgy : Gl X y) (hmy : X.mg y = none) (hv : bootBuiltins y = some (.type T)) (hn' : y ≠ "__name__") (hd : (y == ("__debug__" : Str)) = false) : ∀ {xs : List (Str × Pos)} {ds : List Addr}, GlAll X (xs.map (·.1)) → MgAll X.mg (xs.map (·.1)) ds → PA X (xs.map nameE ++ [.Name y p3]) (fun _ H Q => Q (ds.map V.ref ++ [V.ty T]) H)
  | [], [], _, _ => PAimp (pa_cons (e := .Name y p3) (⟨fun pins s σ H Q I h => ld_blt I hgy hmy hv ⟨.ty T, H, I, rfl, h⟩ hn' hd⟩ : PE X (.Name y p3) (tC (.ty T))) pa_nil rfl) fun σ H Q h => h
  | x :: xs, d :: ds, ⟨g, gs⟩, ⟨m, ms⟩ => PAimp (pa_cons (e := .Name x.1 x.2) (pe_glob (v := .ref d) g.1 m rfl g.2) (pa_namesT hgy hmy hv hn' hd gs ms) rfl) fun σ H Q h => h
/-- isinstance(x, (A, B, .., LookupError)) -/
theorem de_isM (hx : PE X ex (tVar i)) (hg0 : Gl X "isinstance") (hm0 : X.mg "isinstance" = none) (hgy : Gl X y) (hmy : X.mg y = none) (hv : bootBuiltins y = some (.type T)) (hes : (es.map unName).map nameE = es) (hnm : (es.map unName).map (·.1) = names) (hg : GlAll X names) (t : TupX X.K X.mg names ns tbl) (tB : OfT X.K ns T tblB) (hsz : names.length ≤ 1000)
    (hs : starEach [ex, .Tuple (es ++ [.Name y p3]) k p2] X.env = (false, eval ex X.env) :: starEach [.Tuple (es ++ [.Name y p3]) k p2] X.env := by rfl) (hs2 : starEach [.Tuple (es ++ [.Name y p3]) k p2] X.env = (false, eval (.Tuple (es ++ [.Name y p3]) k p2) X.env) :: starEach [] X.env := by rfl)
    (hpl : (backTo pos (starEach [.Tuple (es ++ [.Name y p3]) k p2] X.env)).any (·.1) = false := by rfl) (hn' : y ≠ "__name__" := by decide) (hd : (y == ("__debug__" : Str)) = false := by decide) :
    DE true X (.Call (.Name "isinstance" p) [ex, .Tuple (es ++ [.Name y p3]) k p2] [] pos) (wIsE i ns fun nm => tbl nm || tblB nm) := by
  subst hnm
  obtain ⟨ds, hmg, ht⟩ := t.ex
  have hdl := hmg.len
  have pt : PE X (.Tuple (es ++ [.Name y p3]) k p2) (tTup fun _ H Q => Q (ds.map V.ref ++ [V.ty T]) H) := by
    rw [← hes]
    exact pe_tup (pa_namesT hgy hmy hv hn' hd hg hmg)
  refine ⟨PEimp (pe_callB (x := "isinstance") (id := "isinstance") call_isM hg0 hm0 (by decide +kernel) (pa_cons hx (pa_cons pt pa_nil hs2) hs) (by decide) (by decide) hs hpl) ?_⟩
  rintro σ H Q ⟨F, B, env, As, R, s, ⟨nm, hi, hn, hw⟩, kk⟩
  obtain ⟨pa, c, hσ, hc, hH⟩ := exc_at s hi
  obtain ⟨c', bs, h1, h2, h3, h4, h5, h6⟩ := ht nm hn
  obtain ⟨c2, g2, g3, g4, _⟩ := tB.ex nm hn
  obtain rfl := nsIn_mg hc h2
  obtain rfl := nsIn_mg hc g2
  have hT : PySem.W.kitOne X.K (.ref c) (.type T) = some (tblB nm) := by
    show (if (Value.ref c == Value.type T) = true then some true else (if PySem.W.kitMeta T = true then PySem.W.subIn X.K (.ref c) (.type T) else none)) = _
    rw [if_neg (by intro z; cases beq_iff_eq.mp z), if_pos g4, g3]
  refine ⟨_, hσ, by rw [List.length_append, List.length_map, hdl, List.length_singleton]; show _ ≤ 16777216; omega, fun q hq => ?_⟩
  have poN := s.newF (o := .tup (ds.map V.ref ++ [V.ty T])) hq
  have ne : pa ≠ q := fun z => by rw [z, hq] at hH; cases hH
  refine ⟨pa, c, bs.any id || tblB nm, q, ds, T, h6, by rw [upd_ne ne]; exact hH, rfl, upd_same, h3.kitT h5 hT, ?_⟩
  rw [h4]
  exact kk _ _ _ _ _ _ _ poN (.sc poN.so _) hw
end
end PL

/-! PL13: texts as data: split, join, f-strings, signs, int and str, one behind the other; a, *rest = a list. -/
namespace PL
open PySem PySem.Spec PyProof.Rows L2
/-! ### a, *rest = list -/
section
variable {prog : Program} {w : World} {A : Around} {E : Value → Shared → Prop} {s : Shared}
/-- what is left of a walk from a place on -/
theorem WalksS.from {I : Addr} {fp wr : List Addr} {G : Array GenState → Array GenState → Prop} {n m : Nat} {P : Nat → Value → Prop} {St : Nat → Shared → Prop} (W : WalksS prog w A I fp wr G n P St) (k : Nat) (hm : k + m = n) :
    WalksS prog w A I fp wr G m (fun i v => P (k + i) v) (fun i s => St (k + i) s) where
  sub := W.sub
  grefl := W.grefl
  gtrans := W.gtrans
  frame := fun i s h' tk st a b => W.frame (k + i) s h' tk st a b
  item := fun i s Q E hi st hQ => W.item (k + i) s Q E (by omega) st hQ
  done := fun s Q E st hQ => W.done s Q E (hm ▸ st) hQ
  self := fun i s Q E st hQ => W.self (k + i) s Q E st hQ
theorem unpack_star {l : Addr} {items : Array Value} {Q : List Value → Shared → Prop} (hh : A.handled = none) (hl : s.heap.IsList l items) (hz : items.size ≤ sizeLine) (h1 : 1 ≤ items.size)
    (hQ : ∀ (s' : Shared), (∀ b u, s.heap.get? b = some u → s'.heap.get? b = some u) → s'.os = s.os → s'.drawn = s.drawn → s'.gens = s.gens →
      Q (items[0]'(by omega) :: [.ref s'.heap.objs.size]) { s' with heap := s'.heap.push { cls := .type "list", data := .seq (items.toList.drop 1).toArray } }) : wpAny (model prog w) A (unpackItems (.ref l) 2 (some 1)) Q E s := by
  have hlt : l ≠ s.heap.objs.size := by obtain ⟨o, ho, _⟩ := hl; exact Nat.ne_of_lt (Heap.lt_size ho)
  unfold unpackItems
  refine wpAny_bind ?_
  unfold notIterableAtAll
  refine wpAny_bind (wpAny_specialOf hl.typeIs slot_list_iter.lookup ?_)
  refine wpAny_pure ?_
  simp only [Bool.false_eq_true, if_false]
  refine wpAny_bind (wpAny_holding (wpAny_pyIter_list hl ?_))
  refine wpAny_bind (wpAny_holding (PySem.W.kun_draw hlt 1 0 _ _ ⟨_, Heap.get?_push_size _ rfl, rfl, rfl⟩ (hl.push _) (by omega) fun h₁ hit₁ hs₁ => ?_))
  have hone : (List.take 1 (List.drop 0 items.toList)).length = 1 := by rw [List.drop_zero, List.length_take, Array.length_toList]; omega
  rw [if_neg (by omega)]
  have W := WalksS.from ((Walks.list (prog := prog) (w := w) (A := A.in1) hh s.heap.objs.size l hlt items).toS) 1 (m := items.size - 1) (by omega)
  refine wpAny_bind (wpAny_holding (wpAny_collect_iter (T := "list_iterator") (.inr (.inr (.inl rfl))) W (fun i s st => st.1.typeIs) ⟨hit₁, (hl.push _).extBut hs₁.extBut hlt⟩ ?_ (by simp) (fun s' acc mv ia => ?_) (by omega)))
  · intro b hb
    rcases List.mem_cons.mp hb with rfl | hb
    · obtain ⟨_, e, _⟩ := hit₁
      exact Heap.lt_size e
    · rw [List.mem_singleton.mp hb]
      obtain ⟨o, e, _⟩ := (hl.push _).extBut hs₁.extBut hlt
      exact Heap.lt_size e
  · have hrest : acc.toList = items.toList.drop 1 := by
      refine List.ext_getElem? fun j => ?_
      rw [List.getElem?_drop, Array.getElem?_toList, Array.getElem?_toList]
      by_cases hj : j < acc.size
      · have := ia.2 j acc[j] (Array.getElem?_eq_getElem hj)
        rw [Array.getElem?_eq_getElem hj]; exact this.symm
      · rw [Array.getElem?_eq_none (by omega), Array.getElem?_eq_none (by have := ia.1; omega)]
    rw [if_neg (by simp)]
    have htake : List.take (acc.toList.length - (2 - 1 - 1)) acc.toList = acc.toList := List.take_of_length_le (by omega)
    have hdrop : List.drop (acc.toList.length - (2 - 1 - 1)) acc.toList = [] := List.drop_eq_nil_of_le (by omega)
    rw [htake, hdrop]
    have hsz : acc.toList.length ≤ sizeLine := by rw [Array.length_toList, ia.1]; omega
    refine wpAny_bind (wpAny_newList ?_ hsz)
    refine wpAny_pure ?_
    have keep : ∀ b u, s.heap.get? b = some u → s'.heap.get? b = some u := fun b u e => by
      have hb : b ≠ s.heap.objs.size := Nat.ne_of_lt (Heap.lt_size e)
      exact mv.heap b u (by simpa using hb) (hs₁.extBut b u hb (Heap.get?_push_of_some _ e))
    have hfirst : List.take 1 (List.drop 0 items.toList) = [items[0]'(by omega)] := by
      rw [List.drop_zero]
      refine List.ext_getElem? fun j => ?_
      cases j with
      | zero => simp
      | succ j => simp; omega
    rw [hfirst]
    rw [hrest]
    exact hQ s' keep mv.os mv.drawn mv.gens
end
/-! ### the target a, *b -/
section
variable {X : Cx} {pos : Pos} {kp : List Nat} {e : Expr}
def gStar (K : PySem.W.Frag) (t : TGs) : TG := fun v σ H Q => ∃ a x xs, v = .ref a ∧ SqL K H a (x :: xs) ∧ ∀ q, H q = none → t [x, .ref q] σ (upd H q (.lst xs)) Q
theorem vals_cons {x : V} {xs : List V} {its : List Value} (r : Vals (x :: xs) its) : ∃ u us, its = u :: us ∧ RelV x u ∧ Vals xs us := by
  cases r with
  | cons r1 r2 => exact ⟨_, _, rfl, r1, r2⟩
theorem pg_star {a b : Expr} {p2 : Pos} {k : Nat} {t : TGs} (hc : X.calm = true) (h : PGs X [a, b] t)
    (h1 : assignEach [a, .Starred b p2] X.env = [(false, assign a X.env), (true, assign b X.env)] := by rfl) (h2 : (assignEach [a, b] X.env).map (·.2) = [assign a X.env, assign b X.env] := by rfl) : PG X (.Tuple [a, .Starred b p2] k pos) (gStar X.K t) := by
  refine ⟨fun pins s σ H v u Q I r hw => ?_⟩
  obtain ⟨l, x, xs, e1, hq, hw⟩ := hw
  subst e1
  cases r
  obtain ⟨its, rv, pl, hz⟩ := I.list hq
  obtain ⟨u, us, rfl, rx, rxs⟩ := vals_cons rv
  have hl := rxs.length
  rw [PyProof.Rows.assign_Tuple]
  refine wpAny_bind (wpAny_standAt ?_)
  unfold unpack
  rw [h1]
  refine wpAny_bind (wpAny_holding (unpack_star (I.ok.hd hc) pl.isList (by simpa using by simpa [← hl] using hz) (by simp) fun s' keep e1 e2 e3 => ?_))
  have I1 : Inv X pins σ H { s with heap := s'.heap, toks := s'.toks } := I.kept (t' := s'.toks) keep
  have es : ({ s with heap := s'.heap, toks := s'.toks } : Shared) = s' := by cases s; cases s'; simp_all
  rw [es] at I1
  have hp := I1.hok.fresh (Nat.le_refl _)
  have I2 := I1.laid (t' := s'.toks) (a := s'.heap.objs.size) (o := .lst xs) (h' := s'.heap.push { cls := .type "list", data := .seq us.toArray }) (fun b u q => Heap.get?_push_of_some _ q) (Nat.le_refl _)
    ⟨by simp only [List.length_cons] at hz; omega, us, _, rxs, Heap.get?_push_size _ rfl⟩
  have := h.run pins _ σ _ [x, .ref s'.heap.objs.size] [u, .ref s'.heap.objs.size] Q I2 (.cons rx (.cons rfl .nil)) (hw _ hp)
  rw [h2] at this
  exact this
/-- a, *b = a list of plain values -/
def gStD (gs : WGs) : WG := fun d env R => ∃ (o : Bool) (sh : Sh) (x : V) (ws : List V), d = .obj o sh (.sc x :: ws.map D.sc) ∧ isSeq sh = true ∧ gs [.sc x, .lst true (ws.map D.sc)] env R
theorem dg_star {a b : Expr} {p2 : Pos} {k : Nat} {gs : WGs} (hc : X.calm = true) (h : DGs kp X [a, b] gs)
    (h1 : assignEach [a, .Starred b p2] X.env = [(false, assign a X.env), (true, assign b X.env)] := by rfl) (h2 : (assignEach [a, b] X.env).map (·.2) = [assign a X.env, assign b X.env] := by rfl) : DG kp X (.Tuple [a, .Starred b p2] k pos) (gStD gs) := by
  refine ⟨PGimp (pg_star hc h.pg h1 h2) ?_⟩
  rintro v σ H Q ⟨F, B, env, As, d, a, R, s, t, ⟨o, sh, x, ws, rfl, hs, hw⟩, k⟩
  obtain ⟨p, vs, a', rfl, hq, r1⟩ := t.rep.seq_inv hs s.same
  obtain ⟨rfl, _⟩ := RepL.sc_inv (ws := x :: ws) r1
  refine ⟨p, x, ws, rfl, hq, fun q hn => ?_⟩
  have po := s.newO (o := .lst ws) hn
  refine ⟨F, B, env, As, _, [q], R, po.so, ⟨.cons (A := []) (B := [q]) .sc (.cons (A := [q]) (B := []) (.own (show CellO (upd H q (.lst ws)) .lst q ws from upd_same) (RepL.sc_of ws)) .nil), ?_, ?_, ?_⟩, hw, fun σ' H' F' As' env' ps hR => k σ' H' F' As' env' (po.ps.trans ps) hR⟩
  · exact List.nodup_cons.mpr ⟨s.notAs hn, s.nd⟩
  · intro y hy; rw [List.mem_singleton.mp hy]; exact s.freeF hn
  · intro y hy; rw [List.mem_singleton.mp hy]; exact s.notB hn
end
/-! ### texts -/
section
variable {X : Cx} {p : Bool} {pos : Pos} {e e2 : Expr} {we we2 : WE}
/-- the plain texts of a list -/
def strD : D → (Str → Prop) → Prop
  | .sc (.str y), R => R y
  | _, _ => False
theorem strD_inv {d : D} {R : Str → Prop} (h : strD d R) : ∃ y, d = .str y ∧ R y := by
  unfold strD at h
  split at h
  · exact ⟨_, rfl, h⟩
  · exact h.elim
/-- x.split(y) -/
def wSplit (we we2 : WE) : WE := fun env R => we env fun d e1 => strD d fun x => we2 e1 fun d2 e2 => strD d2 fun y => (y.length == 0) = false ∧ x.length + 2 ≤ sizeLine ∧ R (.lst true ((Txt.split x y).map D.str)) e2
theorem de_split {apos : Pos} (h : DE p X e we) (h2 : DE p X e2 we2) (hs : starEach [e2] X.env = [(false, eval e2 X.env)] := by rfl) (hbase : attributeBase e "split" X.env (eval e X.env) = eval e X.env := by rfl) (hline : (apos.endLine == pos.line) = true := by rfl) :
    DE p X (.Call (.Attribute e "split" apos) [e2] [] pos) (wSplit we we2) := by
  refine ⟨PEimp (pe_split h.pe h2.pe hs hbase hline) ?_⟩
  rintro σ H Q ⟨F, B, env, As, R, s, hw, k⟩
  refine ⟨F, B, env, As, _, s, hw, fun v H1 F1 As1 a d e1 po1 t1 h1 => ?_⟩
  obtain ⟨x, rfl, h1⟩ := strD_inv h1
  obtain ⟨rfl, _⟩ := t1.rep.sc_inv
  refine ⟨⟨x, rfl⟩, F1, B, e1, As1, _, po1.so, h1, fun v2 H2 F2 As2 a2 d2 e2 po2 t2 h2 => ?_⟩
  obtain ⟨y, rfl, hy, hx, h2⟩ := strD_inv h2
  obtain ⟨rfl, _⟩ := t2.rep.sc_inv
  refine ⟨x, y, rfl, rfl, hy, hx, ?_⟩
  have e : (Txt.split x y).map D.str = ((Txt.split x y).map V.str).map D.sc := by rw [List.map_map]; rfl
  exact out_lst (R := fun z => R z e2) po2.so (e ▸ RepL.sc_of _) h2 fun v' H3 F3 c z po3 t3 h3 => k v' H3 F3 As2 c z e2 ((po1.trans po2).trans (po3.imp fun _ => rfl)) t3 h3
/-- x.join(a list of texts) -/
def wJoin (we we2 : WE) : WE := fun env R => we env fun d e1 => strD d fun x => we2 e1 fun d2 e2 => ∃ (o : Bool) (sh : Sh) (ys : List Str), d2 = .obj o sh (ys.map D.str) ∧ isSeq sh = true ∧ (ys.map (·.length)).sum + ys.length * x.length ≤ 16777216 ∧ R (.str (Txt.join x ys)) e2
theorem de_join {apos : Pos} (h : DE p X e we) (h2 : DE p X e2 we2) (hs : starEach [e2] X.env = [(false, eval e2 X.env)] := by rfl) (hbase : attributeBase e "join" X.env (eval e X.env) = eval e X.env := by rfl) (hline : (apos.endLine == pos.line) = true := by rfl) :
    DE p X (.Call (.Attribute e "join" apos) [e2] [] pos) (wJoin we we2) := by
  refine ⟨PEimp (pe_join h.pe h2.pe hs hbase hline) ?_⟩
  rintro σ H Q ⟨F, B, env, As, R, s, hw, k⟩
  refine ⟨F, B, env, As, _, s, hw, fun v H1 F1 As1 a d e1 po1 t1 h1 => ?_⟩
  obtain ⟨x, rfl, h1⟩ := strD_inv h1
  obtain ⟨rfl, _⟩ := t1.rep.sc_inv
  refine ⟨⟨x, rfl⟩, F1, B, e1, As1, _, po1.so, h1, fun v2 H2 F2 As2 a2 d2 e2 po2 t2 h2 => ?_⟩
  obtain ⟨o, sh, ys, rfl, hs, hz, h2⟩ := h2
  obtain ⟨q, vs, a', rfl, hq, r1⟩ := t2.rep.seq_inv hs po2.so.same
  rw [show ys.map D.str = (ys.map V.str).map D.sc by rw [List.map_map]; rfl] at r1
  obtain ⟨rfl, _⟩ := r1.sc_inv
  exact ⟨x, q, ys, rfl, rfl, .inl hq, hz, out_sc (R := fun z => R z e2) po2.so h2 fun v' H3 F3 c z po3 t3 h3 => k v' H3 F3 As2 c z e2 ((po1.trans po2).trans (po3.imp fun _ => rfl)) t3 h3⟩
/-- {x} -/
def fmtD : D → (D → Prop) → Prop
  | .sc (.str y), R => y.length ≤ sizeLine ∧ R (.str y)
  | .sc (.int i), R => i.natAbs.log2 < 1920 ∧ R (.str (toString i))
  | _, _ => False
def wFmt (we : WE) : WE := fun env R => we env fun d e1 => fmtD d fun z => R z e1
theorem de_fmt (h : DE p X e we) : DE p X (.FormattedValue e (-1) none pos) (wFmt we) := by
  refine ⟨PEimp (pe_fmt h.pe) ?_⟩
  rintro σ H Q ⟨F, B, env, As, R, s, hw, k⟩
  refine ⟨F, B, env, As, _, s, hw, fun v H1 F1 As1 a d e1 po1 t1 h1 => ?_⟩
  unfold fmtD at h1
  split at h1
  · obtain ⟨rfl, _⟩ := t1.rep.sc_inv
    exact .inl ⟨_, rfl, h1.1, out_sc (R := fun z => R z e1) po1.so h1.2 fun v' H3 F3 c z po3 t3 h3 => k v' H3 F3 As1 c z e1 (po1.trans (po3.imp fun _ => rfl)) t3 h3⟩
  · obtain ⟨rfl, _⟩ := t1.rep.sc_inv
    exact .inr ⟨_, rfl, h1.1, out_sc (R := fun z => R z e1) po1.so h1.2 fun v' H3 F3 c z po3 t3 h3 => k v' H3 F3 As1 c z e1 (po1.trans (po3.imp fun _ => rfl)) t3 h3⟩
  · exact h1.elim
inductive DJ (p : Bool) (X : Cx) : List Expr → List WE → Prop where
  | nil : DJ p X [] []
  | cons {e : Expr} {w : WE} {es : List Expr} {ws : List WE} (h : DE p X e w) (r : DJ p X es ws) : DJ p X (e :: es) (w :: ws)
theorem DJ.pj {es : List Expr} {ws : List WE} (h : DJ p X es ws) : PJ X es (ws.map (liftE X.K p)) := by
  induction h with
  | nil => exact .nil
  | cons h _ ih => exact .cons h.pe ih
def wJs : List WE → Str → WE
  | [], acc, env, R => R (.str acc) env
  | w :: ws, acc, env, R => w env fun d e1 => strD d fun y => (acc ++ y).length ≤ sizeLine ∧ wJs ws (acc ++ y) e1 R
theorem js_lift {K : PySem.W.Frag} {σ : L2.St} {B : Addr → Prop} : ∀ (ws : List WE) (acc : Str) (F H : Hp) (env : En) (As : List (List Addr)) (R : D → En → Prop) (Q : Str → Hp → Prop), SO K F H B env σ As → wJs ws acc env R →
    (∀ out H' F' As' env', PostE K p F H B env σ As F' H' env' As' → R (.str out) env' → Q out H') → tJs (ws.map (liftE K p)) acc σ H Q
  | [], acc, F, H, env, As, R, Q, s, h, k => k acc H F As env (.refl s) h
  | w :: ws, acc, F, H, env, As, R, Q, s, h, k => by
    refine ⟨F, B, env, As, _, s, h, fun v H1 F1 As1 a d e1 po1 t1 h1 => ?_⟩
    obtain ⟨y, rfl, hy, h1⟩ := strD_inv h1
    obtain ⟨rfl, _⟩ := t1.rep.sc_inv
    exact ⟨y, rfl, hy, js_lift ws _ F1 H1 e1 As1 R Q po1.so h1 fun out H2 F2 As2 e2 po2 h2 => k out H2 F2 As2 e2 (po1.trans po2) h2⟩
theorem de_joined {v1 v2 : Expr} {rest : List Expr} {ws : List WE} (h : DJ p X (v1 :: v2 :: rest) ws) : DE p X (.JoinedStr (v1 :: v2 :: rest) pos) (wJs ws Str.empty) := by
  refine ⟨PEimp (pe_joined h.pj) ?_⟩
  rintro σ H Q ⟨F, B, env, As, R, s, hw, k⟩
  exact js_lift ws _ F H env As R _ s hw fun out H1 F1 As1 e1 po1 h1 => out_sc (R := fun z => R z e1) po1.so h1 fun v' H3 F3 c z po3 t3 h3 => k v' H3 F3 As1 c z e1 (po1.trans (po3.imp fun _ => rfl)) t3 h3
/-- int(a text) -/
def rdIntS : RDA
  | [.sc (.str a)], R => ∃ n, PySem.intText? a = some n ∧ a.length ≤ 640 ∧ R (.int n)
  | _, _ => False
theorem sIntS {K : PySem.W.Frag} : SndA K (fun xs H Q => ∃ a n, xs = [.str a] ∧ PySem.intText? a = some n ∧ a.length ≤ 640 ∧ Q (.int n) H) rdIntS := by
  intro F H B env σ As ds vs a R Q s r h k
  unfold rdIntS at h
  split at h
  · obtain ⟨n, h1, h2, h⟩ := h
    obtain ⟨rfl, _⟩ := RepL.sc_inv (ws := [_]) r
    exact ⟨_, n, rfl, h1, h2, out_sc s h k⟩
  · exact h.elim
/-- str(an int) -/
def rdStr : RDA
  | [.sc (.int i)], R => i.natAbs.log2 < 1920 ∧ R (.str (toString i))
  | _, _ => False
theorem sStr {K : PySem.W.Frag} : SndA K (fun xs H Q => ∃ i, xs = [.int i] ∧ i.natAbs.log2 < 1920 ∧ Q (.str (toString i)) H) rdStr := by
  intro F H B env σ As ds vs a R Q s r h k
  unfold rdStr at h
  split at h
  · obtain ⟨h1, h⟩ := h
    obtain ⟨rfl, _⟩ := RepL.sc_inv (ws := [_]) r
    exact ⟨_, rfl, h1, out_sc s h k⟩
  · exact h.elim
/-- a sign not in a text -/
def rdNiS : RD2 := fun x y R => ∃ (c : Nat) (z : Str), x = .str ⟨#[c]⟩ ∧ y = .str z ∧ R (.bl (!decide (c ∈ TL.tl z)))
theorem sNiS {K : PySem.W.Frag} : Snd2 K (fun x y H Q => ∃ (c : Nat) (z : Str), x = .str ⟨#[c]⟩ ∧ y = .str z ∧ Q (.bl (!decide (c ∈ z.cps.toList))) H) rdNiS := by
  rintro F H B env σ As x y v u a b R Q s rx ry ⟨c, z, rfl, rfl, h⟩ k
  obtain ⟨rfl, _⟩ := rx.sc_inv
  obtain ⟨rfl, _⟩ := ry.sc_inv
  exact ⟨c, z, rfl, rfl, out_sc s h k⟩
/-- the signs of a text -/
def iSigns (we : WE) : WI := fun env R => we env fun d e1 => strD d fun x => R ((TL.tl x).map fun c => D.str ⟨#[c]⟩) e1
theorem its_ok {K : PySem.W.Frag} {F : Hp} {x : Str} : ItOk K F (Its x) ((TL.tl x).map fun c => D.str ⟨#[c]⟩) where
  go := fun i H s hi => show i < x.cps.size by simpa [TL.tl] using hi
  stop := fun i H s hi => show x.cps.size ≤ i by simpa [TL.tl] using hi
  yld := fun i v H H' ⟨e, c, hc, hv⟩ s d hd => by
    refine .inl ⟨e, ?_⟩
    have : d = .str ⟨#[c]⟩ := by
      rw [List.getElem?_map, show (TL.tl x)[i]? = some c by simpa [TL.tl] using hc] at hd
      simpa using hd.symm
    rw [this, hv]; exact .sc
theorem di_signs {tg : Expr} (h : DE p X e we) : DI p X tg e (iSigns we) := by
  refine ⟨PIimp (pi_str h.pe) ?_⟩
  rintro σ H Q ⟨F, B, env, As, R, s, hw, k⟩
  refine ⟨F, B, env, As, _, s, hw, fun v H1 F1 As1 a d e1 po1 t1 h1 => ?_⟩
  obtain ⟨x, rfl, h1⟩ := strD_inv h1
  obtain ⟨rfl, _⟩ := t1.rep.sc_inv
  exact ⟨x, rfl, k _ H1 F1 As1 e1 _ po1 its_ok h1⟩
end
end PL

/-! what each def of the law computes, by data (printed by gen.py) -/
namespace LAW_K01
open PySem L2 PL

/- number_written: 0 word 1 sign -/
def wb_number_written : WS :=
  (sSeq (sIf (wOr (wNot (wTst (wChain rdLe rdLe (wC (.int 1)) (wCB rdLen (aCons (wVal 0) aNil)) (wC (.int (9)))))) (wTst (wBin rdNe (wComp false (iSigns (wVal 0)) [1] (gNm 1) (wTst (wBin rdNiS (wVal 1) (wC (.str "0123456789")))) (wVal 1)) (wLst aNil)))) (sRet (wC .non)) sNext)
    (sRet (wIf (wAnd (wTst (wBin rdEq (wBin rdIx (wVal 0) (wC (.int 0))) (wC (.str "0")))) (wTst (wBin rdNe (wVal 0) (wC (.str "0"))))) (wC .non) (wCB rdIntS (aCons (wVal 0) aNil)))))
def F_number_written : WF := fnW [true] 1 wb_number_written

/- row_read: 0 row 1 head 2 word 3 rest 4 found 5 one -/
def wb_row_read : WS :=
  (sSeq (sAsg (wSplit (wVal 0) (wC (.str " "))) (gStD (gsCons (gFz 2) (gsCons (gFz 3) gsNil))))
    (sSeq (sAsg (wComp false (iSeq (wVal 3)) [5] (gNm 5) wYes (wCall F_number_written (cValF (wVal 5) cNil))) (gFz 4))
    (sSeq (sIf (wOr (wTst (wBin rdNe (wVal 2) (wVal 1))) (wTst (wBin (rdIn false) (wC .non) (wVal 4)))) sNever sNext)
    (sRet (wVal 4)))))
def F_row_read : WF := fnW [true, true] 4 wb_row_read

/- door_read: 0 row 1 rooms 2 ends -/
def wb_door_read : WS :=
  (sSeq (sAsg (wCall F_row_read (cValF (wVal 0) (cValF (wC (.str "door")) cNil))) (gFz 2))
    (sSeq (sIf (wOr (wTst (wBin rdNe (wCB rdLen (aCons (wVal 2) aNil)) (wC (.int 2)))) (wOr (wTst (wBin rdEq (wBin rdIx (wVal 2) (wC (.int 0))) (wBin rdIx (wVal 2) (wC (.int 1))))) (wTst (wBin rdGe (wCB rdMaxL (aCons (wVal 2) aNil)) (wVal 1))))) sNever sNext)
    (sRet (wTup (aCons (wBin rdIx (wVal 2) (wC (.int 0))) (aCons (wBin rdIx (wVal 2) (wC (.int 1))) aNil))))))
def F_door_read : WF := fnW [true, true] 1 wb_door_read

/- read: 0 text 1 first 2 rows 3 counts 4 row -/
def wb_read : WS :=
  (sSeq (sAsg (wSplit (wVal 0) (wC (.str "\n"))) (gStD (gsCons (gFz 1) (gsCons (gFz 2) gsNil))))
    (sSeq (sAsg (wCall F_row_read (cValF (wVal 1) (cValF (wC (.str "rooms")) cNil))) (gFz 3))
    (sSeq (sIf (wOr (wTst (wBin rdNe (wCB rdLen (aCons (wVal 3) aNil)) (wC (.int 1)))) (wOr (wNot (wTst (wChain rdLe rdLe (wC (.int 1)) (wBin rdIx (wVal 3) (wC (.int 0))) (wC (.int (10)))))) (wTst (wBin rdGt (wCB rdLen (aCons (wVal 2) aNil)) (wC (.int (24))))))) sNever sNext)
    (sRet (wTupK (aCons (wBin rdIx (wVal 3) (wC (.int 0))) (aCons (wComp false (iSeq (wVal 2)) [4] (gNm 4) wYes (wCall F_door_read (cValF (wVal 4) (cValF (wBin rdIx (wVal 3) (wC (.int 0))) cNil)))) aNil)))))))
def F_read : WF := fnW [true] 4 wb_read

/- written: 0 house 1 rooms 2 doors 3 one 4 other -/
def wb_written : WS :=
  (sSeq (sAsg (wVal 0) (gTp 2 (gsCons (gFz 1) (gsCons (gFz 2) gsNil))))
    (sRet (wJoin (wC (.str "\n")) (wBin rdAdd (wLst (aCons (wJs ((wC (.str "rooms ")) :: ((wFmt (wVal 1)) :: [])) Str.empty) aNil)) (wComp false (iSeq (wVal 2)) [3, 4] (gTp 2 (gsCons (gNm 3) (gsCons (gNm 4) gsNil))) wYes (wJs ((wC (.str "door ")) :: ((wFmt (wVal 3)) :: ((wC (.str " ")) :: ((wFmt (wVal 4)) :: [])))) Str.empty))))))
def F_written : WF := fnW [true] 4 wb_written

/- _law_bag: 0 script 1 seed 2 cell -/
def wb_law_bag : WS :=
  (sSeq (sAsg (wC (.int 29)) (gFz 1))
    (sSeq (sFor (iSeq (wSl (wVal 0) oNo (oSo (wC (.int 60))))) (gFz 2) (sAsg (wBin rdMod (wBin rdAdd (wBin rdAdd (wBin rdMul (wVal 1) (wC (.int 69621))) (wBin rdMod (wVal 2) (wC (.int 2305843009213693921)))) (wC (.int 1))) (wBin rdSub (wBin rdPow (wC (.int 2)) (wC (.int 61))) (wC (.int 1)))) (gFz 1)))
    (sRet (wLstK (aCons (wComp false (iSeq (wSl (wVal 0) oNo (oSo (wC (.int 60))))) [2] (gNm 2) wYes (wBin rdMod (wCB rdAbs (aCons (wVal 2) aNil)) (wBin rdPow (wBin rdPow (wC (.int 10)) (wC (.int 60))) (wC (.int 10))))) (aCons (wC (.int 0)) (aCons (wVal 1) (aCons (wC (.int 0)) aNil))))))))
def F_law_bag : WF := fnW [true] 2 wb_law_bag

/- _law_draw: 0 bag 1 many 2 left -/
def wb_law_draw : WS :=
  (sSeq (sWhile (wAnd (wTst (wBinBE rdLt (bIx (bName 0) (wC (.int 1))) (wCBB rdLen (bCons (bIx (bName 0) (wC (.int 0))) bNil)))) (wTst (wBinBE rdEq (bIx (bIx (bName 0) (wC (.int 0))) (wBinNE rdIx 0 (wC (.int 1)))) (wC (.int 0))))) (sSetIx false (wBinBE rdAdd (bIx (bName 0) (wC (.int 1))) (wC (.int 1))) (mName 0) (wC (.int 1))))
    (sSeq (sIf (wTst (wBinBE rdLt (bIx (bName 0) (wC (.int 1))) (wCBB rdLen (bCons (bIx (bName 0) (wC (.int 0))) bNil)))) (sSeq (sAsg (wBinBB rdIx (bIx (bName 0) (wC (.int 0))) (bIx (bName 0) (wC (.int 1)))) (gFz 2))
    (sSeq (sSetIx false (wBin rdFdiv (wVal 2) (wVal 1)) (mIx (mName 0) (wC (.int 0))) (wBinNE rdIx 0 (wC (.int 1))))
    (sRet (wBin rdMod (wVal 2) (wVal 1))))) sNext)
    (sSeq (sSetIx false (wBinBE rdAdd (bIx (bName 0) (wC (.int 3))) (wC (.int 1))) (mName 0) (wC (.int 3)))
    (sSeq (sSetIx false (wBin rdMod (wBin rdAdd (wBin rdAdd (wBin rdAdd (wBinBE rdPow (bIx (bName 0) (wC (.int 2))) (wC (.int 3))) (wBinEB rdMul (wC (.int 48271)) (bIx (bName 0) (wC (.int 2))))) (wBinEB rdMul (wC (.int 2039)) (bIx (bName 0) (wC (.int 3))))) (wC (.int 7))) (wBin rdSub (wBin rdPow (wC (.int 2)) (wC (.int 61))) (wC (.int 1)))) (mName 0) (wC (.int 2)))
    (sRet (wBin rdMod (wBinBE rdFdiv (bIx (bName 0) (wC (.int 2))) (wC (.int 1024))) (wVal 1)))))))
def F_law_draw : WF := fnW [true, true] 1 wb_law_draw

/- _law_ground: 0 bag 1 most 2 wide 3 rooms 4 doors 5 k 6 one 7 pair -/
def wb_law_ground : WS :=
  (sSeq (sAsg (wBin rdAdd (wC (.int 1)) (wCall F_law_draw (cRef 0 (cValF (wBin rdIx (wLst (aCons (wC (.int 4)) (aCons (wVal 1) aNil))) (wCall F_law_draw (cRef 0 (cValF (wC (.int 2)) cNil)))) cNil)))) (gFz 3))
    (sSeq (sAsg (wLst aNil) (gNm 4))
    (sSeq (sFor (iRng (aCons (wBin rdMul (wBin rdIx (wLst (aCons (wCall F_law_draw (cRef 0 (cValF (wC (.int 6)) cNil))) (aCons (wCall F_law_draw (cRef 0 (cValF (wBin rdAdd (wVal 2) (wC (.int 1))) cNil))) aNil))) (wCall F_law_draw (cRef 0 (cValF (wC (.int 2)) cNil)))) (wCB rdInt1 (aCons (wBin rdGt (wVal 3) (wC (.int 1))) aNil))) aNil)) (gFz 5) (sSeq (sAsg (wCall F_law_draw (cRef 0 (cValF (wVal 3) cNil))) (gFz 6))
    (sSeq (sAsg (wTup (aCons (wVal 6) (aCons (wBin rdMod (wBin rdAdd (wBin rdAdd (wVal 6) (wC (.int 1))) (wCall F_law_draw (cRef 0 (cValF (wBin rdSub (wVal 3) (wC (.int 1))) cNil)))) (wVal 3)) aNil))) (gFz 7))
    (sSeq (sIf (wAnd (wTst (wBinNE rdNe 4 (wLst aNil))) (wTst (wBin rdEq (wCall F_law_draw (cRef 0 (cValF (wC (.int 5)) cNil))) (wC (.int 0))))) (sAsg (wRev (wBinNE rdIx 4 (wCall F_law_draw (cRef 0 (cValF (wCBB rdLen (bCons (bName 4) bNil)) cNil))))) (gFz 7)) sNext)
    (sDrop (wAppN false 4 (wVal 7)))))))
    (sRet (wTup (aCons (wVal 3) (aCons (wVar 4) aNil)))))))
def F_law_ground : WF := fnW [true, true, true] 5 wb_law_ground

/- _law_alike: 0 found 1 due 2 k -/
def wb_law_alike (F_law_alike : Nat → WF) (n : Nat) : WS :=
  (sSeq (sIf (wTst (wCB rdIsi (aCons (wVal 1) (aCons (wTup (aCons (wC (.sc (.ty "list"))) (aCons (wC (.sc (.ty "tuple"))) aNil))) aNil)))) (sSeq (sIf (wOr (wNot (wTst (wCB rdIsi (aCons (wVal 0) (aCons (wTup (aCons (wC (.sc (.ty "list"))) (aCons (wC (.sc (.ty "tuple"))) aNil))) aNil))))) (wTst (wBin rdNe (wCB rdIsi (aCons (wVal 0) (aCons (wC (.sc (.ty "list"))) aNil))) (wCB rdIsi (aCons (wVal 1) (aCons (wC (.sc (.ty "list"))) aNil)))))) (sRet (wC (.bl false))) sNext)
    (sRet (wAndV (wBin rdEq (wCB rdLen (aCons (wVal 0) aNil)) (wCB rdLen (aCons (wVal 1) aNil))) (wCB rdAll (aCons (wComp false (iRng (aCons (wCB rdLen (aCons (wVal 1) aNil)) aNil)) [2] (gNm 2) wYes (wCall (F_law_alike n) (cValF (wBin rdIx (wVal 0) (wVal 2)) (cValF (wBin rdIx (wVal 1) (wVal 2)) cNil)))) aNil))))) sNext)
    (sSeq (sIf (wOr (wTst (wCB rdIsi (aCons (wVal 1) (aCons (wC (.sc (.ty "bool"))) aNil)))) (wTst (wCB rdIsi (aCons (wVal 0) (aCons (wC (.sc (.ty "bool"))) aNil))))) (sRet (wAndV (wCB rdIsi (aCons (wVal 1) (aCons (wC (.sc (.ty "bool"))) aNil))) (wAndV (wCB rdIsi (aCons (wVal 0) (aCons (wC (.sc (.ty "bool"))) aNil))) (wBin rdEq (wVal 0) (wVal 1))))) sNext)
    (sSeq (sIf (wOr (wTst (wCB rdIsi (aCons (wVal 1) (aCons (wC (.sc (.ty "str"))) aNil)))) (wTst (wCB rdIsi (aCons (wVal 0) (aCons (wC (.sc (.ty "str"))) aNil))))) (sRet (wAndV (wCB rdIsi (aCons (wVal 1) (aCons (wC (.sc (.ty "str"))) aNil))) (wAndV (wCB rdIsi (aCons (wVal 0) (aCons (wC (.sc (.ty "str"))) aNil))) (wBin rdEq (wVal 0) (wVal 1))))) sNext)
    (sRet (wAndV (wCB rdIsi (aCons (wVal 0) (aCons (wC (.sc (.ty "int"))) aNil))) (wBin rdEq (wVal 0) (wVal 1)))))))
def F_law_alike : Nat → WF
  | 0 => fun _ _ => False
  | n + 1 => fnW [true, true] 1 (wb_law_alike (fun _ => F_law_alike n) n)

/- _law_spelt: 0 rooms 1 doors 2 line 3 one 4 other -/
def wb_law_spelt : WS :=
  (sSeq (sAsg (wBin rdAdd (wC (.str "rooms ")) (wCB rdStr (aCons (wVal 0) aNil))) (gFz 2))
    (sSeq (sFor (iSeq (wVal 1)) (gTp 2 (gsCons (gFz 3) (gsCons (gFz 4) gsNil))) (sAsg (wBin rdAdd (wBin rdAdd (wBin rdAdd (wBin rdAdd (wBin rdAdd (wVal 2) (wC (.str "\n"))) (wC (.str "door "))) (wCB rdStr (aCons (wVal 3) aNil))) (wC (.str " "))) (wCB rdStr (aCons (wVal 4) aNil))) (gFz 2)))
    (sRet (wVal 2))))
def F_law_spelt : WF := fnW [true, true] 3 wb_law_spelt

/- _law_otherwise: 0 bag 1 site 2 rooms 3 doors 4 way 5 at 6 pair -/
def wb_law_otherwise : WS :=
  (sSeq (sAsg (wVal 1) (gTp 2 (gsCons (gFz 2) (gsCons (gFz 3) gsNil))))
    (sSeq (sAsg (wCall F_law_draw (cRef 0 (cValF (wC (.int 4)) cNil))) (gFz 4))
    (sSeq (sAsg (wCall F_law_draw (cRef 0 (cValF (wCB rdMax2 (aCons (wC (.int 1)) (aCons (wCB rdLen (aCons (wVal 3) aNil)) aNil))) cNil))) (gFz 5))
    (sSeq (sIf (wTst (wBin rdEq (wVal 4) (wC (.int 0)))) (sRet (wTup (aCons (wVal 2) (aCons (wBin rdAdd (wSl (wVal 3) (oSo (wVal 5)) oNo) (wSl (wVal 3) oNo (oSo (wVal 5)))) aNil)))) sNext)
    (sSeq (sIf (wTst (wBin rdEq (wVal 4) (wC (.int 1)))) (sRet (wTup (aCons (wVal 2) (aCons (wBin rdAdd (wBin rdAdd (wSl (wVal 3) oNo (oSo (wVal 5))) (wComp false (iSeq (wSl (wVal 3) (oSo (wVal 5)) (oSo (wBin rdAdd (wVal 5) (wC (.int 1)))))) [6] (gNm 6) wYes (wRev (wVal 6)))) (wSl (wVal 3) (oSo (wBin rdAdd (wVal 5) (wC (.int 1)))) oNo)) aNil)))) sNext)
    (sSeq (sIf (wTst (wBin rdEq (wVal 4) (wC (.int 2)))) (sRet (wTup (aCons (wVal 2) (aCons (wBin rdAdd (wSl (wVal 3) oNo (oSo (wVal 5))) (wSl (wVal 3) (oSo (wBin rdAdd (wVal 5) (wC (.int 1)))) oNo)) aNil)))) sNext)
    (sRet (wTup (aCons (wCB rdMin2 (aCons (wC (.int 10)) (aCons (wBin rdAdd (wVal 2) (wC (.int 1))) aNil))) (aCons (wCB rdList (aCons (wVal 3) aNil)) aNil))))))))))
def F_law_otherwise : WF := fnW [true, true] 5 wb_law_otherwise

/- _law_right: 0 site 1 rooms 2 doors 3 line 4 handed 5 found -/
def wb_law_right : WS :=
  (sSeq (sAsg (wVal 0) (gTp 2 (gsCons (gFz 1) (gsCons (gFz 2) gsNil))))
    (sSeq (sAsg (wCall F_law_spelt (cValF (wVal 1) (cValF (wVal 2) cNil))) (gFz 3))
    (sSeq (sAsg (wTup (aCons (wVal 1) (aCons (wCB rdList (aCons (wVal 2) aNil)) aNil))) (gFz 4))
    (sSeq (sIf (wOr (wNot (wTru (wCall (F_law_alike 4) (cValF (wCall F_written (cValF (wVal 4) cNil)) (cValF (wVal 3) cNil))))) (wOr (wNot (wTru (wCall (F_law_alike 4) (cValF (wCallK 0 1 [0] F_written cNil (cValF (wVal 4) cNil)) (cValF (wVal 3) cNil))))) (wTst (wBin rdNe (wVal 4) (wVal 0))))) (sRet (wC (.bl false))) sNext)
    (sSeq (sAsg (wCall F_read (cValF (wVal 3) cNil)) (gNm 5))
    (sSeq (sIf (wNot (wTru (wView (wCall (F_law_alike 4) (cValF (wVal 5) (cValF (wVal 0) cNil)))))) (sRet (wC (.bl false))) sNext)
    (sSeq (sDrop (wAppP false (mIx2 (mName 5) (wC (.int 1))) (wTup (aCons (wC (.int 0)) (aCons (wC (.int 0)) aNil)))))
    (sRet (wAndV (wCall (F_law_alike 4) (cValF (wCallK 0 1 [0] F_read cNil (cValF (wVal 3) cNil)) (cValF (wVal 0) cNil))) (wBin rdEq (wCall F_written (cValF (wCall F_read (cValF (wVal 3) cNil)) cNil)) (wVal 3)))))))))))
def F_law_right : WF := fnW [true] 5 wb_law_right

/- law: 0 script 1 bag 2 k 3 site 4 other -/
def wb_law : WS :=
  (sSeq (sAsg (wCall F_law_bag (cValF (wVal 0) cNil)) (gNm 1))
    (sSeq (sFor (iRng (aCons (wC (.int 5)) aNil)) (gFz 2) (sSeq (sAsg (wCall F_law_ground (cRef 1 (cValF (wC (.int 10)) (cValF (wC (.int 24)) cNil)))) (gFz 3))
    (sSeq (sAsg (wCall F_law_otherwise (cRef 1 (cValF (wVal 3) cNil))) (gFz 4))
    (sSeq (sIf (wOr (wNot (wTru (wCall F_law_right (cValF (wVal 3) cNil)))) (wNot (wTru (wCall F_law_right (cValF (wVal 4) cNil))))) (sRet (wC (.bl false))) sNext)
    (sIf (wTst (wBin rdNe (wBin rdEq (wCall F_written (cValF (wVal 3) cNil)) (wCall F_written (cValF (wVal 4) cNil))) (wBin rdEq (wVal 3) (wVal 4)))) (sRet (wC (.bl false))) sNext)))))
    (sRet (wC (.bl true)))))
def F_law : WF := fnW [true] 4 wb_law

def F_lawA : WF := F_law
end LAW_K01

/-! that the defs are so (printed by gen.py) -/
namespace LAW_K01
open PySem L2 PL

def top (i : Nat) : Stmt := PySem.Challenge.pw_bothdoors_k01_houses_as_texts.main.body.getD i (.Pass ⟨0, 0, 0, 0⟩)
abbrev s_number_written : Stmt := top 6
abbrev s_row_read : Stmt := top 7
abbrev s_door_read : Stmt := top 8
abbrev s_read : Stmt := top 9
abbrev s_written : Stmt := top 10
abbrev s_law_bag : Stmt := top 12
abbrev s_law_draw : Stmt := top 13
abbrev s_law_ground : Stmt := top 14
abbrev s_law_alike : Stmt := top 15
abbrev s_law_spelt : Stmt := top 16
abbrev s_law_otherwise : Stmt := top 17
abbrev s_law_right : Stmt := top 18
abbrev s_law : Stmt := top 19
structure Txt (mg : Str → Option Value) : Prop where
  b_abs : mg "abs" = none
  b_all : mg "all" = none
  b_bool : mg "bool" = none
  b_int : mg "int" = none
  b_isinstance : mg "isinstance" = none
  b_len : mg "len" = none
  b_list : mg "list" = none
  b_max : mg "max" = none
  b_min : mg "min" = none
  b_range : mg "range" = none
  b_str : mg "str" = none
  b_tuple : mg "tuple" = none
  c_MOST_ROOMS : ∃ t, mg "MOST_ROOMS" = some (.int (10) t)
  c_MOST_DOORS : ∃ t, mg "MOST_DOORS" = some (.int (24) t)
  c_MOST_FIGURES : ∃ t, mg "MOST_FIGURES" = some (.int (9) t)
section
variable {P : Program} {w : World} {K : PySem.W.Frag} {mg : Str → Option Value} {base : Heap}
theorem sc_number_written : FnScope ["word", "sign"] ["word"] (defScope s_number_written) := ⟨rfl, rfl, rfl, by decide +kernel, rfl, by decide +kernel, by decide +kernel⟩
theorem ok_number_written {a : Addr} {fd : FuncData} (G : Fun K "number_written" "number_written" s_number_written a fd) (hm : mg "number_written" = some (.ref a)) (T : Txt mg)  : Cal P w K mg base 1 "number_written" s_number_written ["word"] F_number_written :=
  .mk' G hm (G.binds fun _ _ _ _ _ _ us hl => match us, hl with | [_], _ => rfl) (fn_data G sc_number_written rfl rfl fun cdv A outer s H E hr hgd => by
    have S := sc_number_written
    exact (dss_cons (ds_if (p := false) (DW.dt (dw_or (dt_not (dt_chain op_le sI0 op_le sI0 de_int (de_cb (cs_B call_len (by rfl) T.b_len (by decide +kernel)) sLen (da_cons (de_val (pv 0)) da_nil)) (de_globI (by rfl) T.c_MOST_FIGURES))) (dw_or1 (dt_EE (t2_cmp (op_neD hr.units) (nomark _)) sNe (de_lc (own := [("sign", 1)]) false rfl S.nd (di_signs (de_val (pv 0))) (blkOk_by (own := [("sign", 1)]) (N := ["word", "sign"]) (sc := defScope s_number_written) (by decide +kernel)) (fun _ _ _ _ _ => (dg_name (pg_name (i := 1) S.nd rfl (by first | exact Or.inl rfl | exact Or.inr rfl)) (not_outK (by decide)))) (fun _ _ _ _ _ => (dts_one (dt_EE (t2_cmp op_notIn_sign (by rfl)) sNiS (de_val (pv 1)) de_str))) (fun _ _ _ _ _ => (de_val (pv 1)))) (de_lst da_nil))))) (dss_one (ds_ret (p := false) de_non)) dss_nil)
    (dss_one (ds_ret (p := false) (de_if (DW.dt (dw_and (dt_EE (t2_cmp (op_eqD hr.units) (nomark _)) sEq (de_EE (b2_ix ix_seq fun _ _ => rfl) sIx (de_val (pv 0)) de_int) de_str) (dw_and1 (dt_EE (t2_cmp (op_neD hr.units) (nomark _)) sNe (de_val (pv 0)) de_str)))) de_non (de_cb (cs_T call_int_str (by rfl) T.b_int (by decide +kernel)) sIntS (da_cons (de_val (pv 0)) da_nil)))))))
theorem sc_row_read : FnScope ["row", "head", "word", "rest", "found", "one"] ["row", "head"] (defScope s_row_read) := ⟨rfl, rfl, rfl, by decide +kernel, rfl, by decide +kernel, by decide +kernel⟩
theorem ok_row_read {a : Addr} {fd : FuncData} (G : Fun K "row_read" "row_read" s_row_read a fd) (hm : mg "row_read" = some (.ref a)) (T : Txt mg) (C_number_written : Cal P w K mg base 1 "number_written" s_number_written ["word"] F_number_written) : Cal P w K mg base 2 "row_read" s_row_read ["row", "head"] F_row_read :=
  .mk' G hm (G.binds fun _ _ _ _ _ _ us hl => match us, hl with | [_, _], _ => rfl) (fn_data G sc_row_read rfl rfl fun cdv A outer s H E hr hgd => by
    have S := sc_row_read
    exact (dss_cons (ds_asg (p := false) (de_split (de_val (pv 0)) de_str) (dg_star rfl (dgs_cons (dg_fz (pg_name (i := 2) S.nd rfl (by first | exact Or.inl rfl | exact Or.inr rfl)) (by decide)) (dgs_cons (dg_fz (pg_name (i := 3) S.nd rfl (by first | exact Or.inl rfl | exact Or.inr rfl)) (by decide)) dgs_nil))))
    (dss_cons (ds_setLcF (i := 4) (own := [("one", 5)]) false rfl S.nd rfl rfl (by decide) (sw_true rfl rfl rfl (by decide +kernel)) (di_seq (de_val (pv 3))) (blkOk_by (own := [("one", 5)]) (N := ["row", "head", "word", "rest", "found", "one"]) (sc := defScope s_row_read) (by decide +kernel)) (fun _ _ _ _ _ => (dg_name (pg_name (i := 5) S.nd rfl (by first | exact Or.inl rfl | exact Or.inr rfl)) (not_outK (by decide)))) (fun _ _ _ _ _ => dts_nil) (fun _ _ _ _ _ => (de_cal C_number_written hr (by first | omega | exact Nat.le_refl _) hgd (by rfl) (dc_valF (p := false) (de_val (pv 5)) dc_nil))))
    (dss_cons (ds_if (p := false) (DW.dt (dw_or (dt_EE (t2_cmp (op_neD hr.units) (nomark _)) sNe (de_val (pv 2)) (de_val (pv 1))) (dw_or1 (dt_EE (t2_cmp op_in_seq (by rfl)) sIn de_non (de_val (pv 4)))))) (dss_one ds_never) dss_nil)
    (dss_one (ds_ret (p := false) (de_val (pv 4))))))))
theorem sc_door_read : FnScope ["row", "rooms", "ends"] ["row", "rooms"] (defScope s_door_read) := ⟨rfl, rfl, rfl, by decide +kernel, rfl, by decide +kernel, by decide +kernel⟩
theorem ok_door_read {a : Addr} {fd : FuncData} (G : Fun K "door_read" "door_read" s_door_read a fd) (hm : mg "door_read" = some (.ref a)) (T : Txt mg) (C_row_read : Cal P w K mg base 2 "row_read" s_row_read ["row", "head"] F_row_read) : Cal P w K mg base 3 "door_read" s_door_read ["row", "rooms"] F_door_read :=
  .mk' G hm (G.binds fun _ _ _ _ _ _ us hl => match us, hl with | [_, _], _ => rfl) (fn_data G sc_door_read rfl rfl fun cdv A outer s H E hr hgd => by
    have S := sc_door_read
    exact (dss_cons (ds_setF (p := false) (i := 2) S.nd rfl (by first | exact Or.inl rfl | exact Or.inr rfl) (de_cal C_row_read hr (by first | omega | exact Nat.le_refl _) hgd (by rfl) (dc_valF (p := false) (de_val (pv 0)) (dc_valF (p := false) de_str dc_nil))) (by decide))
    (dss_cons (ds_if (p := false) (DW.dt (dw_or (dt_EE (t2_cmp (op_neD hr.units) (nomark _)) sNe (de_cb (cs_B call_len (by rfl) T.b_len (by decide +kernel)) sLen (da_cons (de_val (pv 2)) da_nil)) de_int) (dw_or (dt_EE (t2_cmp (op_eqD hr.units) (nomark _)) sEq (de_EE (b2_ix ix_seq fun _ _ => rfl) sIx (de_val (pv 2)) de_int) (de_EE (b2_ix ix_seq fun _ _ => rfl) sIx (de_val (pv 2)) de_int)) (dw_or1 (dt_EE (t2_cmp op_ge (nomark _)) sI0 (de_cb (cs_B (cr_max rfl) (by rfl) T.b_max (by decide +kernel)) sMaxL (da_cons (de_val (pv 2)) da_nil)) (de_val (pv 1))))))) (dss_one ds_never) dss_nil)
    (dss_one (ds_ret (p := false) (de_tup (da_cons (de_EE (b2_ix ix_seq fun _ _ => rfl) sIx (de_val (pv 2)) de_int) (da_cons (de_EE (b2_ix ix_seq fun _ _ => rfl) sIx (de_val (pv 2)) de_int) da_nil))))))))
theorem sc_read : FnScope ["text", "first", "rows", "counts", "row"] ["text"] (defScope s_read) := ⟨rfl, rfl, rfl, by decide +kernel, rfl, by decide +kernel, by decide +kernel⟩
theorem ok_read {a : Addr} {fd : FuncData} (G : Fun K "read" "read" s_read a fd) (hm : mg "read" = some (.ref a)) (T : Txt mg) (C_row_read : Cal P w K mg base 2 "row_read" s_row_read ["row", "head"] F_row_read) (C_door_read : Cal P w K mg base 3 "door_read" s_door_read ["row", "rooms"] F_door_read) : Cal P w K mg base 4 "read" s_read ["text"] F_read :=
  .mk' G hm (G.binds fun _ _ _ _ _ _ us hl => match us, hl with | [_], _ => rfl) (fn_data G sc_read rfl rfl fun cdv A outer s H E hr hgd => by
    have S := sc_read
    exact (dss_cons (ds_asg (p := false) (de_split (de_val (pv 0)) de_str) (dg_star rfl (dgs_cons (dg_fz (pg_name (i := 1) S.nd rfl (by first | exact Or.inl rfl | exact Or.inr rfl)) (by decide)) (dgs_cons (dg_fz (pg_name (i := 2) S.nd rfl (by first | exact Or.inl rfl | exact Or.inr rfl)) (by decide)) dgs_nil))))
    (dss_cons (ds_setF (p := false) (i := 3) S.nd rfl (by first | exact Or.inl rfl | exact Or.inr rfl) (de_cal C_row_read hr (by first | omega | exact Nat.le_refl _) hgd (by rfl) (dc_valF (p := false) (de_val (pv 1)) (dc_valF (p := false) de_str dc_nil))) (by decide))
    (dss_cons (ds_if (p := false) (DW.dt (dw_or (dt_EE (t2_cmp (op_neD hr.units) (nomark _)) sNe (de_cb (cs_B call_len (by rfl) T.b_len (by decide +kernel)) sLen (da_cons (de_val (pv 3)) da_nil)) de_int) (dw_or (dt_not (dt_chain op_le sI0 op_le sI0 de_int (de_EE (b2_ix ix_seq fun _ _ => rfl) sIx (de_val (pv 3)) de_int) (de_globI (by rfl) T.c_MOST_ROOMS))) (dw_or1 (dt_EE (t2_cmp op_gt (nomark _)) sI0 (de_cb (cs_B call_len (by rfl) T.b_len (by decide +kernel)) sLen (da_cons (de_val (pv 2)) da_nil)) (de_globI (by rfl) T.c_MOST_DOORS)))))) (dss_one ds_never) dss_nil)
    (dss_one (ds_ret (p := false) (de_tupK (da_cons (de_EE (b2_ix ix_seq fun _ _ => rfl) sIx (de_val (pv 3)) de_int) (da_cons (de_lc (own := [("row", 4)]) false rfl S.nd (di_seq (de_val (pv 2))) (blkOk_by (own := [("row", 4)]) (N := ["text", "first", "rows", "counts", "row"]) (sc := defScope s_read) (by decide +kernel)) (fun _ _ _ _ _ => (dg_name (pg_name (i := 4) S.nd rfl (by first | exact Or.inl rfl | exact Or.inr rfl)) (not_outK (by decide)))) (fun _ _ _ _ _ => dts_nil) (fun _ _ _ _ _ => (de_cal C_door_read hr (by first | omega | exact Nat.le_refl _) hgd (by rfl) (dc_valF (p := false) (de_val (pv 4)) (dc_valF (p := false) (de_EE (b2_ix ix_seq fun _ _ => rfl) sIx (de_val (pv 3)) de_int) dc_nil))))) da_nil)))))))))
theorem sc_written : FnScope ["house", "rooms", "doors", "one", "other"] ["house"] (defScope s_written) := ⟨rfl, rfl, rfl, by decide +kernel, rfl, by decide +kernel, by decide +kernel⟩
theorem ok_written {a : Addr} {fd : FuncData} (G : Fun K "written" "written" s_written a fd) (hm : mg "written" = some (.ref a)) (T : Txt mg)  : Cal P w K mg base 1 "written" s_written ["house"] F_written :=
  .mk' G hm (G.binds fun _ _ _ _ _ _ us hl => match us, hl with | [_], _ => rfl) (fn_data G sc_written rfl rfl fun cdv A outer s H E hr hgd => by
    have S := sc_written
    exact (dss_cons (ds_asg (p := false) (de_val (pv 0)) (dg_tup rfl (dgs_cons (dg_fz (pg_name (i := 1) S.nd rfl (by first | exact Or.inl rfl | exact Or.inr rfl)) (by decide)) (dgs_cons (dg_fz (pg_name (i := 2) S.nd rfl (by first | exact Or.inl rfl | exact Or.inr rfl)) (by decide)) dgs_nil))))
    (dss_one (ds_ret (p := false) (de_join de_str (de_EE (b2_op opAdd) sAdd (de_lst (da_cons (de_joined (.cons de_str (.cons (de_fmt (de_val (pv 1))) .nil))) da_nil)) (de_lc (own := [("one", 3), ("other", 4)]) false rfl S.nd (di_seq (de_val (pv 2))) (blkOk_by (own := [("one", 3), ("other", 4)]) (N := ["house", "rooms", "doors", "one", "other"]) (sc := defScope s_written) (by decide +kernel)) (fun _ _ _ _ _ => (dg_tup rfl (dgs_cons (dg_name (pg_name (i := 3) S.nd rfl (by first | exact Or.inl rfl | exact Or.inr rfl)) (not_outK (by decide))) (dgs_cons (dg_name (pg_name (i := 4) S.nd rfl (by first | exact Or.inl rfl | exact Or.inr rfl)) (not_outK (by decide))) dgs_nil)))) (fun _ _ _ _ _ => dts_nil) (fun _ _ _ _ _ => (de_joined (.cons de_str (.cons (de_fmt (de_val (pv 3))) (.cons de_str (.cons (de_fmt (de_val (pv 4))) .nil)))))))))))))
theorem sc_law_bag : FnScope ["script", "seed", "cell"] ["script"] (defScope s_law_bag) := ⟨rfl, rfl, rfl, by decide +kernel, rfl, by decide +kernel, by decide +kernel⟩
theorem ok_law_bag {a : Addr} {fd : FuncData} (G : Fun K "_law_bag" "_law_bag" s_law_bag a fd) (hm : mg "_law_bag" = some (.ref a)) (T : Txt mg)  : Cal P w K mg base 1 "_law_bag" s_law_bag ["script"] F_law_bag :=
  .mk' G hm (G.binds fun _ _ _ _ _ _ us hl => match us, hl with | [_], _ => rfl) (fn_data G sc_law_bag rfl rfl fun cdv A outer s H E hr hgd => by
    have S := sc_law_bag
    exact (dss_cons (ds_setF (p := false) (i := 1) S.nd rfl (by first | exact Or.inl rfl | exact Or.inr rfl) de_int (by decide))
    (dss_cons (ds_for (p := false) PassesOwn.never rfl (di_seq (de_slice (de_val (pv 0)) do_no (do_so de_int))) (dg_fz (pg_name (i := 2) S.nd rfl (by first | exact Or.inl rfl | exact Or.inr rfl)) (by decide)) (dss_one (ds_setF (p := false) (i := 1) S.nd rfl (by first | exact Or.inl rfl | exact Or.inr rfl) (de_EE (b2_op op_mod) sI (de_EE (b2_op opAdd) sAdd (de_EE (b2_op opAdd) sAdd (de_EE (b2_op opMul) sMul (de_val (pv 1)) de_int) (de_EE (b2_op op_mod) sI (de_val (pv 2)) de_int)) de_int) (de_EE (b2_op op_sub) sI0 (de_EE (b2_op opPow) sI de_int de_int) de_int)) (by decide))))
    (dss_one (ds_ret (p := false) (de_lstK (da_cons (de_lc (own := [("cell", 2)]) false rfl S.nd (di_seq (de_slice (de_val (pv 0)) do_no (do_so de_int))) (blkOk_by (own := [("cell", 2)]) (N := ["script", "seed", "cell"]) (sc := defScope s_law_bag) (by decide +kernel)) (fun _ _ _ _ _ => (dg_name (pg_name (i := 2) S.nd rfl (by first | exact Or.inl rfl | exact Or.inr rfl)) (not_outK (by decide)))) (fun _ _ _ _ _ => dts_nil) (fun _ _ _ _ _ => (de_EE (b2_op op_mod) sI (de_cb (cs_B call_abs (by rfl) T.b_abs (by decide +kernel)) sI1 (da_cons (de_val (pv 2)) da_nil)) (de_EE (b2_op opPow) sI (de_EE (b2_op opPow) sI de_int de_int) de_int)))) (da_cons de_int (da_cons (de_val (pv 1)) (da_cons de_int da_nil))))))))))
theorem sc_law_draw : FnScope ["bag", "many", "left"] ["bag", "many"] (defScope s_law_draw) := ⟨rfl, rfl, rfl, by decide +kernel, rfl, by decide +kernel, by decide +kernel⟩
theorem ok_law_draw {a : Addr} {fd : FuncData} (G : Fun K "_law_draw" "_law_draw" s_law_draw a fd) (hm : mg "_law_draw" = some (.ref a)) (T : Txt mg)  : Cal P w K mg base 1 "_law_draw" s_law_draw ["bag", "many"] F_law_draw :=
  .mk' G hm (G.binds fun _ _ _ _ _ _ us hl => match us, hl with | [_, _], _ => rfl) (fn_data G sc_law_draw rfl rfl fun cdv A outer s H E hr hgd => by
    have S := sc_law_draw
    exact (dss_cons (ds_while (p := false) PassesOwn.never (DW.dt (dw_and (dt_BE (t2_cmp op_lt (nomark _)) sI0 (db_ix (db_name (pv 0)) de_int fun _ _ => rfl) (de_cbB (cs_B call_len (by rfl) T.b_len (by decide +kernel)) sLen (dab_cons (db_ix (db_name (pv 0)) de_int fun _ _ => rfl) dab_nil))) (dw_and1 (dt_BE (t2_cmp (op_eqD hr.units) (nomark _)) sEq (db_ix (db_ix (db_name (pv 0)) de_int fun _ _ => rfl) (de_NE (b2_ix ix_seq fun _ _ => rfl) sIx (pv 0) de_int) fun _ _ => rfl) de_int)))) (dss_one (ds_setix (p := false) (kf := false) (de_BE (b2_op opAdd) sAdd (db_ix (db_name (pv 0)) de_int fun _ _ => rfl) de_int) (dm_name (pv 0)) de_int)))
    (dss_cons (ds_if (p := false) (dt_BE (t2_cmp op_lt (nomark _)) sI0 (db_ix (db_name (pv 0)) de_int fun _ _ => rfl) (de_cbB (cs_B call_len (by rfl) T.b_len (by decide +kernel)) sLen (dab_cons (db_ix (db_name (pv 0)) de_int fun _ _ => rfl) dab_nil))) (dss_cons (ds_setF (p := false) (i := 2) S.nd rfl (by first | exact Or.inl rfl | exact Or.inr rfl) (de_BB (b2_ix ix_seq fun _ _ => rfl) sIx (db_ix (db_name (pv 0)) de_int fun _ _ => rfl) (db_ix (db_name (pv 0)) de_int fun _ _ => rfl)) (by decide))
    (dss_cons (ds_setix (p := false) (kf := false) (de_EE (b2_op op_fdivW) sI (de_val (pv 2)) (de_val (pv 1))) (dm_ix (dm_name (pv 0)) de_int fun _ _ => rfl) (de_NE (b2_ix ix_seq fun _ _ => rfl) sIx (pv 0) de_int))
    (dss_one (ds_ret (p := false) (de_EE (b2_op op_mod) sI (de_val (pv 2)) (de_val (pv 1))))))) dss_nil)
    (dss_cons (ds_setix (p := false) (kf := false) (de_BE (b2_op opAdd) sAdd (db_ix (db_name (pv 0)) de_int fun _ _ => rfl) de_int) (dm_name (pv 0)) de_int)
    (dss_cons (ds_setix (p := false) (kf := false) (de_EE (b2_op op_mod) sI (de_EE (b2_op opAdd) sAdd (de_EE (b2_op opAdd) sAdd (de_EE (b2_op opAdd) sAdd (de_BE (b2_op opPow) sI (db_ix (db_name (pv 0)) de_int fun _ _ => rfl) de_int) (de_EB (b2_op opMul) sMul de_int (db_ix (db_name (pv 0)) de_int fun _ _ => rfl))) (de_EB (b2_op opMul) sMul de_int (db_ix (db_name (pv 0)) de_int fun _ _ => rfl))) de_int) (de_EE (b2_op op_sub) sI0 (de_EE (b2_op opPow) sI de_int de_int) de_int)) (dm_name (pv 0)) de_int)
    (dss_one (ds_ret (p := false) (de_EE (b2_op op_mod) sI (de_BE (b2_op op_fdivW) sI (db_ix (db_name (pv 0)) de_int fun _ _ => rfl) de_int) (de_val (pv 1))))))))))
theorem sc_law_ground : FnScope ["bag", "most", "wide", "rooms", "doors", "k", "one", "pair"] ["bag", "most", "wide"] (defScope s_law_ground) := ⟨rfl, rfl, rfl, by decide +kernel, rfl, by decide +kernel, by decide +kernel⟩
theorem ok_law_ground {a : Addr} {fd : FuncData} (G : Fun K "_law_ground" "_law_ground" s_law_ground a fd) (hm : mg "_law_ground" = some (.ref a)) (T : Txt mg) (C_law_draw : Cal P w K mg base 1 "_law_draw" s_law_draw ["bag", "many"] F_law_draw) : Cal P w K mg base 2 "_law_ground" s_law_ground ["bag", "most", "wide"] F_law_ground :=
  .mk' G hm (G.binds fun _ _ _ _ _ _ us hl => match us, hl with | [_, _, _], _ => rfl) (fn_data G sc_law_ground rfl rfl fun cdv A outer s H E hr hgd => by
    have S := sc_law_ground
    exact (dss_cons (ds_setF (p := false) (i := 3) S.nd rfl (by first | exact Or.inl rfl | exact Or.inr rfl) (de_EE (b2_op opAdd) sAdd de_int (de_cal C_law_draw hr (by first | omega | exact Nat.le_refl _) hgd (by rfl) (dc_ref (pv 0) (dc_valF (p := false) (de_EE (b2_ix ix_seq fun _ _ => rfl) sIx (de_lst (da_cons de_int (da_cons (de_val (pv 1)) da_nil))) (de_cal C_law_draw hr (by first | omega | exact Nat.le_refl _) hgd (by rfl) (dc_ref (pv 0) (dc_valF (p := false) de_int dc_nil)))) dc_nil)))) (by decide))
    (dss_cons (ds_set (p := false) (i := 4) S.nd rfl (by first | exact Or.inl rfl | exact Or.inr rfl) (de_lst da_nil) (by decide))
    (dss_cons (ds_for (p := false) PassesOwn.never rfl (di_range (by rfl) T.b_range (da_cons (de_EE (b2_op opMul) sMul (de_EE (b2_ix ix_seq fun _ _ => rfl) sIx (de_lst (da_cons (de_cal C_law_draw hr (by first | omega | exact Nat.le_refl _) hgd (by rfl) (dc_ref (pv 0) (dc_valF (p := false) de_int dc_nil))) (da_cons (de_cal C_law_draw hr (by first | omega | exact Nat.le_refl _) hgd (by rfl) (dc_ref (pv 0) (dc_valF (p := false) (de_EE (b2_op opAdd) sAdd (de_val (pv 2)) de_int) dc_nil))) da_nil))) (de_cal C_law_draw hr (by first | omega | exact Nat.le_refl _) hgd (by rfl) (dc_ref (pv 0) (dc_valF (p := false) de_int dc_nil)))) (de_cb (cs_T call_int1 (by rfl) T.b_int (by decide +kernel)) sInt1 (da_cons (de_EE (b2_cmp op_gt (nomark _)) sI0 (de_val (pv 3)) de_int) da_nil))) da_nil)) (dg_fz (pg_name (i := 5) S.nd rfl (by first | exact Or.inl rfl | exact Or.inr rfl)) (by decide)) (dss_cons (ds_setF (p := false) (i := 6) S.nd rfl (by first | exact Or.inl rfl | exact Or.inr rfl) (de_cal C_law_draw hr (by first | omega | exact Nat.le_refl _) hgd (by rfl) (dc_ref (pv 0) (dc_valF (p := false) (de_val (pv 3)) dc_nil))) (by decide))
    (dss_cons (ds_setF (p := false) (i := 7) S.nd rfl (by first | exact Or.inl rfl | exact Or.inr rfl) (de_tup (da_cons (de_val (pv 6)) (da_cons (de_EE (b2_op op_mod) sI (de_EE (b2_op opAdd) sAdd (de_EE (b2_op opAdd) sAdd (de_val (pv 6)) de_int) (de_cal C_law_draw hr (by first | omega | exact Nat.le_refl _) hgd (by rfl) (dc_ref (pv 0) (dc_valF (p := false) (de_EE (b2_op op_sub) sI0 (de_val (pv 3)) de_int) dc_nil)))) (de_val (pv 3))) da_nil))) (by decide))
    (dss_cons (ds_if (p := false) (DW.dt (dw_and (dt_NE (t2_cmp (op_neD hr.units) (nomark _)) sNe (pv 4) (de_lst da_nil)) (dw_and1 (dt_EE (t2_cmp (op_eqD hr.units) (nomark _)) sEq (de_cal C_law_draw hr (by first | omega | exact Nat.le_refl _) hgd (by rfl) (dc_ref (pv 0) (dc_valF (p := false) de_int dc_nil))) de_int)))) (dss_one (ds_setF (p := false) (i := 7) S.nd rfl (by first | exact Or.inl rfl | exact Or.inr rfl) (de_rev (de_NE (b2_ix ix_seq fun _ _ => rfl) sIx (pv 4) (de_cal C_law_draw hr (by first | omega | exact Nat.le_refl _) hgd (by rfl) (dc_ref (pv 0) (dc_valF (p := false) (de_cbB (cs_B call_len (by rfl) T.b_len (by decide +kernel)) sLen (dab_cons (db_name (pv 4)) dab_nil)) dc_nil))))) (by decide))) dss_nil)
    (dss_one (ds_expr (p := false) (de_appN (p := false) (kf := false) (pv 4) (de_val (pv 7)))))))))
    (dss_one (ds_ret (p := false) (de_tup (da_cons (de_val (pv 3)) (da_cons (de_var (pv 4)) da_nil)))))))))
theorem sc_law_alike : FnScope ["found", "due", "k"] ["found", "due"] (defScope s_law_alike) := ⟨rfl, rfl, rfl, by decide +kernel, rfl, by decide +kernel, by decide +kernel⟩
theorem ok_law_alike {a : Addr} {fd : FuncData} (G : Fun K "_law_alike" "_law_alike" s_law_alike a fd) (hm : mg "_law_alike" = some (.ref a)) (T : Txt mg)  : ∀ n : Nat, Cal P w K mg base (1 + n) "_law_alike" s_law_alike ["found", "due"] (F_law_alike n)
  | 0 => .mk' G hm (G.binds fun _ _ _ _ _ _ us hl => match us, hl with | [_, _], _ => rfl) (fn_data0)
  | n + 1 => .mk' G hm (G.binds fun _ _ _ _ _ _ us hl => match us, hl with | [_, _], _ => rfl) (fn_data G sc_law_alike rfl rfl fun cdv A outer s H E hr hgd => by
    have S := sc_law_alike
    have C_law_alike := ok_law_alike G hm T  n
    exact (dss_cons (ds_if (p := false) (dt_val (de_cb (cs_B call_isiS (by rfl) T.b_isinstance (by decide +kernel)) sIsi (da_cons (de_val (pv 1)) (da_cons (de_tup (da_cons (de_ty (by rfl) T.b_list (by decide +kernel)) (da_cons (de_ty (by rfl) T.b_tuple (by decide +kernel)) da_nil))) da_nil)))) (dss_cons (ds_if (p := false) (DW.dt (dw_or (dt_not (dt_val (de_cb (cs_B call_isiS (by rfl) T.b_isinstance (by decide +kernel)) sIsi (da_cons (de_val (pv 0)) (da_cons (de_tup (da_cons (de_ty (by rfl) T.b_list (by decide +kernel)) (da_cons (de_ty (by rfl) T.b_tuple (by decide +kernel)) da_nil))) da_nil))))) (dw_or1 (dt_EE (t2_cmp (op_neD hr.units) (nomark _)) sNe (de_cb (cs_B call_isiS (by rfl) T.b_isinstance (by decide +kernel)) sIsi (da_cons (de_val (pv 0)) (da_cons (de_ty (by rfl) T.b_list (by decide +kernel)) da_nil))) (de_cb (cs_B call_isiS (by rfl) T.b_isinstance (by decide +kernel)) sIsi (da_cons (de_val (pv 1)) (da_cons (de_ty (by rfl) T.b_list (by decide +kernel)) da_nil))))))) (dss_one (ds_ret (p := false) de_bl)) dss_nil)
    (dss_one (ds_ret (p := false) (de_and (de_EE (b2_cmp (op_eqD hr.units) (nomark _)) sEq (de_cb (cs_B call_len (by rfl) T.b_len (by decide +kernel)) sLen (da_cons (de_val (pv 0)) da_nil)) (de_cb (cs_B call_len (by rfl) T.b_len (by decide +kernel)) sLen (da_cons (de_val (pv 1)) da_nil))) (de_one (de_cb (cs_B (cr_all rfl) (by rfl) T.b_all (by decide +kernel)) sBs (da_cons (de_lc (own := [("k", 2)]) false rfl S.nd (di_range (by rfl) T.b_range (da_cons (de_cb (cs_B call_len (by rfl) T.b_len (by decide +kernel)) sLen (da_cons (de_val (pv 1)) da_nil)) da_nil)) (blkOk_by (own := [("k", 2)]) (N := ["found", "due", "k"]) (sc := defScope s_law_alike) (by decide +kernel)) (fun _ _ _ _ _ => (dg_name (pg_name (i := 2) S.nd rfl (by first | exact Or.inl rfl | exact Or.inr rfl)) (not_outK (by decide)))) (fun _ _ _ _ _ => dts_nil) (fun _ _ _ _ _ => (de_cal C_law_alike hr (by first | omega | exact Nat.le_refl _) hgd (by rfl) (dc_valF (p := false) (de_EE (b2_ix ix_seq fun _ _ => rfl) sIx (de_val (pv 0)) (de_val (pv 2))) (dc_valF (p := false) (de_EE (b2_ix ix_seq fun _ _ => rfl) sIx (de_val (pv 1)) (de_val (pv 2))) dc_nil))))) da_nil))))))) dss_nil)
    (dss_cons (ds_if (p := false) (DW.dt (dw_or (dt_val (de_cb (cs_B call_isiS (by rfl) T.b_isinstance (by decide +kernel)) sIsi (da_cons (de_val (pv 1)) (da_cons (de_ty (by rfl) T.b_bool (by decide +kernel)) da_nil)))) (dw_or1 (dt_val (de_cb (cs_B call_isiS (by rfl) T.b_isinstance (by decide +kernel)) sIsi (da_cons (de_val (pv 0)) (da_cons (de_ty (by rfl) T.b_bool (by decide +kernel)) da_nil))))))) (dss_one (ds_ret (p := false) (de_and (de_cb (cs_B call_isiS (by rfl) T.b_isinstance (by decide +kernel)) sIsi (da_cons (de_val (pv 1)) (da_cons (de_ty (by rfl) T.b_bool (by decide +kernel)) da_nil))) (de_and (de_cb (cs_B call_isiS (by rfl) T.b_isinstance (by decide +kernel)) sIsi (da_cons (de_val (pv 0)) (da_cons (de_ty (by rfl) T.b_bool (by decide +kernel)) da_nil))) (de_one (de_EE (b2_cmp (op_eqD hr.units) (nomark _)) sEq (de_val (pv 0)) (de_val (pv 1)))))))) dss_nil)
    (dss_cons (ds_if (p := false) (DW.dt (dw_or (dt_val (de_cb (cs_B call_isiS (by rfl) T.b_isinstance (by decide +kernel)) sIsi (da_cons (de_val (pv 1)) (da_cons (de_ty (by rfl) T.b_str (by decide +kernel)) da_nil)))) (dw_or1 (dt_val (de_cb (cs_B call_isiS (by rfl) T.b_isinstance (by decide +kernel)) sIsi (da_cons (de_val (pv 0)) (da_cons (de_ty (by rfl) T.b_str (by decide +kernel)) da_nil))))))) (dss_one (ds_ret (p := false) (de_and (de_cb (cs_B call_isiS (by rfl) T.b_isinstance (by decide +kernel)) sIsi (da_cons (de_val (pv 1)) (da_cons (de_ty (by rfl) T.b_str (by decide +kernel)) da_nil))) (de_and (de_cb (cs_B call_isiS (by rfl) T.b_isinstance (by decide +kernel)) sIsi (da_cons (de_val (pv 0)) (da_cons (de_ty (by rfl) T.b_str (by decide +kernel)) da_nil))) (de_one (de_EE (b2_cmp (op_eqD hr.units) (nomark _)) sEq (de_val (pv 0)) (de_val (pv 1)))))))) dss_nil)
    (dss_one (ds_ret (p := false) (de_and (de_cb (cs_B call_isiS (by rfl) T.b_isinstance (by decide +kernel)) sIsi (da_cons (de_val (pv 0)) (da_cons (de_ty (by rfl) T.b_int (by decide +kernel)) da_nil))) (de_one (de_EE (b2_cmp (op_eqD hr.units) (nomark _)) sEq (de_val (pv 0)) (de_val (pv 1)))))))))))
theorem sc_law_spelt : FnScope ["rooms", "doors", "line", "one", "other"] ["rooms", "doors"] (defScope s_law_spelt) := ⟨rfl, rfl, rfl, by decide +kernel, rfl, by decide +kernel, by decide +kernel⟩
theorem ok_law_spelt {a : Addr} {fd : FuncData} (G : Fun K "_law_spelt" "_law_spelt" s_law_spelt a fd) (hm : mg "_law_spelt" = some (.ref a)) (T : Txt mg)  : Cal P w K mg base 1 "_law_spelt" s_law_spelt ["rooms", "doors"] F_law_spelt :=
  .mk' G hm (G.binds fun _ _ _ _ _ _ us hl => match us, hl with | [_, _], _ => rfl) (fn_data G sc_law_spelt rfl rfl fun cdv A outer s H E hr hgd => by
    have S := sc_law_spelt
    exact (dss_cons (ds_setF (p := false) (i := 2) S.nd rfl (by first | exact Or.inl rfl | exact Or.inr rfl) (de_EE (b2_op opAdd) sAdd de_str (de_cb (cs_T call_str_int (by rfl) T.b_str (by decide +kernel)) sStr (da_cons (de_val (pv 0)) da_nil))) (by decide))
    (dss_cons (ds_for (p := false) PassesOwn.never rfl (di_seq (de_val (pv 1))) (dg_tup rfl (dgs_cons (dg_fz (pg_name (i := 3) S.nd rfl (by first | exact Or.inl rfl | exact Or.inr rfl)) (by decide)) (dgs_cons (dg_fz (pg_name (i := 4) S.nd rfl (by first | exact Or.inl rfl | exact Or.inr rfl)) (by decide)) dgs_nil))) (dss_one (ds_setF (p := false) (i := 2) S.nd rfl (by first | exact Or.inl rfl | exact Or.inr rfl) (de_EE (b2_op opAdd) sAdd (de_EE (b2_op opAdd) sAdd (de_EE (b2_op opAdd) sAdd (de_EE (b2_op opAdd) sAdd (de_EE (b2_op opAdd) sAdd (de_val (pv 2)) de_str) de_str) (de_cb (cs_T call_str_int (by rfl) T.b_str (by decide +kernel)) sStr (da_cons (de_val (pv 3)) da_nil))) de_str) (de_cb (cs_T call_str_int (by rfl) T.b_str (by decide +kernel)) sStr (da_cons (de_val (pv 4)) da_nil))) (by decide))))
    (dss_one (ds_ret (p := false) (de_val (pv 2)))))))
theorem sc_law_otherwise : FnScope ["bag", "site", "rooms", "doors", "way", "at", "pair"] ["bag", "site"] (defScope s_law_otherwise) := ⟨rfl, rfl, rfl, by decide +kernel, rfl, by decide +kernel, by decide +kernel⟩
theorem ok_law_otherwise {a : Addr} {fd : FuncData} (G : Fun K "_law_otherwise" "_law_otherwise" s_law_otherwise a fd) (hm : mg "_law_otherwise" = some (.ref a)) (T : Txt mg) (C_law_draw : Cal P w K mg base 1 "_law_draw" s_law_draw ["bag", "many"] F_law_draw) : Cal P w K mg base 2 "_law_otherwise" s_law_otherwise ["bag", "site"] F_law_otherwise :=
  .mk' G hm (G.binds fun _ _ _ _ _ _ us hl => match us, hl with | [_, _], _ => rfl) (fn_data G sc_law_otherwise rfl rfl fun cdv A outer s H E hr hgd => by
    have S := sc_law_otherwise
    exact (dss_cons (ds_asg (p := false) (de_val (pv 1)) (dg_tup rfl (dgs_cons (dg_fz (pg_name (i := 2) S.nd rfl (by first | exact Or.inl rfl | exact Or.inr rfl)) (by decide)) (dgs_cons (dg_fz (pg_name (i := 3) S.nd rfl (by first | exact Or.inl rfl | exact Or.inr rfl)) (by decide)) dgs_nil))))
    (dss_cons (ds_setF (p := false) (i := 4) S.nd rfl (by first | exact Or.inl rfl | exact Or.inr rfl) (de_cal C_law_draw hr (by first | omega | exact Nat.le_refl _) hgd (by rfl) (dc_ref (pv 0) (dc_valF (p := false) de_int dc_nil))) (by decide))
    (dss_cons (ds_setF (p := false) (i := 5) S.nd rfl (by first | exact Or.inl rfl | exact Or.inr rfl) (de_cal C_law_draw hr (by first | omega | exact Nat.le_refl _) hgd (by rfl) (dc_ref (pv 0) (dc_valF (p := false) (de_cb (cs_B (call_max2 rfl) (by rfl) T.b_max (by decide +kernel)) sI2 (da_cons de_int (da_cons (de_cb (cs_B call_len (by rfl) T.b_len (by decide +kernel)) sLen (da_cons (de_val (pv 3)) da_nil)) da_nil))) dc_nil))) (by decide))
    (dss_cons (ds_if (p := false) (dt_EE (t2_cmp (op_eqD hr.units) (nomark _)) sEq (de_val (pv 4)) de_int) (dss_one (ds_ret (p := false) (de_tup (da_cons (de_val (pv 2)) (da_cons (de_EE (b2_op opAdd) sAdd (de_slice (de_val (pv 3)) (do_so (de_val (pv 5))) do_no) (de_slice (de_val (pv 3)) do_no (do_so (de_val (pv 5))))) da_nil))))) dss_nil)
    (dss_cons (ds_if (p := false) (dt_EE (t2_cmp (op_eqD hr.units) (nomark _)) sEq (de_val (pv 4)) de_int) (dss_one (ds_ret (p := false) (de_tup (da_cons (de_val (pv 2)) (da_cons (de_EE (b2_op opAdd) sAdd (de_EE (b2_op opAdd) sAdd (de_slice (de_val (pv 3)) do_no (do_so (de_val (pv 5)))) (de_lc (own := [("pair", 6)]) false rfl S.nd (di_seq (de_slice (de_val (pv 3)) (do_so (de_val (pv 5))) (do_so (de_EE (b2_op opAdd) sAdd (de_val (pv 5)) de_int)))) (blkOk_by (own := [("pair", 6)]) (N := ["bag", "site", "rooms", "doors", "way", "at", "pair"]) (sc := defScope s_law_otherwise) (by decide +kernel)) (fun _ _ _ _ _ => (dg_name (pg_name (i := 6) S.nd rfl (by first | exact Or.inl rfl | exact Or.inr rfl)) (not_outK (by decide)))) (fun _ _ _ _ _ => dts_nil) (fun _ _ _ _ _ => (de_rev (de_val (pv 6)))))) (de_slice (de_val (pv 3)) (do_so (de_EE (b2_op opAdd) sAdd (de_val (pv 5)) de_int)) do_no)) da_nil))))) dss_nil)
    (dss_cons (ds_if (p := false) (dt_EE (t2_cmp (op_eqD hr.units) (nomark _)) sEq (de_val (pv 4)) de_int) (dss_one (ds_ret (p := false) (de_tup (da_cons (de_val (pv 2)) (da_cons (de_EE (b2_op opAdd) sAdd (de_slice (de_val (pv 3)) do_no (do_so (de_val (pv 5)))) (de_slice (de_val (pv 3)) (do_so (de_EE (b2_op opAdd) sAdd (de_val (pv 5)) de_int)) do_no)) da_nil))))) dss_nil)
    (dss_one (ds_ret (p := false) (de_tup (da_cons (de_cb (cs_B (call_min2 rfl) (by rfl) T.b_min (by decide +kernel)) sI2 (da_cons de_int (da_cons (de_EE (b2_op opAdd) sAdd (de_val (pv 2)) de_int) da_nil))) (da_cons (de_cb (cs_T call_list_of (by rfl) T.b_list (by decide +kernel)) sList (da_cons (de_val (pv 3)) da_nil)) da_nil))))))))))))
theorem sc_law_right : FnScope ["site", "rooms", "doors", "line", "handed", "found"] ["site"] (defScope s_law_right) := ⟨rfl, rfl, rfl, by decide +kernel, rfl, by decide +kernel, by decide +kernel⟩
theorem ok_law_right {a : Addr} {fd : FuncData} (G : Fun K "_law_right" "_law_right" s_law_right a fd) (hm : mg "_law_right" = some (.ref a)) (T : Txt mg) (C_law_spelt : Cal P w K mg base 1 "_law_spelt" s_law_spelt ["rooms", "doors"] F_law_spelt) (C_law_alike : Cal P w K mg base 5 "_law_alike" s_law_alike ["found", "due"] (F_law_alike 4)) (C_written : Cal P w K mg base 1 "written" s_written ["house"] F_written) (C_read : Cal P w K mg base 4 "read" s_read ["text"] F_read) : Cal P w K mg base 6 "_law_right" s_law_right ["site"] F_law_right :=
  .mk' G hm (G.binds fun _ _ _ _ _ _ us hl => match us, hl with | [_], _ => rfl) (fn_data G sc_law_right rfl rfl fun cdv A outer s H E hr hgd => by
    have S := sc_law_right
    exact (dss_cons (ds_asg (p := false) (de_val (pv 0)) (dg_tup rfl (dgs_cons (dg_fz (pg_name (i := 1) S.nd rfl (by first | exact Or.inl rfl | exact Or.inr rfl)) (by decide)) (dgs_cons (dg_fz (pg_name (i := 2) S.nd rfl (by first | exact Or.inl rfl | exact Or.inr rfl)) (by decide)) dgs_nil))))
    (dss_cons (ds_setF (p := false) (i := 3) S.nd rfl (by first | exact Or.inl rfl | exact Or.inr rfl) (de_cal C_law_spelt hr (by first | omega | exact Nat.le_refl _) hgd (by rfl) (dc_valF (p := false) (de_val (pv 1)) (dc_valF (p := false) (de_val (pv 2)) dc_nil))) (by decide))
    (dss_cons (ds_setF (p := false) (i := 4) S.nd rfl (by first | exact Or.inl rfl | exact Or.inr rfl) (de_tup (da_cons (de_val (pv 1)) (da_cons (de_cb (cs_T call_list_of (by rfl) T.b_list (by decide +kernel)) sList (da_cons (de_val (pv 2)) da_nil)) da_nil))) (by decide))
    (dss_cons (ds_if (p := false) (DW.dt (dw_or (dt_not (dt_tru (de_cal C_law_alike hr (by first | omega | exact Nat.le_refl _) hgd (by rfl) (dc_valF (p := false) (de_cal C_written hr (by first | omega | exact Nat.le_refl _) hgd (by rfl) (dc_valF (p := false) (de_val (pv 4)) dc_nil)) (dc_valF (p := false) (de_val (pv 3)) dc_nil))) fun _ => rfl)) (dw_or (dt_not (dt_tru (de_cal C_law_alike hr (by first | omega | exact Nat.le_refl _) hgd (by rfl) (dc_valF (p := false) (de_calK0 (ks := ["house"]) (perm := [0]) C_written hr (by first | omega | exact Nat.le_refl _) hgd (by rfl) (dck_valF (p := false) (de_val (pv 4)) dck_nil) (fun _ _ _ _ _ _ us ws h1 h2 => match us, ws, h1, h2 with | [], [_], _, _ => rfl)) (dc_valF (p := false) (de_val (pv 3)) dc_nil))) fun _ => rfl)) (dw_or1 (dt_EE (t2_cmp (op_neD hr.units) (nomark _)) sNe (de_val (pv 4)) (de_val (pv 0))))))) (dss_one (ds_ret (p := false) de_bl)) dss_nil)
    (dss_cons (ds_set (p := false) (i := 5) S.nd rfl (by first | exact Or.inl rfl | exact Or.inr rfl) (de_cal C_read hr (by first | omega | exact Nat.le_refl _) hgd (by rfl) (dc_valF (p := false) (de_val (pv 3)) dc_nil)) (by decide))
    (dss_cons (ds_if (p := false) (dt_not (dt_tru (de_view (q := false) (de_cal C_law_alike hr (by first | omega | exact Nat.le_refl _) hgd (by rfl) (dc_valF (p := false) (de_val (pv 5)) (dc_valF (p := false) (de_val (pv 0)) dc_nil)))) fun _ => rfl)) (dss_one (ds_ret (p := false) de_bl)) dss_nil)
    (dss_cons (ds_expr (p := false) (de_appP (kf := false) (dm_ix2 (dm_name (pv 5)) de_int fun _ _ => rfl) (de_tup (da_cons de_int (da_cons de_int da_nil)))))
    (dss_one (ds_ret (p := false) (de_and (de_cal C_law_alike hr (by first | omega | exact Nat.le_refl _) hgd (by rfl) (dc_valF (p := false) (de_calK0 (ks := ["text"]) (perm := [0]) C_read hr (by first | omega | exact Nat.le_refl _) hgd (by rfl) (dck_valF (p := false) (de_val (pv 3)) dck_nil) (fun _ _ _ _ _ _ us ws h1 h2 => match us, ws, h1, h2 with | [], [_], _, _ => rfl)) (dc_valF (p := false) (de_val (pv 0)) dc_nil))) (de_one (de_EE (b2_cmp (op_eqD hr.units) (nomark _)) sEq (de_cal C_written hr (by first | omega | exact Nat.le_refl _) hgd (by rfl) (dc_valF (p := false) (de_cal C_read hr (by first | omega | exact Nat.le_refl _) hgd (by rfl) (dc_valF (p := false) (de_val (pv 3)) dc_nil)) dc_nil)) (de_val (pv 3)))))))))))))))
theorem sc_law : FnScope ["script", "bag", "k", "site", "other"] ["script"] (defScope s_law) := ⟨rfl, rfl, rfl, by decide +kernel, rfl, by decide +kernel, by decide +kernel⟩
theorem ok_law_fn {a : Addr} {fd : FuncData} (G : Fun K "law" "law" s_law a fd) (T : Txt mg) (C_law_bag : Cal P w K mg base 1 "_law_bag" s_law_bag ["script"] F_law_bag) (C_law_ground : Cal P w K mg base 2 "_law_ground" s_law_ground ["bag", "most", "wide"] F_law_ground) (C_law_otherwise : Cal P w K mg base 2 "_law_otherwise" s_law_otherwise ["bag", "site"] F_law_otherwise) (C_law_right : Cal P w K mg base 6 "_law_right" s_law_right ["site"] F_law_right) (C_written : Cal P w K mg base 1 "written" s_written ["house"] F_written) : FnG P w K mg base CX0 7 a fd ["script"] (spD K F_law) :=
  fn_data G sc_law rfl rfl fun cdv A outer s H E hr hgd => by
    have S := sc_law
    exact (dss_cons (ds_set (p := false) (i := 1) S.nd rfl (by first | exact Or.inl rfl | exact Or.inr rfl) (de_cal C_law_bag hr (by first | omega | exact Nat.le_refl _) hgd (by rfl) (dc_valF (p := false) (de_val (pv 0)) dc_nil)) (by decide))
    (dss_cons (ds_for (p := false) PassesOwn.never rfl (di_range (by rfl) T.b_range (da_cons de_int da_nil)) (dg_fz (pg_name (i := 2) S.nd rfl (by first | exact Or.inl rfl | exact Or.inr rfl)) (by decide)) (dss_cons (ds_setF (p := false) (i := 3) S.nd rfl (by first | exact Or.inl rfl | exact Or.inr rfl) (de_cal C_law_ground hr (by first | omega | exact Nat.le_refl _) hgd (by rfl) (dc_ref (pv 1) (dc_valF (p := false) de_int (dc_valF (p := false) de_int dc_nil)))) (by decide))
    (dss_cons (ds_setF (p := false) (i := 4) S.nd rfl (by first | exact Or.inl rfl | exact Or.inr rfl) (de_cal C_law_otherwise hr (by first | omega | exact Nat.le_refl _) hgd (by rfl) (dc_ref (pv 1) (dc_valF (p := false) (de_val (pv 3)) dc_nil))) (by decide))
    (dss_cons (ds_if (p := false) (DW.dt (dw_or (dt_not (dt_tru (de_cal C_law_right hr (by first | omega | exact Nat.le_refl _) hgd (by rfl) (dc_valF (p := false) (de_val (pv 3)) dc_nil)) fun _ => rfl)) (dw_or1 (dt_not (dt_tru (de_cal C_law_right hr (by first | omega | exact Nat.le_refl _) hgd (by rfl) (dc_valF (p := false) (de_val (pv 4)) dc_nil)) fun _ => rfl))))) (dss_one (ds_ret (p := false) de_bl)) dss_nil)
    (dss_one (ds_if (p := false) (dt_EE (t2_cmp (op_neD hr.units) (nomark _)) sNe (de_EE (b2_cmp (op_eqD hr.units) (nomark _)) sEq (de_cal C_written hr (by first | omega | exact Nat.le_refl _) hgd (by rfl) (dc_valF (p := false) (de_val (pv 3)) dc_nil)) (de_cal C_written hr (by first | omega | exact Nat.le_refl _) hgd (by rfl) (dc_valF (p := false) (de_val (pv 4)) dc_nil))) (de_EE (b2_cmp (op_eqD hr.units) (nomark _)) sEq (de_val (pv 3)) (de_val (pv 4)))) (dss_one (ds_ret (p := false) de_bl)) dss_nil))))))
    (dss_one (ds_ret (p := false) de_bl))))
end
theorem all_mk {l : PySem.W.OpenLaw} {w : World} {K : PySem.W.Frag} {h : Heap} {mg : Str → Option Value} {fa : Addr} (X : K.In h) (G : h.Ns mainGlobals mg) (hfa : mg "law" = some (.ref fa))
    {f1 f2 f3 f4 f5 f6 f7 f8 f9 f10 f11 f12 f13 : Addr} {od1 od2 od3 od4 od5 od6 od7 od8 od9 od10 od11 od12 od13 an1 an2 an3 an4 an5 an6 an7 an8 an9 an10 an11 an12 an13 : Option Addr} {sl1 sl2 sl3 sl4 sl5 sl6 sl7 sl8 sl9 sl10 sl11 sl12 sl13 : Array (Option Value)} {oc1 kV1 dc1 pm1 cd1 ct1 oc2 kV2 dc2 pm2 cd2 ct2 oc3 kV3 dc3 pm3 cd3 ct3 oc4 kV4 dc4 pm4 cd4 ct4 oc5 kV5 dc5 pm5 cd5 ct5 oc6 kV6 dc6 pm6 cd6 ct6 oc7 kV7 dc7 pm7 cd7 ct7 oc8 kV8 dc8 pm8 cd8 ct8 oc9 kV9 dc9 pm9 cd9 ct9 oc10 kV10 dc10 pm10 cd10 ct10 oc11 kV11 dc11 pm11 cd11 ct11 oc12 kV12 dc12 pm12 cd12 ct12 oc13 kV13 dc13 pm13 cd13 ct13 : Value}
    (a1 : PySem.W.nsIn K mainGlobals "number_written" = some (some (.ref f1))) (l1 : K.lookup f1 = some ⟨oc1, od1, .func (PySem.W.fnOf "number_written" "number_written" (defArgs s_number_written) (defBody s_number_written) (defScope s_number_written) .none kV1 dc1 pm1 an1 cd1 ct1), sl1⟩) (c1 : PySem.W.codeIn K cd1 "number_written" = true) (k1 : PySem.W.keepIn K (.ref f1) = true)
    (a2 : PySem.W.nsIn K mainGlobals "row_read" = some (some (.ref f2))) (l2 : K.lookup f2 = some ⟨oc2, od2, .func (PySem.W.fnOf "row_read" "row_read" (defArgs s_row_read) (defBody s_row_read) (defScope s_row_read) .none kV2 dc2 pm2 an2 cd2 ct2), sl2⟩) (c2 : PySem.W.codeIn K cd2 "row_read" = true) (k2 : PySem.W.keepIn K (.ref f2) = true)
    (a3 : PySem.W.nsIn K mainGlobals "door_read" = some (some (.ref f3))) (l3 : K.lookup f3 = some ⟨oc3, od3, .func (PySem.W.fnOf "door_read" "door_read" (defArgs s_door_read) (defBody s_door_read) (defScope s_door_read) .none kV3 dc3 pm3 an3 cd3 ct3), sl3⟩) (c3 : PySem.W.codeIn K cd3 "door_read" = true) (k3 : PySem.W.keepIn K (.ref f3) = true)
    (a4 : PySem.W.nsIn K mainGlobals "read" = some (some (.ref f4))) (l4 : K.lookup f4 = some ⟨oc4, od4, .func (PySem.W.fnOf "read" "read" (defArgs s_read) (defBody s_read) (defScope s_read) .none kV4 dc4 pm4 an4 cd4 ct4), sl4⟩) (c4 : PySem.W.codeIn K cd4 "read" = true) (k4 : PySem.W.keepIn K (.ref f4) = true)
    (a5 : PySem.W.nsIn K mainGlobals "written" = some (some (.ref f5))) (l5 : K.lookup f5 = some ⟨oc5, od5, .func (PySem.W.fnOf "written" "written" (defArgs s_written) (defBody s_written) (defScope s_written) .none kV5 dc5 pm5 an5 cd5 ct5), sl5⟩) (c5 : PySem.W.codeIn K cd5 "written" = true) (k5 : PySem.W.keepIn K (.ref f5) = true)
    (a6 : PySem.W.nsIn K mainGlobals "_law_bag" = some (some (.ref f6))) (l6 : K.lookup f6 = some ⟨oc6, od6, .func (PySem.W.fnOf "_law_bag" "_law_bag" (defArgs s_law_bag) (defBody s_law_bag) (defScope s_law_bag) .none kV6 dc6 pm6 an6 cd6 ct6), sl6⟩) (c6 : PySem.W.codeIn K cd6 "_law_bag" = true) (k6 : PySem.W.keepIn K (.ref f6) = true)
    (a7 : PySem.W.nsIn K mainGlobals "_law_draw" = some (some (.ref f7))) (l7 : K.lookup f7 = some ⟨oc7, od7, .func (PySem.W.fnOf "_law_draw" "_law_draw" (defArgs s_law_draw) (defBody s_law_draw) (defScope s_law_draw) .none kV7 dc7 pm7 an7 cd7 ct7), sl7⟩) (c7 : PySem.W.codeIn K cd7 "_law_draw" = true) (k7 : PySem.W.keepIn K (.ref f7) = true)
    (a8 : PySem.W.nsIn K mainGlobals "_law_ground" = some (some (.ref f8))) (l8 : K.lookup f8 = some ⟨oc8, od8, .func (PySem.W.fnOf "_law_ground" "_law_ground" (defArgs s_law_ground) (defBody s_law_ground) (defScope s_law_ground) .none kV8 dc8 pm8 an8 cd8 ct8), sl8⟩) (c8 : PySem.W.codeIn K cd8 "_law_ground" = true) (k8 : PySem.W.keepIn K (.ref f8) = true)
    (a9 : PySem.W.nsIn K mainGlobals "_law_alike" = some (some (.ref f9))) (l9 : K.lookup f9 = some ⟨oc9, od9, .func (PySem.W.fnOf "_law_alike" "_law_alike" (defArgs s_law_alike) (defBody s_law_alike) (defScope s_law_alike) .none kV9 dc9 pm9 an9 cd9 ct9), sl9⟩) (c9 : PySem.W.codeIn K cd9 "_law_alike" = true) (k9 : PySem.W.keepIn K (.ref f9) = true)
    (a10 : PySem.W.nsIn K mainGlobals "_law_spelt" = some (some (.ref f10))) (l10 : K.lookup f10 = some ⟨oc10, od10, .func (PySem.W.fnOf "_law_spelt" "_law_spelt" (defArgs s_law_spelt) (defBody s_law_spelt) (defScope s_law_spelt) .none kV10 dc10 pm10 an10 cd10 ct10), sl10⟩) (c10 : PySem.W.codeIn K cd10 "_law_spelt" = true) (k10 : PySem.W.keepIn K (.ref f10) = true)
    (a11 : PySem.W.nsIn K mainGlobals "_law_otherwise" = some (some (.ref f11))) (l11 : K.lookup f11 = some ⟨oc11, od11, .func (PySem.W.fnOf "_law_otherwise" "_law_otherwise" (defArgs s_law_otherwise) (defBody s_law_otherwise) (defScope s_law_otherwise) .none kV11 dc11 pm11 an11 cd11 ct11), sl11⟩) (c11 : PySem.W.codeIn K cd11 "_law_otherwise" = true) (k11 : PySem.W.keepIn K (.ref f11) = true)
    (a12 : PySem.W.nsIn K mainGlobals "_law_right" = some (some (.ref f12))) (l12 : K.lookup f12 = some ⟨oc12, od12, .func (PySem.W.fnOf "_law_right" "_law_right" (defArgs s_law_right) (defBody s_law_right) (defScope s_law_right) .none kV12 dc12 pm12 an12 cd12 ct12), sl12⟩) (c12 : PySem.W.codeIn K cd12 "_law_right" = true) (k12 : PySem.W.keepIn K (.ref f12) = true)
    (a13 : PySem.W.nsIn K mainGlobals "law" = some (some (.ref f13))) (l13 : K.lookup f13 = some ⟨oc13, od13, .func (PySem.W.fnOf "law" "law" (defArgs s_law) (defBody s_law) (defScope s_law) .none kV13 dc13 pm13 an13 cd13 ct13), sl13⟩) (c13 : PySem.W.codeIn K cd13 "law" = true) (k13 : PySem.W.keepIn K (.ref f13) = true)
    (z_abs : PySem.W.nsIn K mainGlobals "abs" = some none)
    (z_all : PySem.W.nsIn K mainGlobals "all" = some none)
    (z_bool : PySem.W.nsIn K mainGlobals "bool" = some none)
    (z_int : PySem.W.nsIn K mainGlobals "int" = some none)
    (z_isinstance : PySem.W.nsIn K mainGlobals "isinstance" = some none)
    (z_len : PySem.W.nsIn K mainGlobals "len" = some none)
    (z_list : PySem.W.nsIn K mainGlobals "list" = some none)
    (z_max : PySem.W.nsIn K mainGlobals "max" = some none)
    (z_min : PySem.W.nsIn K mainGlobals "min" = some none)
    (z_range : PySem.W.nsIn K mainGlobals "range" = some none)
    (z_str : PySem.W.nsIn K mainGlobals "str" = some none)
    (z_tuple : PySem.W.nsIn K mainGlobals "tuple" = some none)
    {t_MOST_ROOMS : Tok} (d_MOST_ROOMS : PySem.W.nsIn K mainGlobals "MOST_ROOMS" = some (some (.int (10) t_MOST_ROOMS)))
    {t_MOST_DOORS : Tok} (d_MOST_DOORS : PySem.W.nsIn K mainGlobals "MOST_DOORS" = some (some (.int (24) t_MOST_DOORS)))
    {t_MOST_FIGURES : Tok} (d_MOST_FIGURES : PySem.W.nsIn K mainGlobals "MOST_FIGURES" = some (some (.int (9) t_MOST_FIGURES)))
    : ∃ fd : FuncData, (∀ (s : Shared) (v : Value), BindsTo s fd ⟨[v], []⟩ [("script", v)]) ∧ ∀ base : Heap, K.In base → base.Ns mainGlobals mg → FnG l.prog w K mg base CX0 7 fa fd ["script"] (spD K F_lawA) := by
  have T : Txt mg := ⟨PySem.W.mg_none_of X G z_abs, PySem.W.mg_none_of X G z_all, PySem.W.mg_none_of X G z_bool, PySem.W.mg_none_of X G z_int, PySem.W.mg_none_of X G z_isinstance, PySem.W.mg_none_of X G z_len, PySem.W.mg_none_of X G z_list, PySem.W.mg_none_of X G z_max, PySem.W.mg_none_of X G z_min, PySem.W.mg_none_of X G z_range, PySem.W.mg_none_of X G z_str, PySem.W.mg_none_of X G z_tuple, ⟨_, PySem.W.mg_of X G d_MOST_ROOMS⟩, ⟨_, PySem.W.mg_of X G d_MOST_DOORS⟩, ⟨_, PySem.W.mg_of X G d_MOST_FIGURES⟩⟩
  have M1 := PySem.W.mg_of X G a1
  have D1 := fun_mk (st := s_number_written) l1 c1 k1
  have M2 := PySem.W.mg_of X G a2
  have D2 := fun_mk (st := s_row_read) l2 c2 k2
  have M3 := PySem.W.mg_of X G a3
  have D3 := fun_mk (st := s_door_read) l3 c3 k3
  have M4 := PySem.W.mg_of X G a4
  have D4 := fun_mk (st := s_read) l4 c4 k4
  have M5 := PySem.W.mg_of X G a5
  have D5 := fun_mk (st := s_written) l5 c5 k5
  have M6 := PySem.W.mg_of X G a6
  have D6 := fun_mk (st := s_law_bag) l6 c6 k6
  have M7 := PySem.W.mg_of X G a7
  have D7 := fun_mk (st := s_law_draw) l7 c7 k7
  have M8 := PySem.W.mg_of X G a8
  have D8 := fun_mk (st := s_law_ground) l8 c8 k8
  have M9 := PySem.W.mg_of X G a9
  have D9 := fun_mk (st := s_law_alike) l9 c9 k9
  have M10 := PySem.W.mg_of X G a10
  have D10 := fun_mk (st := s_law_spelt) l10 c10 k10
  have M11 := PySem.W.mg_of X G a11
  have D11 := fun_mk (st := s_law_otherwise) l11 c11 k11
  have M12 := PySem.W.mg_of X G a12
  have D12 := fun_mk (st := s_law_right) l12 c12 k12
  have M13 := PySem.W.mg_of X G a13
  have D13 := fun_mk (st := s_law) l13 c13 k13
  have e := hfa.symm.trans M13
  cases e
  refine ⟨PySem.W.fnOf "law" "law" (defArgs s_law) (defBody s_law) (defScope s_law) .none kV13 dc13 pm13 an13 cd13 ct13, fun s v => .of_eq rfl, fun base _ _ => ?_⟩
  have C_number_written := ok_number_written (P := l.prog) (w := w) (base := base) D1 M1 T 
  have C_row_read := ok_row_read (P := l.prog) (w := w) (base := base) D2 M2 T C_number_written
  have C_door_read := ok_door_read (P := l.prog) (w := w) (base := base) D3 M3 T C_row_read
  have C_read := ok_read (P := l.prog) (w := w) (base := base) D4 M4 T C_row_read C_door_read
  have C_written := ok_written (P := l.prog) (w := w) (base := base) D5 M5 T 
  have C_law_bag := ok_law_bag (P := l.prog) (w := w) (base := base) D6 M6 T 
  have C_law_draw := ok_law_draw (P := l.prog) (w := w) (base := base) D7 M7 T 
  have C_law_ground := ok_law_ground (P := l.prog) (w := w) (base := base) D8 M8 T C_law_draw
  have C_law_alike := ok_law_alike (P := l.prog) (w := w) (base := base) D9 M9 T  4
  have C_law_spelt := ok_law_spelt (P := l.prog) (w := w) (base := base) D10 M10 T 
  have C_law_otherwise := ok_law_otherwise (P := l.prog) (w := w) (base := base) D11 M11 T C_law_draw
  have C_law_right := ok_law_right (P := l.prog) (w := w) (base := base) D12 M12 T C_law_spelt C_law_alike C_written C_read
  exact ok_law_fn D13 T C_law_bag C_law_ground C_law_otherwise C_law_right C_written
theorem walk {q : Program} {loose : List Str} {XP : (Str → Option Value) → Heap → Prop} {YP : World → Heap → Prop} {d : DefRec} {K : Params → PySem.W.Frag} {l : PySem.W.OpenLaw} (hn : l.most = some 63) (hdf : d.params.defaults = [])
    (hY : ∀ (w : World) (h : Heap), YP w h → (K w.params).In h) (F : ∀ (w : World) (mg : Str → Option Value) (fa : Addr) (h : Heap), (K w.params).In h → h.Ns mainGlobals mg → mg d.name = some (.ref fa) → ∃ fd : FuncData, (∀ (s : Shared) (u : Value), BindsTo s fd ⟨[u], []⟩ [("script", u)]) ∧
      ∀ base : Heap, (K w.params).In base → base.Ns mainGlobals mg → FnG l.prog w (K w.params) mg base CX0 7 fa fd ["script"] (spD (K w.params) F_lawA)) (hlaw : LawOk 63 F_lawA) :
    PySem.W.WalkO q loose XP YP l.row.toRowW d [] (fun f vs => PySem.call f vs) :=
  walkG (n := 63) (k := 7) (x := "script") (CX := fun _ => CX0) (sp := fun w => spD (K w.params) F_lawA) hn (by decide) hdf ⟨rfl, by decide, by decide⟩ hY F (fun _ H a ns hl _ hS => law_sp hlaw H a ns hl hS) fun _ _ _ _ _ z => z
end LAW_K01

/-! PM: reckoning with data: dI, loops and comprehensions by induction. -/
namespace PL
open PySem L2
/-- dI as data -/
abbrev dI (ns : List Int) : List D := ns.map fun n => D.sc (V.int n)
@[simp] theorem fz_sc (v : V) : (D.sc v).fz = true := rfl
@[simp] theorem frz_sc (v : V) : (D.sc v).frz = .sc v := rfl
@[simp] theorem fzL_dI (ns : List Int) : D.fzL (dI ns) = true := D.fzL_of fun x hx => by
  obtain ⟨n, _, rfl⟩ := List.mem_map.mp hx; rfl
@[simp] theorem frzL_dI (ns : List Int) : D.frzL (dI ns) = dI ns := D.frzL_of_fzL (fzL_dI ns)
@[simp] theorem frzL_nil : D.frzL [] = [] := rfl
@[simp] theorem frzL_cons (x : D) (xs : List D) : D.frzL (x :: xs) = x.frz :: D.frzL xs := rfl
@[simp] theorem fzL_nil : D.fzL [] = true := rfl
@[simp] theorem fzL_cons (x : D) (xs : List D) : D.fzL (x :: xs) = (x.fz && D.fzL xs) := rfl
@[simp] theorem frz_tup (xs : List D) : (D.tup xs).frz = .tup (D.frzL xs) := rfl
@[simp] theorem fz_tup (xs : List D) : (D.tup xs).fz = D.fzL xs := rfl
@[simp] theorem frz_obj (o : Bool) (sh : Sh) (xs : List D) : (D.obj o sh xs).frz = .obj false sh (D.frzL xs) := rfl
@[simp] theorem fz_own (sh : Sh) (xs : List D) : (D.obj true sh xs).fz = false := rfl
@[simp] theorem fz_frzn (sh : Sh) (xs : List D) : (D.obj false sh xs).fz = D.fzL xs := by simp [D.fz]
theorem dI_length (ns : List Int) : (dI ns).length = ns.length := List.length_map ..
theorem dI_get (ns : List Int) (i : Nat) : (dI ns)[i]? = ns[i]?.map fun n => D.sc (V.int n) := List.getElem?_map ..
theorem dI_set (ns : List Int) (i : Nat) (v : Int) : (dI ns).set i (.sc (.int v)) = dI (ns.set i v) := by
  unfold dI; rw [List.map_set]
theorem fzL_map {α : Type} {f : α → D} (h : ∀ x, (f x).fz = true) (xs : List α) : D.fzL (xs.map f) = true := D.fzL_of fun x hx => by
  obtain ⟨n, _, rfl⟩ := List.mem_map.mp hx; exact h n
theorem frzL_mapE {α : Type} {f : α → D} (h : ∀ x, (f x).fz = true) (xs : List α) : D.frzL (xs.map f) = xs.map f := D.frzL_of_fzL (fzL_map h xs)
/-! places -/
theorem ixN_nat {n i : Nat} (h : i < n) : L2.ixN n (i : Int) = some i := by
  unfold L2.ixN
  rw [if_pos (by omega), if_pos (by omega), Int.toNat_natCast]
theorem ixN_of {n : Nat} {i : Int} (h0 : 0 ≤ i) (h : i < n) : L2.ixN n i = some i.toNat := by
  unfold L2.ixN
  rw [if_pos h0, if_pos h]
theorem atI_of {α : Type} {xs : List α} {i : Int} {x : α} (h0 : 0 ≤ i) (h : xs[i.toNat]? = some x) : L2.atI xs i = some x := by
  have hl := (List.getElem?_eq_some_iff.mp h).1
  unfold L2.atI
  rw [ixN_of h0 (by omega)]
  exact h
theorem range_done {n x : Nat} {done rest : List Nat} (e : done ++ x :: rest = List.range n) : x = done.length ∧ done.length < n := by
  have h1 := congrArg (fun l => l[done.length]?) e
  have h2 := congrArg List.length e
  simp at h1 h2
  have h3 : done.length < n := by omega
  rw [List.getElem?_range h3] at h1
  exact ⟨by simpa using h1, h3⟩
/-! loops -/
theorem loopD_ind {α : Type} {g : WG} {wb : WS} (enc : α → D) (all : List α) (I : List α → En → Prop) (RD : EN)
    (step : ∀ done x rest, done ++ x :: rest = all → ∀ env, I done env → ∀ K : En → Prop, (∀ env', I (done ++ [x]) env' → K env') → g (enc x) env fun e1 => wb e1 { RD with nx := K, ct := K, bk := RD.nx })
    (fin : ∀ env', I all env' → RD.nx env') : ∀ (xs done : List α) env, done ++ xs = all → I done env → loopD g wb (xs.map enc) env RD := by
  intro xs
  induction xs with
  | nil =>
    intro done env e h
    rw [List.append_nil] at e; subst e
    exact fin env h
  | cons x xs ih =>
    intro done env e h
    exact step done x xs e env h _ fun env' h' => ih (done ++ [x]) env' (by simpa using e) h'
theorem loopD_all {α : Type} {g : WG} {wb : WS} (enc : α → D) (xs : List α) (I : List α → En → Prop) {RD : EN} {env : En} (h0 : I [] env)
    (step : ∀ done x rest, done ++ x :: rest = xs → ∀ env, I done env → ∀ K : En → Prop, (∀ env', I (done ++ [x]) env' → K env') → g (enc x) env fun e1 => wb e1 { RD with nx := K, ct := K, bk := RD.nx })
    (fin : ∀ env', I xs env' → RD.nx env') : loopD g wb (xs.map enc) env RD := loopD_ind enc xs I RD step fin xs [] env rfl h0
theorem compD_ind {α : Type} {kf : Bool} {vs : List Nat} {g : WG} {wt : WT} {we : WE} (enc : α → D) (I : En → Prop) (f : α → Option D) {R : List D → En → Prop} :
    ∀ (xs : List α) (acc : List D) env, acc.length + xs.length ≤ sizeLine → I env →
    (∀ x ∈ xs, ∀ env, I env → ∀ K : Option D → En → Prop, (∀ env', I env' → K (f x) env') → g (enc x) (wipeE none vs env) fun e1 => wt e1 fun b e2 => if b = true then we e2 fun y e3 => K (some (inK kf y)) e3 else K none e2) →
    (∀ env', I env' → R (acc ++ xs.filterMap f) env') → compD kf vs g wt we (xs.map enc) acc env R := by
  intro xs
  induction xs with
  | nil =>
    intro acc env _ h _ fin
    have := fin env h
    simp only [List.filterMap_nil, List.append_nil] at this
    exact this
  | cons x xs ih =>
    intro acc env hl h step fin
    have h0 := step x (List.mem_cons_self ..) env h (fun o e3 => match o with
      | some y => acc.length < sizeLine ∧ compD kf vs g wt we (xs.map enc) (acc ++ [y]) e3 R
      | none => compD kf vs g wt we (xs.map enc) acc e3 R) ?_
    · exact h0
    · intro env' h'
      cases hf : f x with
      | none =>
        refine ih acc env' (by simp at hl; omega) h' (fun z hz => step z (List.mem_cons_of_mem _ hz)) fun e he => ?_
        have := fin e he
        rwa [List.filterMap_cons_none hf] at this
      | some y =>
        refine ⟨by simp at hl; omega, ih (acc ++ [y]) env' (by simp at hl ⊢; omega) h' (fun z hz => step z (List.mem_cons_of_mem _ hz)) fun e he => ?_⟩
        have := fin e he
        rw [List.filterMap_cons_some hf] at this
        simpa using this
theorem compD_map {α : Type} {kf : Bool} {vs : List Nat} {g : WG} {wt : WT} {we : WE} (enc : α → D) (xs : List α) (I : En → Prop) (f : α → D) {R : List D → En → Prop} {env : En} (hl : xs.length ≤ sizeLine) (h : I env)
    (step : ∀ x ∈ xs, ∀ env, I env → ∀ K : Option D → En → Prop, (∀ env', I env' → K (some (f x)) env') → g (enc x) (wipeE none vs env) fun e1 => wt e1 fun b e2 => if b = true then we e2 fun y e3 => K (some (inK kf y)) e3 else K none e2)
    (fin : ∀ env', I env' → R (xs.map f) env') : compD kf vs g wt we (xs.map enc) [] env R :=
  compD_ind enc I (fun x => some (f x)) xs [] env (by simpa using hl) h step (by
    intro env' h'
    have := fin env' h'
    rwa [← List.filterMap_eq_map] at this)
/-! a comprehension whose values the reckoner chooses: J holds of what is told so far -/
theorem compD_inv {α : Type} {kf : Bool} {vs : List Nat} {g : WG} {wt : WT} {we : WE} (enc : α → D) (J : List α → List D → En → Prop) {R : List D → En → Prop} (all : List α) (hall : all.length ≤ sizeLine)
    (len : ∀ done acc env, J done acc env → acc.length ≤ done.length)
    (step : ∀ done x rest, done ++ x :: rest = all → ∀ acc env, J done acc env → ∀ K : Option D → En → Prop, (∀ env', J (done ++ [x]) acc env' → K none env') → (∀ y env', J (done ++ [x]) (acc ++ [y]) env' → K (some y) env') →
      g (enc x) (wipeE none vs env) fun e1 => wt e1 fun b e2 => if b = true then we e2 fun y e3 => K (some (inK kf y)) e3 else K none e2)
    (fin : ∀ acc env', J all acc env' → R acc env') : ∀ (xs done : List α) acc env, done ++ xs = all → J done acc env → compD kf vs g wt we (xs.map enc) acc env R := by
  intro xs
  induction xs with
  | nil =>
    intro done acc env e h
    rw [List.append_nil] at e; subst e
    exact fin acc env h
  | cons x xs ih =>
    intro done acc env e h
    have hlen := len done acc env h
    have hd : done.length < all.length := by rw [← e]; simp
    exact step done x xs e acc env h (fun o e3 => match o with
      | some y => acc.length < sizeLine ∧ compD kf vs g wt we (xs.map enc) (acc ++ [y]) e3 R
      | none => compD kf vs g wt we (xs.map enc) acc e3 R) (fun env' h' => ih (done ++ [x]) acc env' (by simpa using e) h') fun y env' h' => ⟨by omega, ih (done ++ [x]) (acc ++ [y]) env' (by simpa using e) h'⟩
/-! equality of data -/
theorem shp_int (i : Int) : (D.sc (.int i)).shp = true := rfl
theorem deq_int (i j : Int) : deq (.sc (.int i)) (.sc (.int j)) = decide (i = j) := by
  show (i == j) = _
  exact Bool.beq_eq_decide_eq ..
theorem deq_bl (i j : Bool) : deq (.sc (.bl i)) (.sc (.bl j)) = (i == j) := rfl
theorem shp_bl (i : Bool) : (D.sc (.bl i)).shp = true := rfl
end PL

/-! PO: reckoning with data, continued: what each combinator says, as equations for simp; plain data. -/
namespace PL
open PySem L2
section
variable {R : D → En → Prop} {env : En} {RD : EN} {i n : Nat} {d x y : D} {xs ys : List D} {o o2 : Bool} {k : Int} {b : Bool}
@[simp ↓] theorem e_wC : wC d env R = R d env := rfl
theorem e_wVal : wVal i env R = ∃ d, env[i]? = some (some d) ∧ d.fz = true ∧ R d env := rfl
theorem e_wVar : wVar i env R = ∃ d, env[i]? = some (some d) ∧ R d.frz (env.set i (some d.frz)) := rfl
theorem e_wMove : wMove i env R = ∃ d, env[i]? = some (some d) ∧ R d (env.set i none) := rfl
theorem e_bName {R : D → Prop} : bName i env R = ∃ d, env[i]? = some (some d) ∧ R d := rfl
@[simp ↓] theorem e_bE {w : WE} {R : D → Prop} : bE w env R = w env fun d _ => R d := rfl
@[simp ↓] theorem e_wBin {rd : RD2} {wa wb : WE} : wBin rd wa wb env R = wa env fun x e1 => wb e1 fun y e2 => rd x y fun z => R z e2 := rfl
@[simp ↓] theorem e_wBinEB {rd : RD2} {wa : WE} {wb : WB} : wBinEB rd wa wb env R = wa env fun x e1 => wb e1 fun y => rd x y fun z => R z e1 := rfl
theorem e_wBinNE {rd : RD2} {wb : WE} : wBinNE rd i wb env R = ((∃ x, env[i]? = some (some x)) ∧ wb env fun y e2 => ∃ x, e2[i]? = some (some x) ∧ rd x y fun z => R z e2) := rfl
@[simp ↓] theorem e_wBinBB {rd : RD2} {wa wb : WB} : wBinBB rd wa wb env R = wa env fun x => wb env fun y => rd x y fun z => R z env := rfl
@[simp ↓] theorem e_wBinBE {rd : RD2} {wa : WB} {wb : WE} : wBinBE rd wa wb env R = wa env fun x => wb env fun y _ => rd x y fun z => R z env := rfl
@[simp ↓] theorem e_asB {K : Bool → Prop} : asB (.sc (.bl b)) K = K b := rfl
@[simp ↓] theorem e_asI {K : Int → Prop} : asI (.sc (.int k)) K = K k := rfl
@[simp ↓] theorem e_wTst {w : WE} {R : Bool → En → Prop} : wTst w env R = w env fun d e1 => asB d fun b => R b e1 := rfl
@[simp ↓] theorem e_wTru {w : WE} {R : Bool → En → Prop} : wTru w env R = w env fun d e1 => truD d fun b => R b e1 := rfl
@[simp ↓] theorem e_wAnd {wa wb : WT} {R : Bool → En → Prop} : wAnd wa wb env R = wa env fun c e1 => if c = true then wb e1 R else R false e1 := rfl
@[simp ↓] theorem e_wOr {wa wb : WT} {R : Bool → En → Prop} : wOr wa wb env R = wa env fun c e1 => if c = true then R true e1 else wb e1 R := rfl
@[simp ↓] theorem e_wNot {wa : WT} {R : Bool → En → Prop} : wNot wa env R = wa env fun c e1 => R (!c) e1 := rfl
@[simp ↓] theorem e_wIf {t : WT} {wa wb : WE} : wIf t wa wb env R = t env fun c e1 => if c = true then wa e1 R else wb e1 R := rfl
@[simp ↓] theorem e_wYes {R : Bool → En → Prop} : wYes env R = R true env := rfl
@[simp ↓] theorem e_wAndV {wa wb : WE} : wAndV wa wb env R = wa env fun d e1 => asB d fun c => if c = true then wb e1 R else R (.bl false) e1 := rfl
@[simp ↓] theorem e_wOrV {wa wb : WE} : wOrV wa wb env R = wa env fun d e1 => asB d fun c => if c = true then R (.bl true) e1 else wb e1 R := rfl
@[simp ↓] theorem e_wNotV {w : WE} : wNotV w env R = w env fun d e1 => asB d fun b => R (.bl (!b)) e1 := rfl
@[simp ↓] theorem e_wNeg {w : WE} : wNeg w env R = w env fun d e1 => asI d fun b => R (.int (-b)) e1 := rfl
@[simp ↓] theorem e_wChain {rd rd' : RD2} {wa wb wc : WE} : wChain rd rd' wa wb wc env R = wa env fun x e1 => wb e1 fun y e2 => y.fz = true ∧ rd x y fun z => asB z fun c => if c = true then wc e2 fun u e3 => rd' y u fun z => R z e3 else R (.bl false) e2 := rfl
@[simp ↓] theorem e_wOfB {wb : WB} : wOfB wb env R = wb env fun d => d.fz = true ∧ R d env := rfl
/-! truth -/
@[simp ↓] theorem e_truI {K : Bool → Prop} : truD (.sc (.int k)) K = K (k != 0) := rfl
@[simp ↓] theorem e_truB {K : Bool → Prop} : truD (.sc (.bl b)) K = K b := rfl
@[simp ↓] theorem e_truN {K : Bool → Prop} : truD (.sc .non) K = K false := rfl
@[simp ↓] theorem e_truT {K : Bool → Prop} : truD (.tup xs) K = K (!xs.isEmpty) := rfl
@[simp ↓] theorem e_truL {K : Bool → Prop} : truD (.obj o .lst xs) K = K (!xs.isEmpty) := by simp [truD, isSeq]
/-! operators -/
@[simp ↓] theorem e_add {a b : Int} {R : D → Prop} : rdAdd (.sc (.int a)) (.sc (.int b)) R = R (.sc (.int (a + b))) := rfl
@[simp ↓] theorem e_cat {R : D → Prop} : rdAdd (.obj o .lst xs) (.obj o2 .lst ys) R = (D.fzL xs = true ∧ D.fzL ys = true ∧ xs.length + ys.length ≤ sizeLine ∧ R (.lst true (xs ++ ys))) := rfl
@[simp ↓] theorem e_catT {R : D → Prop} : rdAdd (.tup (x :: xs)) (.tup (y :: ys)) R = (D.fzL (x :: xs) = true ∧ D.fzL (y :: ys) = true ∧ (x :: xs).length + (y :: ys).length ≤ sizeLine ∧ R (.tup ((x :: xs) ++ (y :: ys)))) := rfl
@[simp ↓] theorem e_rdI {C : Int → Int → Prop} {g : Int → Int → V} {a b : Int} {R : D → Prop} : rdI C g (.sc (.int a)) (.sc (.int b)) R = (C a b ∧ R (.sc (g a b))) := rfl
@[simp ↓] theorem e_rdI0 {g : Int → Int → V} {a b : Int} {R : D → Prop} : rdI0 g (.sc (.int a)) (.sc (.int b)) R = R (.sc (g a b)) := rfl
@[simp ↓] theorem e_mul {a b : Int} {R : D → Prop} : rdMul (.sc (.int a)) (.sc (.int b)) R = (PySem.IntMulOk a b ∧ R (.sc (.int (a * b)))) := rfl
@[simp ↓] theorem e_rep {b : Int} {R : D → Prop} : rdMul (.obj o .lst xs) (.sc (.int b)) R = (D.fzL xs = true ∧ -(2 ^ 63) ≤ b ∧ b < 2 ^ 63 ∧ xs.length * b.toNat ≤ sizeLine ∧ R (.lst true (List.replicate b.toNat xs).flatten)) := rfl
@[simp ↓] theorem e_eq {R : D → Prop} : rdEq x y R = (x.shp = true ∧ y.shp = true ∧ R (.bl (deq x y))) := rfl
@[simp ↓] theorem e_ne {R : D → Prop} : rdNe x y R = (x.shp = true ∧ y.shp = true ∧ R (.bl (!deq x y))) := rfl
@[simp ↓] theorem e_is {R : D → Prop} : rdIs x (.sc .non) R = R (.bl x.isNon) := rfl
@[simp ↓] theorem e_isN {R : D → Prop} : rdIsN x (.sc .non) R = R (.bl (!x.isNon)) := rfl
@[simp ↓] theorem e_isB {a c : Bool} {R : D → Prop} : rdIsB (.sc (.bl a)) (.sc (.bl c)) R = R (.bl (decide (a = c))) := rfl
@[simp ↓] theorem e_notB {a c : Bool} {R : D → Prop} : rdNotB (.sc (.bl a)) (.sc (.bl c)) R = R (.bl (!decide (a = c))) := rfl
@[simp ↓] theorem e_isSeq : isSeq .lst = true := rfl
@[simp ↓] theorem e_isSeq2 : isSeq .sq = true := rfl
@[simp ↓] theorem e_ixL {sh : Sh} {R : D → Prop} : rdIx (.obj o sh xs) (.sc (.int k)) R = (isSeq sh = true ∧ ∃ x, L2.atI xs k = some x ∧ x.fz = true ∧ R x) := rfl
@[simp ↓] theorem e_ixT {R : D → Prop} : rdIx (.tup xs) (.sc (.int k)) R = ∃ x, L2.atI xs k = some x ∧ x.fz = true ∧ R x := rfl
@[simp ↓] theorem e_inL {sh : Sh} {neg : Bool} {R : D → Prop} : rdIn neg x (.obj o sh xs) R = (isSeq sh = true ∧ dIn x xs fun c => R (.bl (if neg then !c else c))) := rfl
@[simp ↓] theorem e_inT {neg : Bool} {R : D → Prop} : rdIn neg x (.tup xs) R = dIn x xs fun c => R (.bl (if neg then !c else c)) := rfl
/-! arguments, displays, builtins -/
@[simp ↓] theorem e_aNil {R : List D → En → Prop} : aNil env R = R [] env := rfl
@[simp ↓] theorem e_aCons {we : WE} {wa : WA} {R : List D → En → Prop} : aCons we wa env R = we env fun d e1 => wa e1 fun ds e2 => R (d :: ds) e2 := rfl
@[simp ↓] theorem e_bNil {R : List D → Prop} : bNil env R = R [] := rfl
@[simp ↓] theorem e_bCons {wb : WB} {wab : WAB} {R : List D → Prop} : bCons wb wab env R = wb env fun d => wab env fun ds => R (d :: ds) := rfl
@[simp ↓] theorem e_wTup {wa : WA} : wTup wa env R = wa env fun ds e1 => ds.length ≤ sizeLine ∧ R (.tup (D.frzL ds)) e1 := rfl
@[simp ↓] theorem e_wLst {wa : WA} : wLst wa env R = wa env fun ds e1 => ds.length ≤ sizeLine ∧ R (.lst true (D.frzL ds)) e1 := rfl
@[simp ↓] theorem e_wLstK {wa : WA} : wLstK wa env R = wa env fun ds e1 => ds.length ≤ sizeLine ∧ R (.lst true ds) e1 := rfl
@[simp ↓] theorem e_wCB {rd : RDA} {wa : WA} : wCB rd wa env R = wa env fun ds e1 => rd ds fun z => R z e1 := rfl
@[simp ↓] theorem e_wCBB {rd : RDA} {wa : WAB} : wCBB rd wa env R = wa env fun ds => rd ds fun z => R z env := rfl
@[simp ↓] theorem e_len {sh : Sh} {R : D → Prop} : rdLen [.obj o sh xs] R = (isSeq sh = true ∧ R (.int xs.length)) := rfl
@[simp ↓] theorem e_lenT {R : D → Prop} : rdLen [.tup xs] R = R (.int xs.length) := rfl
@[simp ↓] theorem e_rdI1 {g : Int → V} {a : Int} {R : D → Prop} : rdI1 g [.sc (.int a)] R = R (.sc (g a)) := rfl
@[simp ↓] theorem e_rdI2 {g : Int → Int → V} {a b : Int} {R : D → Prop} : rdI2 g [.sc (.int a), .sc (.int b)] R = R (.sc (g a b)) := rfl
@[simp ↓] theorem e_int1I {R : D → Prop} : rdInt1 [.sc (.int k)] R = R (.int k) := rfl
@[simp ↓] theorem e_int1B {R : D → Prop} : rdInt1 [.sc (.bl b)] R = R (.int (if b then 1 else 0)) := rfl
@[simp ↓] theorem e_list {sh : Sh} {R : D → Prop} : rdList [.obj o sh xs] R = (isSeq sh = true ∧ D.fzL xs = true ∧ R (.lst true xs)) := rfl
@[simp ↓] theorem e_listT {R : D → Prop} : rdList [.tup xs] R = (D.fzL xs = true ∧ R (.lst true xs)) := rfl
@[simp ↓] theorem e_tuple {sh : Sh} {R : D → Prop} : rdTuple [.obj o sh xs] R = (isSeq sh = true ∧ D.fzL xs = true ∧ R (.tup xs)) := rfl
theorem map_inj {α β : Type} {f : α → β} (hi : ∀ x y, f x = f y → x = y) : ∀ {a b : List α}, a.map f = b.map f → a = b
  | [], [], _ => rfl
  | [], _ :: _, h => by simp at h
  | _ :: _, [], h => by simp at h
  | x :: a, y :: b, h => by
    simp only [List.map_cons, List.cons.injEq] at h
    rw [hi _ _ h.1, map_inj hi h.2]
theorem map_int_inj {a b : List Int} (h : a.map (fun n => D.sc (V.int n)) = b.map fun n => D.sc (V.int n)) : a = b :=
  map_inj (fun x y e => by injection e with e; injection e) h
theorem map_bl_inj {a b : List Bool} (h : a.map (fun n => D.sc (V.bl n)) = b.map fun n => D.sc (V.bl n)) : a = b :=
  map_inj (fun x y e => by injection e with e; injection e) h
theorem e_sum {sh : Sh} {ns : List Int} {R : D → Prop} : rdSum [.obj o sh (dI ns)] R = (isSeq sh = true ∧ R (.int ns.sum)) := by
  apply propext
  constructor
  · rintro ⟨h, ms, e, r⟩
    rw [map_int_inj e]; exact ⟨h, r⟩
  · rintro ⟨h, r⟩; exact ⟨h, ns, rfl, r⟩
theorem sorted_uniq {a b : List Int} (h : a.Perm b) (ha : a.Pairwise (· ≤ ·)) (hb : b.Pairwise (· ≤ ·)) : a = b := h.eq_of_pairwise (fun x y _ _ h1 h2 => Int.le_antisymm h1 h2) ha hb
/-- sorted -/
theorem sorted_of {sh : Sh} {ns ms : List Int} {R : D → Prop} (hs : isSeq sh = true) (hp : ms.Perm ns) (hm : ms.Pairwise (· ≤ ·)) (k : R (.lst true (dI ms))) : rdSorted [.obj o sh (dI ns)] R :=
  ⟨hs, ns, rfl, fun ns' h1 h2 => by rw [show (ns'.map fun n => D.sc (V.int n)) = dI ms from congrArg dI (sorted_uniq (h1.trans hp.symm) h2 hm)]; exact k⟩
theorem e_bs {sh : Sh} {g : List Bool → Bool} {bs : List Bool} {R : D → Prop} : rdBs g [.obj o sh (bs.map fun n => D.sc (V.bl n))] R = (isSeq sh = true ∧ R (.bl (g bs))) := by
  apply propext
  constructor
  · rintro ⟨h, ms, e, r⟩
    rw [map_bl_inj e]; exact ⟨h, r⟩
  · rintro ⟨h, r⟩; exact ⟨h, bs, rfl, r⟩
@[simp] theorem e_all {sh : Sh} {bs : List Bool} {R : D → Prop} : rdAll [.obj o sh (bs.map fun n => D.sc (V.bl n))] R = (isSeq sh = true ∧ R (.bl (bs.all id))) := e_bs
@[simp] theorem e_any {sh : Sh} {bs : List Bool} {R : D → Prop} : rdAny [.obj o sh (bs.map fun n => D.sc (V.bl n))] R = (isSeq sh = true ∧ R (.bl (bs.any id))) := e_bs
/-! slices -/
@[simp ↓] theorem e_oNo {R : Option Int → En → Prop} : oNo env R = R none env := rfl
@[simp ↓] theorem e_oSo {w : WE} {R : Option Int → En → Prop} : oSo w env R = w env fun d e1 => asI d fun i => R (some i) e1 := rfl
@[simp ↓] theorem e_sl {sh : Sh} {lo hi : Option Int} {R : D → Prop} : rdSl (.obj o sh xs) lo hi R = (isSeq sh = true ∧ D.fzL xs = true ∧ R (.lst true (cutD xs lo hi))) := rfl
@[simp ↓] theorem e_slT {lo hi : Option Int} {R : D → Prop} : rdSl (.tup xs) lo hi R = (D.fzL xs = true ∧ ¬ (HT.sIx xs.length 0 lo = 0 ∧ HT.sIx xs.length xs.length hi = xs.length) ∧ R (.tup (cutD xs lo hi))) := rfl
@[simp ↓] theorem e_wSl {we : WE} {wl wh : WO} : wSl we wl wh env R = we env fun d e1 => wl e1 fun l e2 => wh e2 fun h e3 => rdSl d l h fun z => R z e3 := rfl
@[simp ↓] theorem e_wSlB {wb : WB} {wl wh : WO} : wSlB wb wl wh env R = wb env fun d => wl env fun l e2 => wh e2 fun h e3 => rdSl d l h fun z => R z e3 := rfl
@[simp ↓] theorem e_rev {sh : Sh} {R : D → Prop} : rdRev (.obj o sh xs) R = (isSeq sh = true ∧ D.fzL xs = true ∧ R (.lst true xs.reverse)) := rfl
@[simp ↓] theorem e_revT {R : D → Prop} : rdRev (.tup xs) R = (D.fzL xs = true ∧ R (.tup xs.reverse)) := rfl
@[simp ↓] theorem e_wRev {w : WE} : wRev w env R = w env fun d e1 => rdRev d fun z => R z e1 := rfl
@[simp ↓] theorem e_wRevB {w : WB} : wRevB w env R = w env fun d => rdRev d fun z => R z env := rfl
@[simp ↓] theorem e_wView {w : WE} : wView w env R = w (seeE env) fun r _ => outD r = true ∧ R r env := rfl
@[simp] theorem e_seeN : seeE [] = [] := rfl
@[simp] theorem e_see1 : seeE (some d :: env) = some d.frz :: seeE env := rfl
@[simp] theorem e_see0 : seeE (none :: env) = none :: seeE env := rfl
@[simp] theorem e_outS {v : V} : outD (.sc v) = true := rfl
@[simp ↓] theorem e_wRevS {w ws : WE} : wRevS w ws env R = w env fun d e1 => ws e1 fun k e2 => asI k fun kk => rdStep d kk fun z => R z e2 := rfl
@[simp ↓] theorem e_step {R : D → Prop} : rdStep (.tup xs) k R = (D.fzL xs = true ∧ (k = 1 ∨ k = -1) ∧ R (.tup (if k = 1 then xs else xs.reverse))) := rfl
@[simp ↓] theorem e_wListRg {w : WE} : wListRg w env R = w env fun d e1 => asI d fun n => RgOk 0 n ∧ R (.lst true (rng 0 (n - 0).toNat)) e1 := rfl
@[simp ↓] theorem e_wListRg2 {w w2 : WE} : wListRg2 w w2 env R = w env fun d e1 => w2 e1 fun d2 e2 => asI d fun m => asI d2 fun n => RgOk m n ∧ R (.lst true (rng m (n - m).toNat)) e2 := rfl
/-! statements -/
@[simp ↓] theorem e_sNext : sNext env RD = RD.nx env := rfl
@[simp ↓] theorem e_sSeq {w1 w2 : WS} : sSeq w1 w2 env RD = w1 env { RD with nx := fun e1 => w2 e1 RD } := rfl
@[simp ↓] theorem e_sBreak : sBreak env RD = RD.bk env := rfl
@[simp ↓] theorem e_sCont : sCont env RD = RD.ct env := rfl
@[simp ↓] theorem e_sDrop {we : WE} : sDrop we env RD = we env fun _ e1 => RD.nx e1 := rfl
@[simp ↓] theorem e_sRet {we : WE} : sRet we env RD = we env RD.rt := rfl
@[simp ↓] theorem e_sRetN : sRetN env RD = RD.rt .non env := rfl
@[simp ↓] theorem e_sIf {wt : WT} {wa wb : WS} : sIf wt wa wb env RD = wt env fun b e1 => if b = true then wa e1 RD else wb e1 RD := rfl
@[simp ↓] theorem e_sAsg {we : WE} {g : WG} : sAsg we g env RD = we env fun d e1 => g d e1 RD.nx := rfl
theorem e_sAug {rd : RD2} {we : WE} : sAug i rd we env RD = ∃ x, env[i]? = some (some x) ∧ x.fz = true ∧ we env fun y e1 => rd x y fun z => RD.nx (e1.set i (some z)) := rfl
def parK : List D → (D → D → Prop) → Prop
  | [d1, d2], K => K d1 d2
  | _, _ => False
@[simp ↓] theorem e_parK {K : D → D → Prop} : parK [x, y] K = K x y := rfl
@[simp ↓] theorem e_sPar {j : Nat} {wa : WA} : sPar i j wa env RD = wa env fun ds e1 => parK ds fun d1 d2 => gFz i d1 e1 fun e => gFz j d2 e RD.nx := by
  unfold sPar
  congr 1
  funext ds e1
  match ds with
  | [] => rfl
  | [_] => rfl
  | [_, _] => rfl
  | _ :: _ :: _ :: _ => rfl
theorem e_gNm {R : En → Prop} : gNm i d env R = R (env.set i (some d)) := rfl
theorem e_gFz {R : En → Prop} : gFz i d env R = R (env.set i (some d.frz)) := rfl
@[simp ↓] theorem e_gTp {gs : WGs} {R : En → Prop} : gTp n gs (.tup xs) env R = (xs.length = n ∧ gs xs env R) := rfl
@[simp ↓] theorem e_gsNil {R : En → Prop} : gsNil xs env R = (xs = [] ∧ R env) := rfl
@[simp ↓] theorem e_gsCons {g : WG} {gs : WGs} {R : En → Prop} : gsCons g gs (x :: xs) env R = g x env fun e1 => gs xs e1 R := rfl
/-! places -/
theorem e_mName {R : Nat → D → (D → D) → Prop} : mName i env R = ∃ d, env[i]? = some (some d) ∧ R i d id := rfl
@[simp ↓] theorem e_mIx {wm : WM} {wi : WE} {R : Nat → D → (D → D) → Prop} : mIx wm wi env R = wm env fun i d' u => wi env fun k _ => asI k fun kk => match d' with
  | .obj true .lst xs => ∃ j x, L2.ixN xs.length kk = some j ∧ xs[j]? = some x ∧ R i x fun y => u (.lst true (xs.set j y))
  | _ => False := rfl
@[simp ↓] theorem e_inK0 : inK false d = d.frz := rfl
@[simp ↓] theorem e_inK1 : inK true d = d := rfl
@[simp ↓] theorem e_sSetIx {kf : Bool} {we : WE} {wm : WM} {wi : WE} : sSetIx kf we wm wi env RD = we env fun y e1 => wm e1 fun i d' u => wi e1 fun k _ => asI k fun kk => match d' with
  | .obj true .lst xs => ∃ j, L2.ixN xs.length kk = some j ∧ RD.nx (e1.set i (some (u (.lst true (xs.set j (inK kf y))))))
  | _ => False := rfl
@[simp ↓] theorem e_ownL {K : List D → Prop} : ownL (some (some (.obj true .lst xs))) K = K xs := rfl
@[simp ↓] theorem e_ownD {K : List D → Prop} : ownD (.obj true .lst xs) K = K xs := rfl
theorem e_wAppN {kf : Bool} {we : WE} : wAppN kf i we env R = ownL (env[i]?) fun _ => we env fun y e1 => ownL (e1[i]?) fun xs => xs.length < sizeLine ∧ R .non (e1.set i (some (.lst true (xs ++ [inK kf y])))) := rfl
@[simp ↓] theorem e_wAppP {kf : Bool} {wm : WM} {we : WE} : wAppP kf wm we env R = wm env fun i d u => ownD d fun xs => we env fun y e1 => xs.length < sizeLine ∧ R .non (e1.set i (some (u (.lst true (xs ++ [inK kf y]))))) := rfl
@[simp ↓] theorem e_sAugIx {rd : RD2} {wm : WM} {wi we : WE} : sAugIx rd wm wi we env RD = wm env fun i d u => ownD d fun xs => wi env fun k _ => asI k fun kk => ∃ j x, L2.ixN xs.length kk = some j ∧ xs[j]? = some x ∧ x.fz = true ∧
  we env fun y e1 => rd x y fun z => RD.nx (e1.set i (some (u (.lst true (xs.set j z))))) := rfl
@[simp ↓] theorem e_bIx {wb : WB} {wi : WE} {R : D → Prop} : bIx wb wi env R = wb env fun d => wi env fun k _ => asI k fun kk => match d with
  | .obj _ sh xs => isSeq sh = true ∧ ∃ x, L2.atI xs kk = some x ∧ R x
  | .tup xs => ∃ x, L2.atI xs kk = some x ∧ R x
  | _ => False := rfl
/-! loops -/
@[simp ↓] theorem e_seqL {sh : Sh} {K : List D → Prop} : seqOf (.obj o sh xs) K = (isSeq sh = true ∧ K (D.frzL xs)) := rfl
@[simp ↓] theorem e_seqT {K : List D → Prop} : seqOf (.tup xs) K = K (D.frzL xs) := rfl
@[simp ↓] theorem e_iSeq {we : WE} {R : List D → En → Prop} : iSeq we env R = we env fun d e1 => seqOf d fun xs => R xs e1 := rfl
@[simp ↓] theorem e_as1I {K : Int → Prop} : as1I [.sc (.int k)] K = K k := rfl
@[simp ↓] theorem e_as2I {m : Int} {K : Int → Int → Prop} : as2I [.sc (.int k), .sc (.int m)] K = K k m := rfl
@[simp ↓] theorem e_iRng {wa : WA} {R : List D → En → Prop} : iRng wa env R = wa env fun ds e1 => as1I ds fun j => -(2 ^ 62) ≤ j ∧ j < 2 ^ 62 ∧ R (rng 0 j.toNat) e1 := rfl
@[simp ↓] theorem e_iRng2 {wa : WA} {R : List D → En → Prop} : iRng2 wa env R = wa env fun ds e1 => as2I ds fun i j => -(2 ^ 62) ≤ i ∧ i < 2 ^ 62 ∧ -(2 ^ 62) ≤ j ∧ j < 2 ^ 62 ∧ R (rng i (j - i).toNat) e1 := rfl
@[simp ↓] theorem e_iZp {wa : WA} {R : List D → En → Prop} : iZp wa env R = wa env fun ds e1 => match ds with
  | [.obj _ sh xs, .obj _ sh2 ys] => isSeq sh = true ∧ isSeq sh2 = true ∧ R (zipD (D.frzL xs) (D.frzL ys)) e1
  | _ => False := rfl
@[simp ↓] theorem e_iEnm {wa : WA} {R : List D → En → Prop} : iEnm wa env R = wa env fun ds e1 => match ds with
  | [.obj _ sh xs] => isSeq sh = true ∧ R (enumD 0 (D.frzL xs)) e1
  | _ => False := rfl
@[simp ↓] theorem e_sFor {wi : WI} {g : WG} {wb : WS} : sFor wi g wb env RD = wi env fun items e1 => loopD g wb items e1 RD := rfl
@[simp ↓] theorem e_wComp {kf : Bool} {wi : WI} {vs : List Nat} {g : WG} {wt : WT} {we : WE} : wComp kf wi vs g wt we env R = wi env fun items e1 => compD kf vs g wt we items [] e1 fun acc e2 => R (.lst true acc) (restE e1 vs (wipeE none vs e2)) := rfl
@[simp ↓] theorem e_wipeN {α : Type} {e : α} {l : List α} : wipeE e [] l = l := rfl
@[simp ↓] theorem e_wipeC {α : Type} {e : α} {v : Nat} {vs : List Nat} {l : List α} : wipeE e (v :: vs) l = (wipeE e vs l).set v e := rfl
@[simp ↓] theorem e_restN {e0 : En} : restE e0 [] env = env := rfl
@[simp ↓] theorem e_restC {e0 : En} {v : Nat} {vs : List Nat} : restE e0 (v :: vs) env = (restE e0 vs env).set v (fzO e0[v]?) := rfl
@[simp ↓] theorem e_fzO0 : fzO (some none) = none := rfl
@[simp ↓] theorem e_fzO1 : fzO (some (some d)) = if d.fz = true then some d else none := rfl
/-! calls -/
@[simp ↓] theorem e_cNil {R : List AV → En → Prop} : cNil env R = R [] env := rfl
@[simp ↓] theorem e_cVal {we : WE} {wc : WC} {R : List AV → En → Prop} : cVal we wc env R = we env fun d e1 => wc e1 fun is e2 => R (.val d :: is) e2 := rfl
@[simp ↓] theorem e_cValF {we : WE} {wc : WC} {R : List AV → En → Prop} : cValF we wc env R = we env fun d e1 => wc e1 fun is e2 => R (.val d.frz :: is) e2 := rfl
theorem e_cRef {wc : WC} {R : List AV → En → Prop} : cRef i wc env R = ((∃ d, env[i]? = some (some d)) ∧ wc env fun is e2 => R (.ref i :: is) e2) := rfl
@[simp ↓] theorem e_takeN : takeA env [] = some ([], env) := rfl
@[simp ↓] theorem e_takeV {r : List AV} : takeA env (.val d :: r) = (takeA env r).map fun q => (d :: q.1, q.2) := rfl
@[simp ↓] theorem e_takeR {r : List AV} : takeA env (.ref i :: r) = (match env[i]? with
    | some (some d) => (takeA (env.set i none) r).map fun q => (d :: q.1, q.2)
    | _ => none) := rfl
@[simp ↓] theorem e_putN {os : En} : putA env [] os = env := by cases os <;> rfl
@[simp ↓] theorem e_putV {r : List AV} {q : Option D} {os : En} : putA env (.val d :: r) (q :: os) = putA env r os := rfl
@[simp ↓] theorem e_putR {r : List AV} {q : Option D} {os : En} : putA env (.ref i :: r) (q :: os) = putA (env.set i q) r os := rfl
@[simp ↓] theorem e_wCall {f : WF} {wc : WC} : wCall f wc env R = wc env fun is e1 => match takeA e1 is with
  | some (ds, e2) => f ds fun r ds' => R r (putA e2 is ds')
  | none => False := rfl
@[simp ↓] theorem e_wCallK {n m : Nat} {perm : List Nat} {f : WF} {wc wk : WC} : wCallK n m perm f wc wk env R = wc env fun is e1 => is.length = n ∧ plainA is = true ∧ wk e1 fun js e2 => js.length = m ∧ plainA js = true ∧ (perm.all fun i => decide (i < (is ++ js).length)) = true ∧ match takeA e2 (pick perm (is ++ js)) with
  | some (ds, e3) => f ds fun r ds' => R r (putA e3 (pick perm (is ++ js)) ds')
  | none => False := rfl
@[simp ↓] theorem e_plainN : plainA [] = true := rfl
@[simp ↓] theorem e_plainC {r : List AV} : plainA (.val d :: r) = (d.fz && plainA r) := rfl
@[simp ↓] theorem e_pickN {α : Type} {l : List α} : pick [] l = [] := rfl
@[simp ↓] theorem e_pickC {α : Type} {l : List α} {i : Nat} {p : List Nat} : pick (i :: p) l = (l[i]?).toList ++ pick p l := by
  unfold pick; rw [List.filterMap_cons]
  cases l[i]? <;> rfl
@[simp ↓] theorem e_parmN {mask : List Bool} : parm mask [] = [] := by cases mask <;> rfl
@[simp ↓] theorem e_parmN2 {os : En} : parm [] os = [] := rfl
@[simp ↓] theorem e_parmC {mask : List Bool} {q : Option D} {os : En} : parm (b :: mask) (q :: os) = (if b = true then q else none) :: parm mask os := rfl
@[simp ↓] theorem e_wPopAt {wm : WM} {wi : WE} : wPopAt wm wi env R = wm env fun i d u => ownD d fun xs => wi env fun k e1 => asI k fun kk => -(2 ^ 63) ≤ kk ∧ kk < 2 ^ 63 ∧ ∃ j x, L2.ixN xs.length kk = some j ∧ xs[j]? = some x ∧ x.fz = true ∧ R x (e1.set i (some (u (.lst true (xs.eraseIdx j))))) := rfl
@[simp ↓] theorem e_wPop {wm : WM} : wPop wm env R = wm env fun i d u => ownD d fun xs => ∃ x, xs[xs.length - 1]? = some x ∧ x.fz = true ∧ R x (env.set i (some (u (.lst true xs.dropLast)))) := rfl
@[simp ↓] theorem e_sNever : sNever env RD = False := rfl
@[simp ↓] theorem e_sLend {j : Nat} {wi : WE} {wr : WS} : sLend i j wi wr env RD = ((∃ d, env[i]? = some (some d)) ∧ j < env.length ∧ wi env fun k e1 => asI k fun kk => ownL (e1[i]?) fun xs => ∃ n x, L2.ixN xs.length kk = some n ∧ xs[n]? = some x ∧
  ∀ w : V, wr ((e1.set i (some (.obj true .lst (xs.set n (.sc w))))).set j (some x))
    { nx := fun e2 => ownL (e2[i]?) fun ys => ys[n]? = some (.sc w) ∧ ∃ t, e2[j]? = some (some t) ∧ RD.nx ((e2.set j none).set i (some (.obj true .lst (ys.set n t)))),
      rt := fun d e2 => ownL (e2[i]?) fun ys => ys[n]? = some (.sc w) ∧ ∃ t, e2[j]? = some (some t) ∧ RD.rt d ((e2.set j none).set i (some (.obj true .lst (ys.set n t)))),
      bk := fun e2 => ownL (e2[i]?) fun ys => ys[n]? = some (.sc w) ∧ ∃ t, e2[j]? = some (some t) ∧ RD.bk ((e2.set j none).set i (some (.obj true .lst (ys.set n t)))),
      ct := fun e2 => ownL (e2[i]?) fun ys => ys[n]? = some (.sc w) ∧ ∃ t, e2[j]? = some (some t) ∧ RD.ct ((e2.set j none).set i (some (.obj true .lst (ys.set n t)))) }) := rfl
@[simp ↓] theorem e_gLs {sh : Sh} {gs : WGs} {R : En → Prop} : gLs n gs (.obj o sh xs) env R = (isSeq sh = true ∧ xs.length = n ∧ gs xs env R) := rfl
@[simp ↓] theorem e_wOrT {wa wb : WE} : wOrT wa wb env R = wa env fun d e1 => truD d fun c => if c = true then R d e1 else wb e1 R := rfl
@[simp ↓] theorem e_wAndT {wa wb : WE} : wAndT wa wb env R = wa env fun d e1 => truD d fun c => if c = true then wb e1 R else R d e1 := rfl
@[simp ↓] theorem e_wLstC {wc : WC} : wLstC wc env R = wc env fun is e1 => is.length ≤ sizeLine ∧ match takeA e1 is with
  | some (ds, e2) => R (.lst true ds) e2
  | none => False := rfl
@[simp ↓] theorem e_inDt {neg : Bool} {R : D → Prop} : rdInD neg x (.obj o .lst ys) R = (x.shp = true ∧ (D.obj o .lst ys).shp = true ∧ R (.bl (if neg then !ys.any fun z => deq z x else ys.any fun z => deq z x))) := rfl
@[simp ↓] theorem e_sortD {sh : Sh} {R : D → Prop} : rdSortedD [.obj o sh xs] R = (isSeq sh = true ∧ OrdL xs ∧ R (.lst true (sortD xs))) := rfl
@[simp ↓] theorem e_minD {sh : Sh} {R : D → Prop} : rdMinD [.obj o sh xs] R = (isSeq sh = true ∧ OrdL xs ∧ xs ≠ [] ∧ (∀ x ∈ xs, x.py ≠ .none) ∧ ∀ d ∈ xs, (∀ y ∈ xs, dLt y d = false) → R d) := rfl
end
/-! texts of code points -/
theorem strOk_of (x : Str) (h : ∀ c ∈ x.cps.toList, c < 0x110000) : PyData.strOk x = true := by
  show x.cps.all (fun c => decide (c < 0x110000)) = true
  rw [Array.all_eq_true']
  intro c hc
  exact decide_eq_true (h c (Array.mem_def.mp hc))
theorem strOk_mem {x : Str} (h : PyData.strOk x = true) : ∀ c ∈ x.cps.toList, c < 0x110000 := by
  intro c hc
  have h : x.cps.all (fun c => decide (c < 0x110000)) = true := h
  rw [Array.all_eq_true'] at h
  exact of_decide_eq_true (h c (Array.mem_def.mpr hc))
theorem strOk_app {x y : Str} (hx : PyData.strOk x = true) (hy : PyData.strOk y = true) : PyData.strOk (x ++ y) = true := by
  refine strOk_of _ fun c hc => ?_
  have hc : c ∈ (x.cps ++ y.cps).toList := hc
  rw [Array.toList_append, List.mem_append] at hc
  exact hc.elim (strOk_mem hx c) (strOk_mem hy c)
theorem strOk_lit (x : String) : PyData.strOk (Str.ofString x) = true := by
  refine strOk_of _ fun c hc => ?_
  rw [Str.ofString_eq_toList] at hc
  simp only [List.mem_map] at hc
  obtain ⟨a, _, rfl⟩ := hc
  have := a.valid
  rcases this with h | h
  · exact Nat.lt_trans h (by decide)
  · exact h.2
theorem strOk_from : ∀ (ts : List Str) (k : Nat) (acc : Str), PyData.strOk acc = true → (∀ t ∈ ts, PyData.strOk t = true) → PyData.strOk (textFrom k acc ts) = true
  | [], _, _, h, _ => h
  | t :: r, k, acc, h, hs => by
    refine strOk_from r (k + 1) _ (strOk_app (strOk_app h ?_) (hs t (List.mem_cons_self ..))) fun t ht => hs t (List.mem_cons_of_mem _ ht)
    exact strOk_lit _
theorem strOk_join : ∀ (ts : List Str), (∀ t ∈ ts, PyData.strOk t = true) → PyData.strOk (Str.join ", " ts) = true
  | [], _ => strOk_lit ""
  | [x], h => h x (List.mem_cons_self ..)
  | x :: y :: r, h => strOk_app (strOk_app (h x (List.mem_cons_self ..)) (strOk_lit ", ")) (strOk_join (y :: r) fun t ht => h t (List.mem_cons_of_mem _ ht))
theorem strOk_list {ts : List Str} (h : ∀ t ∈ ts, PyData.strOk t = true) : PyData.strOk (listText ts) = true := strOk_app (strOk_from ts 0 _ (strOk_lit "[") h) (strOk_lit "]")
theorem strOk_tuple {ts : List Str} (h : ∀ t ∈ ts, PyData.strOk t = true) : PyData.strOk (tupleText ts) = true := strOk_app (strOk_app (strOk_lit "(") (strOk_join ts h)) (strOk_lit _)
/-! plain data -/
structure Pl (d : D) (k n : Nat) : Prop where
  sok : PyData.strOk d.py.shown = true
  lay : d.py.canLay0 = true
  dep : d.py.depth ≤ k
  sho : d.py.showable = true
  lea : d.py.leavesShort 61 = true
  blk : d.py.bulk + 1 ≤ n
structure PlL (xs : List D) (k n : Nat) : Prop where
  sok : ∀ t ∈ PyData.shownAll (D.pyL xs), PyData.strOk t = true
  lay : PyData.canLayAll0 (D.pyL xs) = true
  dep : PyData.depthAll (D.pyL xs) ≤ k
  sho : PyData.showableAll (D.pyL xs) = true
  lea : PyData.leavesShortAll 61 (D.pyL xs) = true
  blk : PyData.bulkAll (D.pyL xs) ≤ n
theorem log2_lt {i : Nat} (h : i < 10 ^ 60) : i.log2 < 200 := by
  rcases Nat.eq_zero_or_pos i with h0 | h0
  · subst h0; decide
  · exact (Nat.log2_lt (by omega)).mpr (by omega)
theorem Pl.int {i : Int} (h : i.natAbs < 10 ^ 60) : Pl (.sc (.int i)) 0 1 := by
  refine ⟨strOk_lit _, rfl, Nat.le_refl _, ?_, ?_, Nat.le_refl _⟩
  · show decide (i.natAbs.log2 < 1920) = true
    have := log2_lt h
    exact decide_eq_true (by omega)
  · show decide ((PyData.shown (.int i)).length ≤ 61) = true
    have e := int_text_length_le10 (k := 60) (by decide) h
    refine decide_eq_true ?_
    show (Str.ofString (toString i)).length ≤ 61
    rw [ofString_length]; exact e
theorem Pl.nat {i : Int} (h0 : 0 ≤ i) (h : i < 10 ^ 60) : Pl (.sc (.int i)) 0 1 := Pl.int (by omega)
theorem Pl.bl {b : Bool} : Pl (.sc (.bl b)) 0 1 := ⟨by cases b <;> exact strOk_lit _, rfl, Nat.le_refl _, rfl, rfl, Nat.le_refl _⟩
theorem Pl.mono {d : D} {k n k' n' : Nat} (h : Pl d k n) (hk : k ≤ k') (hn : n ≤ n') : Pl d k' n' := ⟨h.sok, h.lay, by have := h.dep; omega, h.sho, h.lea, by have := h.blk; omega⟩
theorem PlL.mono {d : List D} {k n k' n' : Nat} (h : PlL d k n) (hk : k ≤ k') (hn : n ≤ n') : PlL d k' n' := ⟨h.sok, h.lay, by have := h.dep; omega, h.sho, h.lea, by have := h.blk; omega⟩
theorem PlL.nil {k : Nat} : PlL [] k 0 := ⟨fun _ z => (nomatch z), rfl, Nat.zero_le _, rfl, rfl, Nat.le_refl _⟩
theorem PlL.cons {x : D} {xs : List D} {k n m : Nat} (h : Pl x k n) (hs : PlL xs k m) : PlL (x :: xs) k (n + m) := by
  obtain ⟨a0, a1, a2, a3, a4, a5⟩ := h
  obtain ⟨b0, b1, b2, b3, b4, b5⟩ := hs
  refine ⟨?_, ?_, ?_, ?_, ?_, ?_⟩
  · intro t ht
    rcases List.mem_cons.mp ht with rfl | ht
    · exact a0
    · exact b0 t ht
  · simp only [D.pyL, PyData.canLayAll0, a1, b1, Bool.and_self]
  · simp only [D.pyL, PyData.depthAll]; omega
  · simp only [D.pyL, PyData.showableAll, a3, b3, Bool.and_self]
  · simp only [D.pyL, PyData.leavesShortAll, a4, b4, Bool.and_self]
  · simp only [D.pyL, PyData.bulkAll]; omega
theorem PlL.all {xs : List D} {k n : Nat} (h : ∀ x ∈ xs, Pl x k n) : PlL xs k (xs.length * n) := by
  induction xs with
  | nil => simpa using PlL.nil
  | cons x xs ih =>
    have := PlL.cons (h x (List.mem_cons_self ..)) (ih fun z hz => h z (List.mem_cons_of_mem _ hz))
    rw [List.length_cons, Nat.add_mul, Nat.one_mul, Nat.add_comm]
    exact this
theorem Pl.tup {xs : List D} {k n : Nat} (h : PlL xs k n) : Pl (.tup xs) (k + 1) (n + 1) := by
  obtain ⟨b0, b1, b2, b3, b4, b5⟩ := h
  refine ⟨strOk_tuple b0, b1, ?_, b3, b4, ?_⟩
  · simp only [D.py, PyData.depth]; omega
  · simp only [D.py, PyData.bulk]; omega
theorem Pl.lst {o : Bool} {xs : List D} {k n : Nat} (h : PlL xs k n) : Pl (.obj o .lst xs) (k + 1) (n + 1) := by
  obtain ⟨b0, b1, b2, b3, b4, b5⟩ := h
  refine ⟨strOk_list b0, b1, ?_, b3, b4, ?_⟩
  · simp only [D.py, PyData.depth]; omega
  · simp only [D.py, PyData.bulk]; omega
theorem Pl.lstA {o : Bool} {xs : List D} {k n m : Nat} (h : ∀ x ∈ xs, Pl x k n) (hm : xs.length ≤ m) : Pl (.obj o .lst xs) (k + 1) (m * n + 1) := .lst ((PlL.all h).mono (Nat.le_refl _) (Nat.mul_le_mul_right _ hm))
theorem Pl.repr {x : D} {k n : Nat} {R : D → Prop} (h : Pl x k n) (hb : isBox x = true) (hk : k ≤ 63) (hn : n ≤ 250000) (r : R (.str x.py.shown)) : rdRepr [x] R := by
  refine ⟨hb, h.sho, h.lay, by have := h.dep; omega, ?_, r⟩
  have e := PyData.shown_le_bulk 61 (by decide) _ h.lea
  have := h.blk
  show _ ≤ 16777216
  omega
theorem Pl.shpS {x : D} {k n : Nat} (h : Pl x k n) : (D.sc (.str x.py.shown)).shp = true := by
  show (PyData.strOk x.py.shown && decide (0 ≤ 64)) = true
  rw [h.sok]; rfl
@[simp] theorem deqS {x y : Str} : deq (.sc (.str x)) (.sc (.str y)) = (x == y) := rfl
theorem Pl.shp {x : D} {k n : Nat} (h : Pl x k n) (hk : k ≤ 64) : x.shp = true := by
  show (x.py.canLay0 && decide (x.py.depth ≤ 64)) = true
  rw [h.lay, Bool.true_and]
  exact decide_eq_true (by have := h.dep; omega)
structure Ly (d : D) (k : Nat) : Prop where
  lay : d.py.canLay0 = true
  dep : d.py.depth ≤ k
structure LyL (xs : List D) (k : Nat) : Prop where
  lay : PyData.canLayAll0 (D.pyL xs) = true
  dep : PyData.depthAll (D.pyL xs) ≤ k
theorem Ly.int {i : Int} {k : Nat} : Ly (.sc (.int i)) k := ⟨rfl, Nat.zero_le _⟩
theorem Ly.bl {i : Bool} {k : Nat} : Ly (.sc (.bl i)) k := ⟨rfl, Nat.zero_le _⟩
theorem Ly.non {k : Nat} : Ly (.sc .non) k := ⟨rfl, Nat.zero_le _⟩
theorem LyL.nil {k : Nat} : LyL [] k := ⟨rfl, Nat.zero_le _⟩
theorem LyL.cons {x : D} {xs : List D} {k : Nat} (h : Ly x k) (hs : LyL xs k) : LyL (x :: xs) k := by
  obtain ⟨a1, a2⟩ := h
  obtain ⟨b1, b2⟩ := hs
  refine ⟨?_, ?_⟩
  · simp only [D.pyL, PyData.canLayAll0, a1, b1, Bool.and_self]
  · simp only [D.pyL, PyData.depthAll]; omega
theorem LyL.all {xs : List D} {k : Nat} (h : ∀ x ∈ xs, Ly x k) : LyL xs k := by
  induction xs with
  | nil => exact .nil
  | cons x xs ih => exact .cons (h x (List.mem_cons_self ..)) (ih fun z hz => h z (List.mem_cons_of_mem _ hz))
theorem LyL.map {α : Type} {f : α → D} {k : Nat} (h : ∀ x, Ly (f x) k) (xs : List α) : LyL (xs.map f) k := .all fun x hx => by
  obtain ⟨z, _, rfl⟩ := List.mem_map.mp hx
  exact h z
theorem Ly.tup {xs : List D} {k : Nat} (h : LyL xs k) : Ly (.tup xs) (k + 1) := by
  obtain ⟨b1, b2⟩ := h
  exact ⟨b1, by simp only [D.py, PyData.depth]; omega⟩
theorem Ly.lst {o : Bool} {xs : List D} {k : Nat} (h : LyL xs k) : Ly (.obj o .lst xs) (k + 1) := by
  obtain ⟨b1, b2⟩ := h
  exact ⟨b1, by simp only [D.py, PyData.depth]; omega⟩
theorem Ly.shp {x : D} {k : Nat} (h : Ly x k) (hk : k ≤ 64) : x.shp = true := by
  show (x.py.canLay0 && decide (x.py.depth ≤ 64)) = true
  rw [h.lay, Bool.true_and]
  exact decide_eq_true (by have := h.dep; omega)
theorem Ly.deq_self {x : D} {k : Nat} (h : Ly x k) : deq x x = true := SeqAt.eqv_refl _ h.lay
@[simp] theorem shpI {i : Int} : (D.sc (.int i)).shp = true := rfl
@[simp] theorem shpB {i : Bool} : (D.sc (.bl i)).shp = true := rfl
@[simp] theorem shpN : (D.sc .non).shp = true := rfl
@[simp] theorem deqI {i j : Int} : deq (.sc (.int i)) (.sc (.int j)) = decide (i = j) := deq_int i j
@[simp] theorem deqB {i j : Bool} : deq (.sc (.bl i)) (.sc (.bl j)) = (i == j) := rfl
theorem Pl.deq_self {x : D} {k n : Nat} (h : Pl x k n) : deq x x = true := SeqAt.eqv_refl _ h.lay
@[simp] theorem pyL_dI (ns : List Int) : D.pyL (dI ns) = ns.map PyData.int := by rw [D.pyL_map, List.map_map]; rfl
@[simp] theorem shp_dI {o : Bool} {ns : List Int} : (D.obj o .lst (dI ns)).shp = true := by
  have h : ∀ ns : List Int, PyData.canLayAll0 (D.pyL (dI ns)) = true ∧ PyData.depthAll (D.pyL (dI ns)) = 0 := by
    intro ns
    induction ns with
    | nil => exact ⟨rfl, rfl⟩
    | cons n ns ih =>
      have e : D.pyL (dI (n :: ns)) = .int n :: D.pyL (dI ns) := rfl
      rw [e]
      simp only [PyData.canLayAll0, PyData.depthAll, PyData.canLay0, PyData.depth, Bool.true_and, ih.1, ih.2, true_and]
      rfl
  show (PyData.canLayAll0 (D.pyL (dI ns)) && decide (PyData.depthAll (D.pyL (dI ns)) + 1 ≤ 64)) = true
  rw [(h ns).1, (h ns).2]; rfl
theorem eqvAll_ints : ∀ ns ms : List Int, PyData.eqvAll (ns.map PyData.int) (ms.map PyData.int) = decide (ns = ms)
  | [], [] => rfl
  | [], _ :: _ => rfl
  | _ :: _, [] => rfl
  | n :: ns, m :: ms => by
    rw [List.map_cons, List.map_cons, PyData.eqvAll, eqvAll_ints ns ms, show PyData.eqv (.int n) (.int m) = decide (n = m) from Bool.beq_eq_decide_eq ..]
    by_cases h1 : n = m <;> by_cases h2 : ns = ms <;> simp [h1, h2]
@[simp] theorem deq_dI {o o2 : Bool} {ns ms : List Int} : deq (.obj o .lst (dI ns)) (.obj o2 .lst (dI ms)) = decide (ns = ms) := by
  show PyData.eqvAll (D.pyL (dI ns)) (D.pyL (dI ms)) = _
  rw [pyL_dI, pyL_dI]; exact eqvAll_ints ns ms
@[simp] theorem shp_nil {o : Bool} : (D.obj o .lst []).shp = true := by cases o <;> rfl
@[simp] theorem deq_nilR {o o2 : Bool} {xs : List D} : deq (.obj o .lst xs) (.obj o2 .lst []) = xs.isEmpty := by
  cases xs <;> rfl
@[simp] theorem deq_nilL {o o2 : Bool} {xs : List D} : deq (.obj o .lst []) (.obj o2 .lst xs) = xs.isEmpty := by
  cases xs <;> rfl
/-! in -/
theorem dIn_int {a : Int} {ns : List Int} {K : Bool → Prop} (h : K (decide (a ∈ ns))) : dIn (.sc (.int a)) (dI ns) K := by
  refine ⟨.int a, ns.map V.int, rfl, map_sc ns, rfl, ?_, ?_⟩
  · simp [flatV]
  · have e : ∀ ns : List Int, inV (V.int a) (ns.map V.int) = decide (a ∈ ns) := by
      intro ns
      unfold inV
      induction ns with
      | nil => rfl
      | cons n ns ih =>
        rw [List.map_cons, List.any_cons, ih, show eqV (V.int n) (V.int a) = decide (n = a) from Bool.beq_eq_decide_eq ..]
        by_cases h1 : n = a
        · subst h1; simp
        · have : a ≠ n := fun z => h1 z.symm
          simp [h1, this]
    rw [e]; exact h
@[simp ↓] theorem e_dIn {a : Int} {ns : List Int} {K : Bool → Prop} : dIn (.sc (.int a)) (dI ns) K = K (decide (a ∈ ns)) := by
  apply propext
  constructor
  · rintro ⟨v, ws, e1, e2, _, _, k⟩
    have := dIn_int (a := a) (ns := ns) (K := fun b => b = decide (a ∈ ns)) rfl
    obtain ⟨v', ws', e1', e2', _, _, k'⟩ := this
    cases e1; cases e1'
    have : ws = ws' := map_inj (f := D.sc) (fun x y e => by injection e) (e2.symm.trans e2')
    subst this
    rw [← k']; exact k
  · exact dIn_int
@[simp ↓] theorem e_dIn1 {a b : Int} {K : Bool → Prop} : dIn (.sc (.int a)) [.sc (.int b)] K = K (decide (a = b)) := by
  show dIn (.sc (.int a)) (dI [b]) K = _
  rw [e_dIn]; simp
@[simp ↓] theorem e_dIn2 {a b c : Int} {K : Bool → Prop} : dIn (.sc (.int a)) [.sc (.int b), .sc (.int c)] K = K (decide (a = b ∨ a = c)) := by
  show dIn (.sc (.int a)) (dI [b, c]) K = _
  rw [e_dIn]; simp
theorem zipD_map {α β : Type} (f : α → D) (g : β → D) : ∀ (xs : List α) (ys : List β), zipD (xs.map f) (ys.map g) = (xs.zip ys).map fun q => D.tup [f q.1, g q.2]
  | [], _ => rfl
  | _ :: _, [] => rfl
  | x :: xs, y :: ys => by
    show D.tup [f x, g y] :: zipD (xs.map f) (ys.map g) = _
    rw [zipD_map f g xs ys]; rfl
theorem zip_range {α β γ : Type} {ds : List α} {cs : List β} (h : cs.length = ds.length) (a : α) (b : β) (F : α × β → γ) : (List.range cs.length).map (fun k => F (ds.getD k a, cs.getD k b)) = (ds.zip cs).map F := by
  refine List.ext_getElem (by simp [h]) fun i h1 h2 => ?_
  have h3 : i < cs.length := by simpa using h1
  have h4 : i < ds.length := by omega
  simp [List.getD_eq_getElem?_getD, List.getElem?_eq_getElem h3, List.getElem?_eq_getElem h4]
theorem sum_filterMap {α : Type} (g : α → Option Int) : ∀ l : List α, (l.filterMap g).sum = (l.map fun x => (g x).getD 0).sum
  | [] => rfl
  | x :: l => by
    cases h : g x with
    | none => rw [List.filterMap_cons_none h, sum_filterMap g l]; simp [h]
    | some y => rw [List.filterMap_cons_some h, List.sum_cons, sum_filterMap g l]; simp [h]
theorem rep_dI (n : Nat) (x : Int) : (List.replicate n [D.sc (V.int x)]).flatten = dI (List.replicate n x) := by
  induction n with
  | zero => rfl
  | succ n ih => rw [List.replicate_succ, List.flatten_cons, ih]; rfl
/-! ranges -/
theorem rng_map (lo : Int) (n : Nat) : rng lo n = dI ((List.range n).map fun (i : Nat) => lo + (i : Int)) := by
  unfold rng dI; rw [List.map_map]; rfl
/-! greatest -/
def mx0 (l : List Int) : Int := l.foldr max 0
theorem mx0_ge (l : List Int) : ∀ y ∈ 0 :: l, y ≤ mx0 l := by
  intro y hy
  induction l with
  | nil => simp at hy; subst hy; exact Int.le_refl _
  | cons x l ih =>
    show y ≤ max x (mx0 l)
    simp only [List.mem_cons] at hy ih
    rcases hy with h | h | h
    · have := ih (.inl h); omega
    · omega
    · have := ih (.inr h); omega
theorem mx0_mem (l : List Int) : mx0 l ∈ 0 :: l := by
  induction l with
  | nil => simp [mx0]
  | cons x l ih =>
    show max x (mx0 l) ∈ _
    simp only [List.mem_cons] at ih ⊢
    rcases Int.le_total x (mx0 l) with h | h
    · rw [Int.max_eq_right h]
      exact ih.elim .inl fun z => .inr (.inr z)
    · rw [Int.max_eq_left h]; exact .inr (.inl rfl)
theorem max_mx0 {o : Bool} {l : List Int} {R : D → Prop} (k : R (.sc (.int (mx0 l)))) : rdMaxL [.obj o .lst (.sc (.int 0) :: dI l)] R := by
  refine ⟨rfl, 0 :: l, rfl, by simp, fun m hm hb => ?_⟩
  have h1 := mx0_ge l m hm
  have h2 := hb _ (mx0_mem l)
  rw [show m = mx0 l by omega]; exact k
/-! factors and divisors -/
theorem bits_of {i : Int} {n : Nat} (h : i.natAbs < 2 ^ n) : Builtin.Int.intBits i ≤ n := by
  unfold Builtin.Int.intBits
  split
  · exact Nat.zero_le _
  · rename_i hz
    have : i.natAbs ≠ 0 := by
      intro e
      have := Int.natAbs_eq_zero.mp e
      subst this
      exact hz rfl
    have := (Nat.log2_lt this).mpr h
    omega
theorem mulOk_small {a b : Int} (h : a.natAbs < 2 ^ 64 ∨ b.natAbs < 2 ^ 64) : PySem.IntMulOk a b := h.elim (fun h => .of_left (bits_of h)) fun h => .of_right (bits_of h)
theorem log2_of {j n : Nat} (h : j < 2 ^ n) (hn : 0 < n) : j.log2 < n := by
  rcases Nat.eq_zero_or_pos j with h0 | h0
  · subst h0; simpa using hn
  · exact (Nat.log2_lt (by omega)).mpr h
theorem powOk {i j : Int} {n : Nat} (h : i.natAbs < 2 ^ n) (h0 : 0 ≤ j) (h1 : (n : Int) * j ≤ 2 ^ 27) : CPowW i j := ⟨h0, Int.le_trans (Int.mul_le_mul_of_nonneg_right (by have := bits_of h; omega) h0) h1⟩
theorem dI_atI {ns : List Int} {i : Int} (h0 : 0 ≤ i) (h : i < ns.length) : L2.atI (dI ns) i = some (.sc (.int (ns.getD i.toNat 0))) := by
  refine atI_of h0 ?_
  rw [dI_get, List.getElem?_eq_getElem (by omega)]
  simp [List.getD_eq_getElem?_getD, List.getElem?_eq_getElem (show i.toNat < ns.length by omega)]
theorem atI_ex {xs : List D} {v : Int} {P : D → Prop} (h0 : 0 ≤ v) (h1 : v < (xs.length : Int)) (k : ∀ x, xs[v.toNat]? = some x → P x) : ∃ x, L2.atI xs v = some x ∧ P x :=
  have h : v.toNat < xs.length := by omega
  ⟨xs[v.toNat], atI_of h0 (List.getElem?_eq_getElem h), k _ (List.getElem?_eq_getElem h)⟩
theorem atI_exM {α : Type} {f : α → D} {ns : List α} {xs : List D} {v : Int} {P : D → Prop} (e : xs = ns.map f) (h0 : 0 ≤ v) (h1 : v < (ns.length : Int)) (k : ∀ m, ns[v.toNat]? = some m → m ∈ ns → P (f m)) : ∃ x, L2.atI xs v = some x ∧ P x := by
  subst e
  refine atI_ex h0 (by simpa using h1) fun x hx => ?_
  rw [List.getElem?_map, Option.map_eq_some_iff] at hx
  obtain ⟨m, hm, rfl⟩ := hx
  exact k m hm (List.mem_of_getElem? hm)
theorem atI_exI {ns : List Int} {xs : List D} {v : Int} {P : D → Prop} (e : xs = dI ns) (h0 : 0 ≤ v) (h1 : v < (ns.length : Int)) (k : ∀ m, ns[v.toNat]? = some m → m ∈ ns → P (.sc (.int m))) : ∃ x, L2.atI xs v = some x ∧ P x := atI_exM e h0 h1 k
theorem get_getD {ns : List Int} {i : Nat} (h : i < ns.length) : ns[i]? = some (ns.getD i 0) := by
  simp [List.getD_eq_getElem?_getD, List.getElem?_eq_getElem h]
theorem dI_getD {ns : List Int} {i : Nat} (h : i < ns.length) : (dI ns)[i]? = some (.sc (.int (ns.getD i 0))) := by
  rw [dI_get, get_getD h]; rfl
theorem getD_mem {ns : List Int} {i : Nat} (h : i < ns.length) : ns.getD i 0 ∈ ns := by
  simp [List.getD_eq_getElem?_getD, List.getElem?_eq_getElem h]
theorem cutD_map {α β : Type} (f : α → β) (xs : List α) (lo hi : Option Int) : cutD (xs.map f) lo hi = (cutD xs lo hi).map f := by
  unfold cutD; rw [List.length_map, List.map_take, List.map_drop]
theorem cutD_len {α : Type} (xs : List α) (lo hi : Option Int) : (cutD xs lo hi).length ≤ xs.length := by
  unfold cutD; rw [List.length_take, List.length_drop]; omega
theorem cutD_mem {α : Type} {xs : List α} {lo hi : Option Int} {x : α} (h : x ∈ cutD xs lo hi) : x ∈ xs := List.mem_of_mem_drop (List.mem_of_mem_take h)
theorem sWhile_of {wt : WT} {wb : WS} {env : En} {RD : EN} (I : Nat → En → Prop) (m0 : Nat) (h0 : I m0 env)
    (turn : ∀ m env, I m env → wt env fun c e1 => if c = true then wb e1 { RD with nx := fun e2 => ∃ m', m' < m ∧ I m' e2, ct := fun e2 => ∃ m', m' < m ∧ I m' e2, bk := RD.nx } else RD.nx e1) : sWhile wt wb env RD := ⟨I, ⟨m0, h0⟩, turn⟩
theorem divOk {i j : Int} (h0 : 0 < j) (h : j < 2 ^ 80) : CDivW i j := ⟨h0, by have := log2_of (j := j.natAbs) (n := 80) (by omega) (by decide); omega⟩
end PL

/-! PQ: the combinators at laid out slots (printed by slots.py). -/
namespace PL
open PySem L2
section
variable {d x : D} {v : V} {xs : List D} {e : En} {o : Option D}
@[simp ↓] theorem q_val0 {R : D → En → Prop} : wVal 0 (some d :: e) R = (d.fz = true ∧ R d (some d :: e)) := by simp [wVal]
@[simp ↓ high] theorem q_valS0 {R : D → En → Prop} : wVal 0 (some (.sc v) :: e) R = R (.sc v) (some (.sc v) :: e) := by simp [wVal]
@[simp ↓] theorem q_var0 {R : D → En → Prop} : wVar 0 (some d :: e) R = R d.frz (some d.frz :: e) := by simp [wVar]
@[simp ↓ high] theorem q_varL0 {R : D → En → Prop} {w : Bool} : wVar 0 (some (.obj w .lst xs) :: e) R = R (.obj false .lst (D.frzL xs)) (some (.obj false .lst (D.frzL xs)) :: e) := by simp [wVar]
@[simp ↓] theorem q_move0 {R : D → En → Prop} : wMove 0 (some d :: e) R = R d (none :: e) := by simp [wMove]
@[simp ↓] theorem q_bn0 {R : D → Prop} : bName 0 (some d :: e) R = R d := by simp [bName]
@[simp ↓] theorem q_mn0 {R : Nat → D → (D → D) → Prop} : mName 0 (some d :: e) R = R 0 d id := by simp [mName]
@[simp ↓] theorem q_gn0 {R : En → Prop} : gNm 0 d (o :: e) R = R (some d :: e) := by simp [gNm]
@[simp ↓] theorem q_gf0 {R : En → Prop} : gFz 0 d (o :: e) R = R (some d.frz :: e) := by simp [gFz]
@[simp ↓ high] theorem q_gfS0 {R : En → Prop} : gFz 0 (.sc v) (o :: e) R = R (some (.sc v) :: e) := by simp [gFz]
@[simp ↓ high] theorem q_gfT0 {R : En → Prop} : gFz 0 (.tup xs) (o :: e) R = R (some (.tup (D.frzL xs)) :: e) := by simp [gFz]
@[simp ↓ high] theorem q_gfL0 {R : En → Prop} {w : Bool} : gFz 0 (.obj w .lst xs) (o :: e) R = R (some (.obj false .lst (D.frzL xs)) :: e) := by simp [gFz]
@[simp ↓] theorem q_ref0 {wc : WC} {R : List AV → En → Prop} : cRef 0 wc (some d :: e) R = wc (some d :: e) fun is e2 => R (.ref 0 :: is) e2 := by simp [cRef]
@[simp ↓] theorem q_aug0 {rd : RD2} {we : WE} {RD : EN} : sAug 0 rd we (some (.sc v) :: e) RD = we (some (.sc v) :: e) fun y e1 => rd (.sc v) y fun z => RD.nx (e1.set 0 (some z)) := by simp [sAug]
@[simp ↓] theorem q_ne0 {rd : RD2} {wb : WE} {R : D → En → Prop} : wBinNE rd 0 wb (some d :: e) R = wb (some d :: e) fun y e2 => ∃ x, e2[0]? = some (some x) ∧ rd x y fun z => R z e2 := by simp [wBinNE]
@[simp ↓ high] theorem q_neC0 {rd : RD2} {R : D → En → Prop} {c : D} : wBinNE rd 0 (wC c) (some d :: e) R = rd d c fun z => R z (some d :: e) := by simp [wBinNE, wC]
@[simp ↓ high] theorem q_neV0 {rd : RD2} {R : D → En → Prop} {j : Nat} : wBinNE rd 0 (wVal j) (some d :: e) R = wVal j (some d :: e) fun y e2 => rd d y fun z => R z e2 := by
  apply propext; simp only [wBinNE, wVal]; constructor
  · rintro ⟨_, y, h1, h2, x, h3, h4⟩; simp at h3; subst h3; exact ⟨y, h1, h2, h4⟩
  · rintro ⟨y, h1, h2, h4⟩; exact ⟨⟨d, by simp⟩, y, h1, h2, d, by simp, h4⟩
@[simp ↓] theorem q_app0 {kf : Bool} {we : WE} {R : D → En → Prop} : wAppN kf 0 we (some (.obj true .lst xs) :: e) R = we (some (.obj true .lst xs) :: e) fun y e1 => ownL (e1[0]?) fun xs => xs.length < sizeLine ∧ R .non (e1.set 0 (some (.lst true (xs ++ [inK kf y])))) := by simp [wAppN, ownL]
@[simp ↓] theorem q_popN0 {wi : WE} {R : D → En → Prop} : wPopAtN 0 wi (some (.obj true .lst xs) :: e) R = wi (some (.obj true .lst xs) :: e) fun k e1 => asI k fun kk => ownL (e1[0]?) fun xs => -(2 ^ 63) ≤ kk ∧ kk < 2 ^ 63 ∧ ∃ j x, L2.ixN xs.length kk = some j ∧ xs[j]? = some x ∧ x.fz = true ∧ R x (e1.set 0 (some (.lst true (xs.eraseIdx j)))) := by simp [wPopAtN, ownL]
@[simp ↓] theorem q_ins0 {wi we : WE} {R : D → En → Prop} : wInsN 0 wi we (some (.obj true .lst xs) :: e) R = wi (some (.obj true .lst xs) :: e) fun k e1 => asI k fun kk => we e1 fun y e2 => ownL (e2[0]?) fun xs => D.fzL xs = true ∧ xs.length < sizeLine ∧ 0 ≤ kk ∧ kk < 2 ^ 63 ∧ R .non (e2.set 0 (some (.lst true (xs.take kk.toNat ++ [y.frz] ++ xs.drop kk.toNat)))) := by simp [wInsN, ownL]
@[simp ↓] theorem q_augN0 {rd : RD2} {wi we : WE} {RD : EN} : sAugNx rd 0 wi we (some d :: e) RD = wi (some d :: e) fun k e1 => asI k fun kk => ownL (e1[0]?) fun xs => ∃ j x, L2.ixN xs.length kk = some j ∧ xs[j]? = some x ∧ x.fz = true ∧ we e1 fun y e2 => ownL (e2[0]?) fun ys => ∃ j2, L2.ixN ys.length kk = some j2 ∧ rd x y fun z => RD.nx (e2.set 0 (some (.lst true (ys.set j2 z)))) := by simp [sAugNx]
@[simp ↓] theorem q_set0 {q : Option D} : List.set (o :: e) 0 q = (q :: e) := by simp
@[simp ↓] theorem q_get0 : ((o :: e) : En)[0]? = some o := by simp
@[simp ↓] theorem q_val1 {a0 : Option D} {R : D → En → Prop} : wVal 1 (a0 :: some d :: e) R = (d.fz = true ∧ R d (a0 :: some d :: e)) := by simp [wVal]
@[simp ↓ high] theorem q_valS1 {a0 : Option D} {R : D → En → Prop} : wVal 1 (a0 :: some (.sc v) :: e) R = R (.sc v) (a0 :: some (.sc v) :: e) := by simp [wVal]
@[simp ↓] theorem q_var1 {a0 : Option D} {R : D → En → Prop} : wVar 1 (a0 :: some d :: e) R = R d.frz (a0 :: some d.frz :: e) := by simp [wVar]
@[simp ↓ high] theorem q_varL1 {a0 : Option D} {R : D → En → Prop} {w : Bool} : wVar 1 (a0 :: some (.obj w .lst xs) :: e) R = R (.obj false .lst (D.frzL xs)) (a0 :: some (.obj false .lst (D.frzL xs)) :: e) := by simp [wVar]
@[simp ↓] theorem q_move1 {a0 : Option D} {R : D → En → Prop} : wMove 1 (a0 :: some d :: e) R = R d (a0 :: none :: e) := by simp [wMove]
@[simp ↓] theorem q_bn1 {a0 : Option D} {R : D → Prop} : bName 1 (a0 :: some d :: e) R = R d := by simp [bName]
@[simp ↓] theorem q_mn1 {a0 : Option D} {R : Nat → D → (D → D) → Prop} : mName 1 (a0 :: some d :: e) R = R 1 d id := by simp [mName]
@[simp ↓] theorem q_gn1 {a0 : Option D} {R : En → Prop} : gNm 1 d (a0 :: o :: e) R = R (a0 :: some d :: e) := by simp [gNm]
@[simp ↓] theorem q_gf1 {a0 : Option D} {R : En → Prop} : gFz 1 d (a0 :: o :: e) R = R (a0 :: some d.frz :: e) := by simp [gFz]
@[simp ↓ high] theorem q_gfS1 {a0 : Option D} {R : En → Prop} : gFz 1 (.sc v) (a0 :: o :: e) R = R (a0 :: some (.sc v) :: e) := by simp [gFz]
@[simp ↓ high] theorem q_gfT1 {a0 : Option D} {R : En → Prop} : gFz 1 (.tup xs) (a0 :: o :: e) R = R (a0 :: some (.tup (D.frzL xs)) :: e) := by simp [gFz]
@[simp ↓ high] theorem q_gfL1 {a0 : Option D} {R : En → Prop} {w : Bool} : gFz 1 (.obj w .lst xs) (a0 :: o :: e) R = R (a0 :: some (.obj false .lst (D.frzL xs)) :: e) := by simp [gFz]
@[simp ↓] theorem q_ref1 {a0 : Option D} {wc : WC} {R : List AV → En → Prop} : cRef 1 wc (a0 :: some d :: e) R = wc (a0 :: some d :: e) fun is e2 => R (.ref 1 :: is) e2 := by simp [cRef]
@[simp ↓] theorem q_aug1 {a0 : Option D} {rd : RD2} {we : WE} {RD : EN} : sAug 1 rd we (a0 :: some (.sc v) :: e) RD = we (a0 :: some (.sc v) :: e) fun y e1 => rd (.sc v) y fun z => RD.nx (e1.set 1 (some z)) := by simp [sAug]
@[simp ↓] theorem q_ne1 {a0 : Option D} {rd : RD2} {wb : WE} {R : D → En → Prop} : wBinNE rd 1 wb (a0 :: some d :: e) R = wb (a0 :: some d :: e) fun y e2 => ∃ x, e2[1]? = some (some x) ∧ rd x y fun z => R z e2 := by simp [wBinNE]
@[simp ↓ high] theorem q_neC1 {a0 : Option D} {rd : RD2} {R : D → En → Prop} {c : D} : wBinNE rd 1 (wC c) (a0 :: some d :: e) R = rd d c fun z => R z (a0 :: some d :: e) := by simp [wBinNE, wC]
@[simp ↓ high] theorem q_neV1 {a0 : Option D} {rd : RD2} {R : D → En → Prop} {j : Nat} : wBinNE rd 1 (wVal j) (a0 :: some d :: e) R = wVal j (a0 :: some d :: e) fun y e2 => rd d y fun z => R z e2 := by
  apply propext; simp only [wBinNE, wVal]; constructor
  · rintro ⟨_, y, h1, h2, x, h3, h4⟩; simp at h3; subst h3; exact ⟨y, h1, h2, h4⟩
  · rintro ⟨y, h1, h2, h4⟩; exact ⟨⟨d, by simp⟩, y, h1, h2, d, by simp, h4⟩
@[simp ↓] theorem q_app1 {a0 : Option D} {kf : Bool} {we : WE} {R : D → En → Prop} : wAppN kf 1 we (a0 :: some (.obj true .lst xs) :: e) R = we (a0 :: some (.obj true .lst xs) :: e) fun y e1 => ownL (e1[1]?) fun xs => xs.length < sizeLine ∧ R .non (e1.set 1 (some (.lst true (xs ++ [inK kf y])))) := by simp [wAppN, ownL]
@[simp ↓] theorem q_popN1 {a0 : Option D} {wi : WE} {R : D → En → Prop} : wPopAtN 1 wi (a0 :: some (.obj true .lst xs) :: e) R = wi (a0 :: some (.obj true .lst xs) :: e) fun k e1 => asI k fun kk => ownL (e1[1]?) fun xs => -(2 ^ 63) ≤ kk ∧ kk < 2 ^ 63 ∧ ∃ j x, L2.ixN xs.length kk = some j ∧ xs[j]? = some x ∧ x.fz = true ∧ R x (e1.set 1 (some (.lst true (xs.eraseIdx j)))) := by simp [wPopAtN, ownL]
@[simp ↓] theorem q_ins1 {a0 : Option D} {wi we : WE} {R : D → En → Prop} : wInsN 1 wi we (a0 :: some (.obj true .lst xs) :: e) R = wi (a0 :: some (.obj true .lst xs) :: e) fun k e1 => asI k fun kk => we e1 fun y e2 => ownL (e2[1]?) fun xs => D.fzL xs = true ∧ xs.length < sizeLine ∧ 0 ≤ kk ∧ kk < 2 ^ 63 ∧ R .non (e2.set 1 (some (.lst true (xs.take kk.toNat ++ [y.frz] ++ xs.drop kk.toNat)))) := by simp [wInsN, ownL]
@[simp ↓] theorem q_augN1 {a0 : Option D} {rd : RD2} {wi we : WE} {RD : EN} : sAugNx rd 1 wi we (a0 :: some d :: e) RD = wi (a0 :: some d :: e) fun k e1 => asI k fun kk => ownL (e1[1]?) fun xs => ∃ j x, L2.ixN xs.length kk = some j ∧ xs[j]? = some x ∧ x.fz = true ∧ we e1 fun y e2 => ownL (e2[1]?) fun ys => ∃ j2, L2.ixN ys.length kk = some j2 ∧ rd x y fun z => RD.nx (e2.set 1 (some (.lst true (ys.set j2 z)))) := by simp [sAugNx]
@[simp ↓] theorem q_set1 {a0 : Option D} {q : Option D} : List.set (a0 :: o :: e) 1 q = (a0 :: q :: e) := by simp
@[simp ↓] theorem q_get1 {a0 : Option D} : ((a0 :: o :: e) : En)[1]? = some o := by simp
@[simp ↓] theorem q_val2 {a0 a1 : Option D} {R : D → En → Prop} : wVal 2 (a0 :: a1 :: some d :: e) R = (d.fz = true ∧ R d (a0 :: a1 :: some d :: e)) := by simp [wVal]
@[simp ↓ high] theorem q_valS2 {a0 a1 : Option D} {R : D → En → Prop} : wVal 2 (a0 :: a1 :: some (.sc v) :: e) R = R (.sc v) (a0 :: a1 :: some (.sc v) :: e) := by simp [wVal]
@[simp ↓] theorem q_var2 {a0 a1 : Option D} {R : D → En → Prop} : wVar 2 (a0 :: a1 :: some d :: e) R = R d.frz (a0 :: a1 :: some d.frz :: e) := by simp [wVar]
@[simp ↓ high] theorem q_varL2 {a0 a1 : Option D} {R : D → En → Prop} {w : Bool} : wVar 2 (a0 :: a1 :: some (.obj w .lst xs) :: e) R = R (.obj false .lst (D.frzL xs)) (a0 :: a1 :: some (.obj false .lst (D.frzL xs)) :: e) := by simp [wVar]
@[simp ↓] theorem q_move2 {a0 a1 : Option D} {R : D → En → Prop} : wMove 2 (a0 :: a1 :: some d :: e) R = R d (a0 :: a1 :: none :: e) := by simp [wMove]
@[simp ↓] theorem q_bn2 {a0 a1 : Option D} {R : D → Prop} : bName 2 (a0 :: a1 :: some d :: e) R = R d := by simp [bName]
@[simp ↓] theorem q_mn2 {a0 a1 : Option D} {R : Nat → D → (D → D) → Prop} : mName 2 (a0 :: a1 :: some d :: e) R = R 2 d id := by simp [mName]
@[simp ↓] theorem q_gn2 {a0 a1 : Option D} {R : En → Prop} : gNm 2 d (a0 :: a1 :: o :: e) R = R (a0 :: a1 :: some d :: e) := by simp [gNm]
@[simp ↓] theorem q_gf2 {a0 a1 : Option D} {R : En → Prop} : gFz 2 d (a0 :: a1 :: o :: e) R = R (a0 :: a1 :: some d.frz :: e) := by simp [gFz]
@[simp ↓ high] theorem q_gfS2 {a0 a1 : Option D} {R : En → Prop} : gFz 2 (.sc v) (a0 :: a1 :: o :: e) R = R (a0 :: a1 :: some (.sc v) :: e) := by simp [gFz]
@[simp ↓ high] theorem q_gfT2 {a0 a1 : Option D} {R : En → Prop} : gFz 2 (.tup xs) (a0 :: a1 :: o :: e) R = R (a0 :: a1 :: some (.tup (D.frzL xs)) :: e) := by simp [gFz]
@[simp ↓ high] theorem q_gfL2 {a0 a1 : Option D} {R : En → Prop} {w : Bool} : gFz 2 (.obj w .lst xs) (a0 :: a1 :: o :: e) R = R (a0 :: a1 :: some (.obj false .lst (D.frzL xs)) :: e) := by simp [gFz]
@[simp ↓] theorem q_ref2 {a0 a1 : Option D} {wc : WC} {R : List AV → En → Prop} : cRef 2 wc (a0 :: a1 :: some d :: e) R = wc (a0 :: a1 :: some d :: e) fun is e2 => R (.ref 2 :: is) e2 := by simp [cRef]
@[simp ↓] theorem q_aug2 {a0 a1 : Option D} {rd : RD2} {we : WE} {RD : EN} : sAug 2 rd we (a0 :: a1 :: some (.sc v) :: e) RD = we (a0 :: a1 :: some (.sc v) :: e) fun y e1 => rd (.sc v) y fun z => RD.nx (e1.set 2 (some z)) := by simp [sAug]
@[simp ↓] theorem q_ne2 {a0 a1 : Option D} {rd : RD2} {wb : WE} {R : D → En → Prop} : wBinNE rd 2 wb (a0 :: a1 :: some d :: e) R = wb (a0 :: a1 :: some d :: e) fun y e2 => ∃ x, e2[2]? = some (some x) ∧ rd x y fun z => R z e2 := by simp [wBinNE]
@[simp ↓ high] theorem q_neC2 {a0 a1 : Option D} {rd : RD2} {R : D → En → Prop} {c : D} : wBinNE rd 2 (wC c) (a0 :: a1 :: some d :: e) R = rd d c fun z => R z (a0 :: a1 :: some d :: e) := by simp [wBinNE, wC]
@[simp ↓ high] theorem q_neV2 {a0 a1 : Option D} {rd : RD2} {R : D → En → Prop} {j : Nat} : wBinNE rd 2 (wVal j) (a0 :: a1 :: some d :: e) R = wVal j (a0 :: a1 :: some d :: e) fun y e2 => rd d y fun z => R z e2 := by
  apply propext; simp only [wBinNE, wVal]; constructor
  · rintro ⟨_, y, h1, h2, x, h3, h4⟩; simp at h3; subst h3; exact ⟨y, h1, h2, h4⟩
  · rintro ⟨y, h1, h2, h4⟩; exact ⟨⟨d, by simp⟩, y, h1, h2, d, by simp, h4⟩
@[simp ↓] theorem q_app2 {a0 a1 : Option D} {kf : Bool} {we : WE} {R : D → En → Prop} : wAppN kf 2 we (a0 :: a1 :: some (.obj true .lst xs) :: e) R = we (a0 :: a1 :: some (.obj true .lst xs) :: e) fun y e1 => ownL (e1[2]?) fun xs => xs.length < sizeLine ∧ R .non (e1.set 2 (some (.lst true (xs ++ [inK kf y])))) := by simp [wAppN, ownL]
@[simp ↓] theorem q_popN2 {a0 a1 : Option D} {wi : WE} {R : D → En → Prop} : wPopAtN 2 wi (a0 :: a1 :: some (.obj true .lst xs) :: e) R = wi (a0 :: a1 :: some (.obj true .lst xs) :: e) fun k e1 => asI k fun kk => ownL (e1[2]?) fun xs => -(2 ^ 63) ≤ kk ∧ kk < 2 ^ 63 ∧ ∃ j x, L2.ixN xs.length kk = some j ∧ xs[j]? = some x ∧ x.fz = true ∧ R x (e1.set 2 (some (.lst true (xs.eraseIdx j)))) := by simp [wPopAtN, ownL]
@[simp ↓] theorem q_ins2 {a0 a1 : Option D} {wi we : WE} {R : D → En → Prop} : wInsN 2 wi we (a0 :: a1 :: some (.obj true .lst xs) :: e) R = wi (a0 :: a1 :: some (.obj true .lst xs) :: e) fun k e1 => asI k fun kk => we e1 fun y e2 => ownL (e2[2]?) fun xs => D.fzL xs = true ∧ xs.length < sizeLine ∧ 0 ≤ kk ∧ kk < 2 ^ 63 ∧ R .non (e2.set 2 (some (.lst true (xs.take kk.toNat ++ [y.frz] ++ xs.drop kk.toNat)))) := by simp [wInsN, ownL]
@[simp ↓] theorem q_augN2 {a0 a1 : Option D} {rd : RD2} {wi we : WE} {RD : EN} : sAugNx rd 2 wi we (a0 :: a1 :: some d :: e) RD = wi (a0 :: a1 :: some d :: e) fun k e1 => asI k fun kk => ownL (e1[2]?) fun xs => ∃ j x, L2.ixN xs.length kk = some j ∧ xs[j]? = some x ∧ x.fz = true ∧ we e1 fun y e2 => ownL (e2[2]?) fun ys => ∃ j2, L2.ixN ys.length kk = some j2 ∧ rd x y fun z => RD.nx (e2.set 2 (some (.lst true (ys.set j2 z)))) := by simp [sAugNx]
@[simp ↓] theorem q_set2 {a0 a1 : Option D} {q : Option D} : List.set (a0 :: a1 :: o :: e) 2 q = (a0 :: a1 :: q :: e) := by simp
@[simp ↓] theorem q_get2 {a0 a1 : Option D} : ((a0 :: a1 :: o :: e) : En)[2]? = some o := by simp
@[simp ↓] theorem q_val3 {a0 a1 a2 : Option D} {R : D → En → Prop} : wVal 3 (a0 :: a1 :: a2 :: some d :: e) R = (d.fz = true ∧ R d (a0 :: a1 :: a2 :: some d :: e)) := by simp [wVal]
@[simp ↓ high] theorem q_valS3 {a0 a1 a2 : Option D} {R : D → En → Prop} : wVal 3 (a0 :: a1 :: a2 :: some (.sc v) :: e) R = R (.sc v) (a0 :: a1 :: a2 :: some (.sc v) :: e) := by simp [wVal]
@[simp ↓] theorem q_var3 {a0 a1 a2 : Option D} {R : D → En → Prop} : wVar 3 (a0 :: a1 :: a2 :: some d :: e) R = R d.frz (a0 :: a1 :: a2 :: some d.frz :: e) := by simp [wVar]
@[simp ↓ high] theorem q_varL3 {a0 a1 a2 : Option D} {R : D → En → Prop} {w : Bool} : wVar 3 (a0 :: a1 :: a2 :: some (.obj w .lst xs) :: e) R = R (.obj false .lst (D.frzL xs)) (a0 :: a1 :: a2 :: some (.obj false .lst (D.frzL xs)) :: e) := by simp [wVar]
@[simp ↓] theorem q_move3 {a0 a1 a2 : Option D} {R : D → En → Prop} : wMove 3 (a0 :: a1 :: a2 :: some d :: e) R = R d (a0 :: a1 :: a2 :: none :: e) := by simp [wMove]
@[simp ↓] theorem q_bn3 {a0 a1 a2 : Option D} {R : D → Prop} : bName 3 (a0 :: a1 :: a2 :: some d :: e) R = R d := by simp [bName]
@[simp ↓] theorem q_mn3 {a0 a1 a2 : Option D} {R : Nat → D → (D → D) → Prop} : mName 3 (a0 :: a1 :: a2 :: some d :: e) R = R 3 d id := by simp [mName]
@[simp ↓] theorem q_gn3 {a0 a1 a2 : Option D} {R : En → Prop} : gNm 3 d (a0 :: a1 :: a2 :: o :: e) R = R (a0 :: a1 :: a2 :: some d :: e) := by simp [gNm]
@[simp ↓] theorem q_gf3 {a0 a1 a2 : Option D} {R : En → Prop} : gFz 3 d (a0 :: a1 :: a2 :: o :: e) R = R (a0 :: a1 :: a2 :: some d.frz :: e) := by simp [gFz]
@[simp ↓ high] theorem q_gfS3 {a0 a1 a2 : Option D} {R : En → Prop} : gFz 3 (.sc v) (a0 :: a1 :: a2 :: o :: e) R = R (a0 :: a1 :: a2 :: some (.sc v) :: e) := by simp [gFz]
@[simp ↓ high] theorem q_gfT3 {a0 a1 a2 : Option D} {R : En → Prop} : gFz 3 (.tup xs) (a0 :: a1 :: a2 :: o :: e) R = R (a0 :: a1 :: a2 :: some (.tup (D.frzL xs)) :: e) := by simp [gFz]
@[simp ↓ high] theorem q_gfL3 {a0 a1 a2 : Option D} {R : En → Prop} {w : Bool} : gFz 3 (.obj w .lst xs) (a0 :: a1 :: a2 :: o :: e) R = R (a0 :: a1 :: a2 :: some (.obj false .lst (D.frzL xs)) :: e) := by simp [gFz]
@[simp ↓] theorem q_ref3 {a0 a1 a2 : Option D} {wc : WC} {R : List AV → En → Prop} : cRef 3 wc (a0 :: a1 :: a2 :: some d :: e) R = wc (a0 :: a1 :: a2 :: some d :: e) fun is e2 => R (.ref 3 :: is) e2 := by simp [cRef]
@[simp ↓] theorem q_aug3 {a0 a1 a2 : Option D} {rd : RD2} {we : WE} {RD : EN} : sAug 3 rd we (a0 :: a1 :: a2 :: some (.sc v) :: e) RD = we (a0 :: a1 :: a2 :: some (.sc v) :: e) fun y e1 => rd (.sc v) y fun z => RD.nx (e1.set 3 (some z)) := by simp [sAug]
@[simp ↓] theorem q_ne3 {a0 a1 a2 : Option D} {rd : RD2} {wb : WE} {R : D → En → Prop} : wBinNE rd 3 wb (a0 :: a1 :: a2 :: some d :: e) R = wb (a0 :: a1 :: a2 :: some d :: e) fun y e2 => ∃ x, e2[3]? = some (some x) ∧ rd x y fun z => R z e2 := by simp [wBinNE]
@[simp ↓ high] theorem q_neC3 {a0 a1 a2 : Option D} {rd : RD2} {R : D → En → Prop} {c : D} : wBinNE rd 3 (wC c) (a0 :: a1 :: a2 :: some d :: e) R = rd d c fun z => R z (a0 :: a1 :: a2 :: some d :: e) := by simp [wBinNE, wC]
@[simp ↓ high] theorem q_neV3 {a0 a1 a2 : Option D} {rd : RD2} {R : D → En → Prop} {j : Nat} : wBinNE rd 3 (wVal j) (a0 :: a1 :: a2 :: some d :: e) R = wVal j (a0 :: a1 :: a2 :: some d :: e) fun y e2 => rd d y fun z => R z e2 := by
  apply propext; simp only [wBinNE, wVal]; constructor
  · rintro ⟨_, y, h1, h2, x, h3, h4⟩; simp at h3; subst h3; exact ⟨y, h1, h2, h4⟩
  · rintro ⟨y, h1, h2, h4⟩; exact ⟨⟨d, by simp⟩, y, h1, h2, d, by simp, h4⟩
@[simp ↓] theorem q_app3 {a0 a1 a2 : Option D} {kf : Bool} {we : WE} {R : D → En → Prop} : wAppN kf 3 we (a0 :: a1 :: a2 :: some (.obj true .lst xs) :: e) R = we (a0 :: a1 :: a2 :: some (.obj true .lst xs) :: e) fun y e1 => ownL (e1[3]?) fun xs => xs.length < sizeLine ∧ R .non (e1.set 3 (some (.lst true (xs ++ [inK kf y])))) := by simp [wAppN, ownL]
@[simp ↓] theorem q_popN3 {a0 a1 a2 : Option D} {wi : WE} {R : D → En → Prop} : wPopAtN 3 wi (a0 :: a1 :: a2 :: some (.obj true .lst xs) :: e) R = wi (a0 :: a1 :: a2 :: some (.obj true .lst xs) :: e) fun k e1 => asI k fun kk => ownL (e1[3]?) fun xs => -(2 ^ 63) ≤ kk ∧ kk < 2 ^ 63 ∧ ∃ j x, L2.ixN xs.length kk = some j ∧ xs[j]? = some x ∧ x.fz = true ∧ R x (e1.set 3 (some (.lst true (xs.eraseIdx j)))) := by simp [wPopAtN, ownL]
@[simp ↓] theorem q_ins3 {a0 a1 a2 : Option D} {wi we : WE} {R : D → En → Prop} : wInsN 3 wi we (a0 :: a1 :: a2 :: some (.obj true .lst xs) :: e) R = wi (a0 :: a1 :: a2 :: some (.obj true .lst xs) :: e) fun k e1 => asI k fun kk => we e1 fun y e2 => ownL (e2[3]?) fun xs => D.fzL xs = true ∧ xs.length < sizeLine ∧ 0 ≤ kk ∧ kk < 2 ^ 63 ∧ R .non (e2.set 3 (some (.lst true (xs.take kk.toNat ++ [y.frz] ++ xs.drop kk.toNat)))) := by simp [wInsN, ownL]
@[simp ↓] theorem q_augN3 {a0 a1 a2 : Option D} {rd : RD2} {wi we : WE} {RD : EN} : sAugNx rd 3 wi we (a0 :: a1 :: a2 :: some d :: e) RD = wi (a0 :: a1 :: a2 :: some d :: e) fun k e1 => asI k fun kk => ownL (e1[3]?) fun xs => ∃ j x, L2.ixN xs.length kk = some j ∧ xs[j]? = some x ∧ x.fz = true ∧ we e1 fun y e2 => ownL (e2[3]?) fun ys => ∃ j2, L2.ixN ys.length kk = some j2 ∧ rd x y fun z => RD.nx (e2.set 3 (some (.lst true (ys.set j2 z)))) := by simp [sAugNx]
@[simp ↓] theorem q_set3 {a0 a1 a2 : Option D} {q : Option D} : List.set (a0 :: a1 :: a2 :: o :: e) 3 q = (a0 :: a1 :: a2 :: q :: e) := by simp
@[simp ↓] theorem q_get3 {a0 a1 a2 : Option D} : ((a0 :: a1 :: a2 :: o :: e) : En)[3]? = some o := by simp
@[simp ↓] theorem q_val4 {a0 a1 a2 a3 : Option D} {R : D → En → Prop} : wVal 4 (a0 :: a1 :: a2 :: a3 :: some d :: e) R = (d.fz = true ∧ R d (a0 :: a1 :: a2 :: a3 :: some d :: e)) := by simp [wVal]
@[simp ↓ high] theorem q_valS4 {a0 a1 a2 a3 : Option D} {R : D → En → Prop} : wVal 4 (a0 :: a1 :: a2 :: a3 :: some (.sc v) :: e) R = R (.sc v) (a0 :: a1 :: a2 :: a3 :: some (.sc v) :: e) := by simp [wVal]
@[simp ↓] theorem q_var4 {a0 a1 a2 a3 : Option D} {R : D → En → Prop} : wVar 4 (a0 :: a1 :: a2 :: a3 :: some d :: e) R = R d.frz (a0 :: a1 :: a2 :: a3 :: some d.frz :: e) := by simp [wVar]
@[simp ↓ high] theorem q_varL4 {a0 a1 a2 a3 : Option D} {R : D → En → Prop} {w : Bool} : wVar 4 (a0 :: a1 :: a2 :: a3 :: some (.obj w .lst xs) :: e) R = R (.obj false .lst (D.frzL xs)) (a0 :: a1 :: a2 :: a3 :: some (.obj false .lst (D.frzL xs)) :: e) := by simp [wVar]
@[simp ↓] theorem q_move4 {a0 a1 a2 a3 : Option D} {R : D → En → Prop} : wMove 4 (a0 :: a1 :: a2 :: a3 :: some d :: e) R = R d (a0 :: a1 :: a2 :: a3 :: none :: e) := by simp [wMove]
@[simp ↓] theorem q_bn4 {a0 a1 a2 a3 : Option D} {R : D → Prop} : bName 4 (a0 :: a1 :: a2 :: a3 :: some d :: e) R = R d := by simp [bName]
@[simp ↓] theorem q_mn4 {a0 a1 a2 a3 : Option D} {R : Nat → D → (D → D) → Prop} : mName 4 (a0 :: a1 :: a2 :: a3 :: some d :: e) R = R 4 d id := by simp [mName]
@[simp ↓] theorem q_gn4 {a0 a1 a2 a3 : Option D} {R : En → Prop} : gNm 4 d (a0 :: a1 :: a2 :: a3 :: o :: e) R = R (a0 :: a1 :: a2 :: a3 :: some d :: e) := by simp [gNm]
@[simp ↓] theorem q_gf4 {a0 a1 a2 a3 : Option D} {R : En → Prop} : gFz 4 d (a0 :: a1 :: a2 :: a3 :: o :: e) R = R (a0 :: a1 :: a2 :: a3 :: some d.frz :: e) := by simp [gFz]
@[simp ↓ high] theorem q_gfS4 {a0 a1 a2 a3 : Option D} {R : En → Prop} : gFz 4 (.sc v) (a0 :: a1 :: a2 :: a3 :: o :: e) R = R (a0 :: a1 :: a2 :: a3 :: some (.sc v) :: e) := by simp [gFz]
@[simp ↓ high] theorem q_gfT4 {a0 a1 a2 a3 : Option D} {R : En → Prop} : gFz 4 (.tup xs) (a0 :: a1 :: a2 :: a3 :: o :: e) R = R (a0 :: a1 :: a2 :: a3 :: some (.tup (D.frzL xs)) :: e) := by simp [gFz]
@[simp ↓ high] theorem q_gfL4 {a0 a1 a2 a3 : Option D} {R : En → Prop} {w : Bool} : gFz 4 (.obj w .lst xs) (a0 :: a1 :: a2 :: a3 :: o :: e) R = R (a0 :: a1 :: a2 :: a3 :: some (.obj false .lst (D.frzL xs)) :: e) := by simp [gFz]
@[simp ↓] theorem q_ref4 {a0 a1 a2 a3 : Option D} {wc : WC} {R : List AV → En → Prop} : cRef 4 wc (a0 :: a1 :: a2 :: a3 :: some d :: e) R = wc (a0 :: a1 :: a2 :: a3 :: some d :: e) fun is e2 => R (.ref 4 :: is) e2 := by simp [cRef]
@[simp ↓] theorem q_aug4 {a0 a1 a2 a3 : Option D} {rd : RD2} {we : WE} {RD : EN} : sAug 4 rd we (a0 :: a1 :: a2 :: a3 :: some (.sc v) :: e) RD = we (a0 :: a1 :: a2 :: a3 :: some (.sc v) :: e) fun y e1 => rd (.sc v) y fun z => RD.nx (e1.set 4 (some z)) := by simp [sAug]
@[simp ↓] theorem q_ne4 {a0 a1 a2 a3 : Option D} {rd : RD2} {wb : WE} {R : D → En → Prop} : wBinNE rd 4 wb (a0 :: a1 :: a2 :: a3 :: some d :: e) R = wb (a0 :: a1 :: a2 :: a3 :: some d :: e) fun y e2 => ∃ x, e2[4]? = some (some x) ∧ rd x y fun z => R z e2 := by simp [wBinNE]
@[simp ↓ high] theorem q_neC4 {a0 a1 a2 a3 : Option D} {rd : RD2} {R : D → En → Prop} {c : D} : wBinNE rd 4 (wC c) (a0 :: a1 :: a2 :: a3 :: some d :: e) R = rd d c fun z => R z (a0 :: a1 :: a2 :: a3 :: some d :: e) := by simp [wBinNE, wC]
@[simp ↓ high] theorem q_neV4 {a0 a1 a2 a3 : Option D} {rd : RD2} {R : D → En → Prop} {j : Nat} : wBinNE rd 4 (wVal j) (a0 :: a1 :: a2 :: a3 :: some d :: e) R = wVal j (a0 :: a1 :: a2 :: a3 :: some d :: e) fun y e2 => rd d y fun z => R z e2 := by
  apply propext; simp only [wBinNE, wVal]; constructor
  · rintro ⟨_, y, h1, h2, x, h3, h4⟩; simp at h3; subst h3; exact ⟨y, h1, h2, h4⟩
  · rintro ⟨y, h1, h2, h4⟩; exact ⟨⟨d, by simp⟩, y, h1, h2, d, by simp, h4⟩
@[simp ↓] theorem q_app4 {a0 a1 a2 a3 : Option D} {kf : Bool} {we : WE} {R : D → En → Prop} : wAppN kf 4 we (a0 :: a1 :: a2 :: a3 :: some (.obj true .lst xs) :: e) R = we (a0 :: a1 :: a2 :: a3 :: some (.obj true .lst xs) :: e) fun y e1 => ownL (e1[4]?) fun xs => xs.length < sizeLine ∧ R .non (e1.set 4 (some (.lst true (xs ++ [inK kf y])))) := by simp [wAppN, ownL]
@[simp ↓] theorem q_popN4 {a0 a1 a2 a3 : Option D} {wi : WE} {R : D → En → Prop} : wPopAtN 4 wi (a0 :: a1 :: a2 :: a3 :: some (.obj true .lst xs) :: e) R = wi (a0 :: a1 :: a2 :: a3 :: some (.obj true .lst xs) :: e) fun k e1 => asI k fun kk => ownL (e1[4]?) fun xs => -(2 ^ 63) ≤ kk ∧ kk < 2 ^ 63 ∧ ∃ j x, L2.ixN xs.length kk = some j ∧ xs[j]? = some x ∧ x.fz = true ∧ R x (e1.set 4 (some (.lst true (xs.eraseIdx j)))) := by simp [wPopAtN, ownL]
@[simp ↓] theorem q_ins4 {a0 a1 a2 a3 : Option D} {wi we : WE} {R : D → En → Prop} : wInsN 4 wi we (a0 :: a1 :: a2 :: a3 :: some (.obj true .lst xs) :: e) R = wi (a0 :: a1 :: a2 :: a3 :: some (.obj true .lst xs) :: e) fun k e1 => asI k fun kk => we e1 fun y e2 => ownL (e2[4]?) fun xs => D.fzL xs = true ∧ xs.length < sizeLine ∧ 0 ≤ kk ∧ kk < 2 ^ 63 ∧ R .non (e2.set 4 (some (.lst true (xs.take kk.toNat ++ [y.frz] ++ xs.drop kk.toNat)))) := by simp [wInsN, ownL]
@[simp ↓] theorem q_augN4 {a0 a1 a2 a3 : Option D} {rd : RD2} {wi we : WE} {RD : EN} : sAugNx rd 4 wi we (a0 :: a1 :: a2 :: a3 :: some d :: e) RD = wi (a0 :: a1 :: a2 :: a3 :: some d :: e) fun k e1 => asI k fun kk => ownL (e1[4]?) fun xs => ∃ j x, L2.ixN xs.length kk = some j ∧ xs[j]? = some x ∧ x.fz = true ∧ we e1 fun y e2 => ownL (e2[4]?) fun ys => ∃ j2, L2.ixN ys.length kk = some j2 ∧ rd x y fun z => RD.nx (e2.set 4 (some (.lst true (ys.set j2 z)))) := by simp [sAugNx]
@[simp ↓] theorem q_set4 {a0 a1 a2 a3 : Option D} {q : Option D} : List.set (a0 :: a1 :: a2 :: a3 :: o :: e) 4 q = (a0 :: a1 :: a2 :: a3 :: q :: e) := by simp
@[simp ↓] theorem q_get4 {a0 a1 a2 a3 : Option D} : ((a0 :: a1 :: a2 :: a3 :: o :: e) : En)[4]? = some o := by simp
@[simp ↓] theorem q_val5 {a0 a1 a2 a3 a4 : Option D} {R : D → En → Prop} : wVal 5 (a0 :: a1 :: a2 :: a3 :: a4 :: some d :: e) R = (d.fz = true ∧ R d (a0 :: a1 :: a2 :: a3 :: a4 :: some d :: e)) := by simp [wVal]
@[simp ↓ high] theorem q_valS5 {a0 a1 a2 a3 a4 : Option D} {R : D → En → Prop} : wVal 5 (a0 :: a1 :: a2 :: a3 :: a4 :: some (.sc v) :: e) R = R (.sc v) (a0 :: a1 :: a2 :: a3 :: a4 :: some (.sc v) :: e) := by simp [wVal]
@[simp ↓] theorem q_var5 {a0 a1 a2 a3 a4 : Option D} {R : D → En → Prop} : wVar 5 (a0 :: a1 :: a2 :: a3 :: a4 :: some d :: e) R = R d.frz (a0 :: a1 :: a2 :: a3 :: a4 :: some d.frz :: e) := by simp [wVar]
@[simp ↓ high] theorem q_varL5 {a0 a1 a2 a3 a4 : Option D} {R : D → En → Prop} {w : Bool} : wVar 5 (a0 :: a1 :: a2 :: a3 :: a4 :: some (.obj w .lst xs) :: e) R = R (.obj false .lst (D.frzL xs)) (a0 :: a1 :: a2 :: a3 :: a4 :: some (.obj false .lst (D.frzL xs)) :: e) := by simp [wVar]
@[simp ↓] theorem q_move5 {a0 a1 a2 a3 a4 : Option D} {R : D → En → Prop} : wMove 5 (a0 :: a1 :: a2 :: a3 :: a4 :: some d :: e) R = R d (a0 :: a1 :: a2 :: a3 :: a4 :: none :: e) := by simp [wMove]
@[simp ↓] theorem q_bn5 {a0 a1 a2 a3 a4 : Option D} {R : D → Prop} : bName 5 (a0 :: a1 :: a2 :: a3 :: a4 :: some d :: e) R = R d := by simp [bName]
@[simp ↓] theorem q_mn5 {a0 a1 a2 a3 a4 : Option D} {R : Nat → D → (D → D) → Prop} : mName 5 (a0 :: a1 :: a2 :: a3 :: a4 :: some d :: e) R = R 5 d id := by simp [mName]
@[simp ↓] theorem q_gn5 {a0 a1 a2 a3 a4 : Option D} {R : En → Prop} : gNm 5 d (a0 :: a1 :: a2 :: a3 :: a4 :: o :: e) R = R (a0 :: a1 :: a2 :: a3 :: a4 :: some d :: e) := by simp [gNm]
@[simp ↓] theorem q_gf5 {a0 a1 a2 a3 a4 : Option D} {R : En → Prop} : gFz 5 d (a0 :: a1 :: a2 :: a3 :: a4 :: o :: e) R = R (a0 :: a1 :: a2 :: a3 :: a4 :: some d.frz :: e) := by simp [gFz]
@[simp ↓ high] theorem q_gfS5 {a0 a1 a2 a3 a4 : Option D} {R : En → Prop} : gFz 5 (.sc v) (a0 :: a1 :: a2 :: a3 :: a4 :: o :: e) R = R (a0 :: a1 :: a2 :: a3 :: a4 :: some (.sc v) :: e) := by simp [gFz]
@[simp ↓ high] theorem q_gfT5 {a0 a1 a2 a3 a4 : Option D} {R : En → Prop} : gFz 5 (.tup xs) (a0 :: a1 :: a2 :: a3 :: a4 :: o :: e) R = R (a0 :: a1 :: a2 :: a3 :: a4 :: some (.tup (D.frzL xs)) :: e) := by simp [gFz]
@[simp ↓ high] theorem q_gfL5 {a0 a1 a2 a3 a4 : Option D} {R : En → Prop} {w : Bool} : gFz 5 (.obj w .lst xs) (a0 :: a1 :: a2 :: a3 :: a4 :: o :: e) R = R (a0 :: a1 :: a2 :: a3 :: a4 :: some (.obj false .lst (D.frzL xs)) :: e) := by simp [gFz]
@[simp ↓] theorem q_ref5 {a0 a1 a2 a3 a4 : Option D} {wc : WC} {R : List AV → En → Prop} : cRef 5 wc (a0 :: a1 :: a2 :: a3 :: a4 :: some d :: e) R = wc (a0 :: a1 :: a2 :: a3 :: a4 :: some d :: e) fun is e2 => R (.ref 5 :: is) e2 := by simp [cRef]
@[simp ↓] theorem q_aug5 {a0 a1 a2 a3 a4 : Option D} {rd : RD2} {we : WE} {RD : EN} : sAug 5 rd we (a0 :: a1 :: a2 :: a3 :: a4 :: some (.sc v) :: e) RD = we (a0 :: a1 :: a2 :: a3 :: a4 :: some (.sc v) :: e) fun y e1 => rd (.sc v) y fun z => RD.nx (e1.set 5 (some z)) := by simp [sAug]
@[simp ↓] theorem q_ne5 {a0 a1 a2 a3 a4 : Option D} {rd : RD2} {wb : WE} {R : D → En → Prop} : wBinNE rd 5 wb (a0 :: a1 :: a2 :: a3 :: a4 :: some d :: e) R = wb (a0 :: a1 :: a2 :: a3 :: a4 :: some d :: e) fun y e2 => ∃ x, e2[5]? = some (some x) ∧ rd x y fun z => R z e2 := by simp [wBinNE]
@[simp ↓ high] theorem q_neC5 {a0 a1 a2 a3 a4 : Option D} {rd : RD2} {R : D → En → Prop} {c : D} : wBinNE rd 5 (wC c) (a0 :: a1 :: a2 :: a3 :: a4 :: some d :: e) R = rd d c fun z => R z (a0 :: a1 :: a2 :: a3 :: a4 :: some d :: e) := by simp [wBinNE, wC]
@[simp ↓ high] theorem q_neV5 {a0 a1 a2 a3 a4 : Option D} {rd : RD2} {R : D → En → Prop} {j : Nat} : wBinNE rd 5 (wVal j) (a0 :: a1 :: a2 :: a3 :: a4 :: some d :: e) R = wVal j (a0 :: a1 :: a2 :: a3 :: a4 :: some d :: e) fun y e2 => rd d y fun z => R z e2 := by
  apply propext; simp only [wBinNE, wVal]; constructor
  · rintro ⟨_, y, h1, h2, x, h3, h4⟩; simp at h3; subst h3; exact ⟨y, h1, h2, h4⟩
  · rintro ⟨y, h1, h2, h4⟩; exact ⟨⟨d, by simp⟩, y, h1, h2, d, by simp, h4⟩
@[simp ↓] theorem q_app5 {a0 a1 a2 a3 a4 : Option D} {kf : Bool} {we : WE} {R : D → En → Prop} : wAppN kf 5 we (a0 :: a1 :: a2 :: a3 :: a4 :: some (.obj true .lst xs) :: e) R = we (a0 :: a1 :: a2 :: a3 :: a4 :: some (.obj true .lst xs) :: e) fun y e1 => ownL (e1[5]?) fun xs => xs.length < sizeLine ∧ R .non (e1.set 5 (some (.lst true (xs ++ [inK kf y])))) := by simp [wAppN, ownL]
@[simp ↓] theorem q_popN5 {a0 a1 a2 a3 a4 : Option D} {wi : WE} {R : D → En → Prop} : wPopAtN 5 wi (a0 :: a1 :: a2 :: a3 :: a4 :: some (.obj true .lst xs) :: e) R = wi (a0 :: a1 :: a2 :: a3 :: a4 :: some (.obj true .lst xs) :: e) fun k e1 => asI k fun kk => ownL (e1[5]?) fun xs => -(2 ^ 63) ≤ kk ∧ kk < 2 ^ 63 ∧ ∃ j x, L2.ixN xs.length kk = some j ∧ xs[j]? = some x ∧ x.fz = true ∧ R x (e1.set 5 (some (.lst true (xs.eraseIdx j)))) := by simp [wPopAtN, ownL]
@[simp ↓] theorem q_ins5 {a0 a1 a2 a3 a4 : Option D} {wi we : WE} {R : D → En → Prop} : wInsN 5 wi we (a0 :: a1 :: a2 :: a3 :: a4 :: some (.obj true .lst xs) :: e) R = wi (a0 :: a1 :: a2 :: a3 :: a4 :: some (.obj true .lst xs) :: e) fun k e1 => asI k fun kk => we e1 fun y e2 => ownL (e2[5]?) fun xs => D.fzL xs = true ∧ xs.length < sizeLine ∧ 0 ≤ kk ∧ kk < 2 ^ 63 ∧ R .non (e2.set 5 (some (.lst true (xs.take kk.toNat ++ [y.frz] ++ xs.drop kk.toNat)))) := by simp [wInsN, ownL]
@[simp ↓] theorem q_augN5 {a0 a1 a2 a3 a4 : Option D} {rd : RD2} {wi we : WE} {RD : EN} : sAugNx rd 5 wi we (a0 :: a1 :: a2 :: a3 :: a4 :: some d :: e) RD = wi (a0 :: a1 :: a2 :: a3 :: a4 :: some d :: e) fun k e1 => asI k fun kk => ownL (e1[5]?) fun xs => ∃ j x, L2.ixN xs.length kk = some j ∧ xs[j]? = some x ∧ x.fz = true ∧ we e1 fun y e2 => ownL (e2[5]?) fun ys => ∃ j2, L2.ixN ys.length kk = some j2 ∧ rd x y fun z => RD.nx (e2.set 5 (some (.lst true (ys.set j2 z)))) := by simp [sAugNx]
@[simp ↓] theorem q_set5 {a0 a1 a2 a3 a4 : Option D} {q : Option D} : List.set (a0 :: a1 :: a2 :: a3 :: a4 :: o :: e) 5 q = (a0 :: a1 :: a2 :: a3 :: a4 :: q :: e) := by simp
@[simp ↓] theorem q_get5 {a0 a1 a2 a3 a4 : Option D} : ((a0 :: a1 :: a2 :: a3 :: a4 :: o :: e) : En)[5]? = some o := by simp
@[simp ↓] theorem q_val6 {a0 a1 a2 a3 a4 a5 : Option D} {R : D → En → Prop} : wVal 6 (a0 :: a1 :: a2 :: a3 :: a4 :: a5 :: some d :: e) R = (d.fz = true ∧ R d (a0 :: a1 :: a2 :: a3 :: a4 :: a5 :: some d :: e)) := by simp [wVal]
@[simp ↓ high] theorem q_valS6 {a0 a1 a2 a3 a4 a5 : Option D} {R : D → En → Prop} : wVal 6 (a0 :: a1 :: a2 :: a3 :: a4 :: a5 :: some (.sc v) :: e) R = R (.sc v) (a0 :: a1 :: a2 :: a3 :: a4 :: a5 :: some (.sc v) :: e) := by simp [wVal]
@[simp ↓] theorem q_var6 {a0 a1 a2 a3 a4 a5 : Option D} {R : D → En → Prop} : wVar 6 (a0 :: a1 :: a2 :: a3 :: a4 :: a5 :: some d :: e) R = R d.frz (a0 :: a1 :: a2 :: a3 :: a4 :: a5 :: some d.frz :: e) := by simp [wVar]
@[simp ↓ high] theorem q_varL6 {a0 a1 a2 a3 a4 a5 : Option D} {R : D → En → Prop} {w : Bool} : wVar 6 (a0 :: a1 :: a2 :: a3 :: a4 :: a5 :: some (.obj w .lst xs) :: e) R = R (.obj false .lst (D.frzL xs)) (a0 :: a1 :: a2 :: a3 :: a4 :: a5 :: some (.obj false .lst (D.frzL xs)) :: e) := by simp [wVar]
@[simp ↓] theorem q_move6 {a0 a1 a2 a3 a4 a5 : Option D} {R : D → En → Prop} : wMove 6 (a0 :: a1 :: a2 :: a3 :: a4 :: a5 :: some d :: e) R = R d (a0 :: a1 :: a2 :: a3 :: a4 :: a5 :: none :: e) := by simp [wMove]
@[simp ↓] theorem q_bn6 {a0 a1 a2 a3 a4 a5 : Option D} {R : D → Prop} : bName 6 (a0 :: a1 :: a2 :: a3 :: a4 :: a5 :: some d :: e) R = R d := by simp [bName]
@[simp ↓] theorem q_mn6 {a0 a1 a2 a3 a4 a5 : Option D} {R : Nat → D → (D → D) → Prop} : mName 6 (a0 :: a1 :: a2 :: a3 :: a4 :: a5 :: some d :: e) R = R 6 d id := by simp [mName]
@[simp ↓] theorem q_gn6 {a0 a1 a2 a3 a4 a5 : Option D} {R : En → Prop} : gNm 6 d (a0 :: a1 :: a2 :: a3 :: a4 :: a5 :: o :: e) R = R (a0 :: a1 :: a2 :: a3 :: a4 :: a5 :: some d :: e) := by simp [gNm]
@[simp ↓] theorem q_gf6 {a0 a1 a2 a3 a4 a5 : Option D} {R : En → Prop} : gFz 6 d (a0 :: a1 :: a2 :: a3 :: a4 :: a5 :: o :: e) R = R (a0 :: a1 :: a2 :: a3 :: a4 :: a5 :: some d.frz :: e) := by simp [gFz]
@[simp ↓ high] theorem q_gfS6 {a0 a1 a2 a3 a4 a5 : Option D} {R : En → Prop} : gFz 6 (.sc v) (a0 :: a1 :: a2 :: a3 :: a4 :: a5 :: o :: e) R = R (a0 :: a1 :: a2 :: a3 :: a4 :: a5 :: some (.sc v) :: e) := by simp [gFz]
@[simp ↓ high] theorem q_gfT6 {a0 a1 a2 a3 a4 a5 : Option D} {R : En → Prop} : gFz 6 (.tup xs) (a0 :: a1 :: a2 :: a3 :: a4 :: a5 :: o :: e) R = R (a0 :: a1 :: a2 :: a3 :: a4 :: a5 :: some (.tup (D.frzL xs)) :: e) := by simp [gFz]
@[simp ↓ high] theorem q_gfL6 {a0 a1 a2 a3 a4 a5 : Option D} {R : En → Prop} {w : Bool} : gFz 6 (.obj w .lst xs) (a0 :: a1 :: a2 :: a3 :: a4 :: a5 :: o :: e) R = R (a0 :: a1 :: a2 :: a3 :: a4 :: a5 :: some (.obj false .lst (D.frzL xs)) :: e) := by simp [gFz]
@[simp ↓] theorem q_ref6 {a0 a1 a2 a3 a4 a5 : Option D} {wc : WC} {R : List AV → En → Prop} : cRef 6 wc (a0 :: a1 :: a2 :: a3 :: a4 :: a5 :: some d :: e) R = wc (a0 :: a1 :: a2 :: a3 :: a4 :: a5 :: some d :: e) fun is e2 => R (.ref 6 :: is) e2 := by simp [cRef]
@[simp ↓] theorem q_aug6 {a0 a1 a2 a3 a4 a5 : Option D} {rd : RD2} {we : WE} {RD : EN} : sAug 6 rd we (a0 :: a1 :: a2 :: a3 :: a4 :: a5 :: some (.sc v) :: e) RD = we (a0 :: a1 :: a2 :: a3 :: a4 :: a5 :: some (.sc v) :: e) fun y e1 => rd (.sc v) y fun z => RD.nx (e1.set 6 (some z)) := by simp [sAug]
@[simp ↓] theorem q_ne6 {a0 a1 a2 a3 a4 a5 : Option D} {rd : RD2} {wb : WE} {R : D → En → Prop} : wBinNE rd 6 wb (a0 :: a1 :: a2 :: a3 :: a4 :: a5 :: some d :: e) R = wb (a0 :: a1 :: a2 :: a3 :: a4 :: a5 :: some d :: e) fun y e2 => ∃ x, e2[6]? = some (some x) ∧ rd x y fun z => R z e2 := by simp [wBinNE]
@[simp ↓ high] theorem q_neC6 {a0 a1 a2 a3 a4 a5 : Option D} {rd : RD2} {R : D → En → Prop} {c : D} : wBinNE rd 6 (wC c) (a0 :: a1 :: a2 :: a3 :: a4 :: a5 :: some d :: e) R = rd d c fun z => R z (a0 :: a1 :: a2 :: a3 :: a4 :: a5 :: some d :: e) := by simp [wBinNE, wC]
@[simp ↓ high] theorem q_neV6 {a0 a1 a2 a3 a4 a5 : Option D} {rd : RD2} {R : D → En → Prop} {j : Nat} : wBinNE rd 6 (wVal j) (a0 :: a1 :: a2 :: a3 :: a4 :: a5 :: some d :: e) R = wVal j (a0 :: a1 :: a2 :: a3 :: a4 :: a5 :: some d :: e) fun y e2 => rd d y fun z => R z e2 := by
  apply propext; simp only [wBinNE, wVal]; constructor
  · rintro ⟨_, y, h1, h2, x, h3, h4⟩; simp at h3; subst h3; exact ⟨y, h1, h2, h4⟩
  · rintro ⟨y, h1, h2, h4⟩; exact ⟨⟨d, by simp⟩, y, h1, h2, d, by simp, h4⟩
@[simp ↓] theorem q_app6 {a0 a1 a2 a3 a4 a5 : Option D} {kf : Bool} {we : WE} {R : D → En → Prop} : wAppN kf 6 we (a0 :: a1 :: a2 :: a3 :: a4 :: a5 :: some (.obj true .lst xs) :: e) R = we (a0 :: a1 :: a2 :: a3 :: a4 :: a5 :: some (.obj true .lst xs) :: e) fun y e1 => ownL (e1[6]?) fun xs => xs.length < sizeLine ∧ R .non (e1.set 6 (some (.lst true (xs ++ [inK kf y])))) := by simp [wAppN, ownL]
@[simp ↓] theorem q_popN6 {a0 a1 a2 a3 a4 a5 : Option D} {wi : WE} {R : D → En → Prop} : wPopAtN 6 wi (a0 :: a1 :: a2 :: a3 :: a4 :: a5 :: some (.obj true .lst xs) :: e) R = wi (a0 :: a1 :: a2 :: a3 :: a4 :: a5 :: some (.obj true .lst xs) :: e) fun k e1 => asI k fun kk => ownL (e1[6]?) fun xs => -(2 ^ 63) ≤ kk ∧ kk < 2 ^ 63 ∧ ∃ j x, L2.ixN xs.length kk = some j ∧ xs[j]? = some x ∧ x.fz = true ∧ R x (e1.set 6 (some (.lst true (xs.eraseIdx j)))) := by simp [wPopAtN, ownL]
@[simp ↓] theorem q_ins6 {a0 a1 a2 a3 a4 a5 : Option D} {wi we : WE} {R : D → En → Prop} : wInsN 6 wi we (a0 :: a1 :: a2 :: a3 :: a4 :: a5 :: some (.obj true .lst xs) :: e) R = wi (a0 :: a1 :: a2 :: a3 :: a4 :: a5 :: some (.obj true .lst xs) :: e) fun k e1 => asI k fun kk => we e1 fun y e2 => ownL (e2[6]?) fun xs => D.fzL xs = true ∧ xs.length < sizeLine ∧ 0 ≤ kk ∧ kk < 2 ^ 63 ∧ R .non (e2.set 6 (some (.lst true (xs.take kk.toNat ++ [y.frz] ++ xs.drop kk.toNat)))) := by simp [wInsN, ownL]
@[simp ↓] theorem q_augN6 {a0 a1 a2 a3 a4 a5 : Option D} {rd : RD2} {wi we : WE} {RD : EN} : sAugNx rd 6 wi we (a0 :: a1 :: a2 :: a3 :: a4 :: a5 :: some d :: e) RD = wi (a0 :: a1 :: a2 :: a3 :: a4 :: a5 :: some d :: e) fun k e1 => asI k fun kk => ownL (e1[6]?) fun xs => ∃ j x, L2.ixN xs.length kk = some j ∧ xs[j]? = some x ∧ x.fz = true ∧ we e1 fun y e2 => ownL (e2[6]?) fun ys => ∃ j2, L2.ixN ys.length kk = some j2 ∧ rd x y fun z => RD.nx (e2.set 6 (some (.lst true (ys.set j2 z)))) := by simp [sAugNx]
@[simp ↓] theorem q_set6 {a0 a1 a2 a3 a4 a5 : Option D} {q : Option D} : List.set (a0 :: a1 :: a2 :: a3 :: a4 :: a5 :: o :: e) 6 q = (a0 :: a1 :: a2 :: a3 :: a4 :: a5 :: q :: e) := by simp
@[simp ↓] theorem q_get6 {a0 a1 a2 a3 a4 a5 : Option D} : ((a0 :: a1 :: a2 :: a3 :: a4 :: a5 :: o :: e) : En)[6]? = some o := by simp
@[simp ↓] theorem q_val7 {a0 a1 a2 a3 a4 a5 a6 : Option D} {R : D → En → Prop} : wVal 7 (a0 :: a1 :: a2 :: a3 :: a4 :: a5 :: a6 :: some d :: e) R = (d.fz = true ∧ R d (a0 :: a1 :: a2 :: a3 :: a4 :: a5 :: a6 :: some d :: e)) := by simp [wVal]
@[simp ↓ high] theorem q_valS7 {a0 a1 a2 a3 a4 a5 a6 : Option D} {R : D → En → Prop} : wVal 7 (a0 :: a1 :: a2 :: a3 :: a4 :: a5 :: a6 :: some (.sc v) :: e) R = R (.sc v) (a0 :: a1 :: a2 :: a3 :: a4 :: a5 :: a6 :: some (.sc v) :: e) := by simp [wVal]
@[simp ↓] theorem q_var7 {a0 a1 a2 a3 a4 a5 a6 : Option D} {R : D → En → Prop} : wVar 7 (a0 :: a1 :: a2 :: a3 :: a4 :: a5 :: a6 :: some d :: e) R = R d.frz (a0 :: a1 :: a2 :: a3 :: a4 :: a5 :: a6 :: some d.frz :: e) := by simp [wVar]
@[simp ↓ high] theorem q_varL7 {a0 a1 a2 a3 a4 a5 a6 : Option D} {R : D → En → Prop} {w : Bool} : wVar 7 (a0 :: a1 :: a2 :: a3 :: a4 :: a5 :: a6 :: some (.obj w .lst xs) :: e) R = R (.obj false .lst (D.frzL xs)) (a0 :: a1 :: a2 :: a3 :: a4 :: a5 :: a6 :: some (.obj false .lst (D.frzL xs)) :: e) := by simp [wVar]
@[simp ↓] theorem q_move7 {a0 a1 a2 a3 a4 a5 a6 : Option D} {R : D → En → Prop} : wMove 7 (a0 :: a1 :: a2 :: a3 :: a4 :: a5 :: a6 :: some d :: e) R = R d (a0 :: a1 :: a2 :: a3 :: a4 :: a5 :: a6 :: none :: e) := by simp [wMove]
@[simp ↓] theorem q_bn7 {a0 a1 a2 a3 a4 a5 a6 : Option D} {R : D → Prop} : bName 7 (a0 :: a1 :: a2 :: a3 :: a4 :: a5 :: a6 :: some d :: e) R = R d := by simp [bName]
@[simp ↓] theorem q_mn7 {a0 a1 a2 a3 a4 a5 a6 : Option D} {R : Nat → D → (D → D) → Prop} : mName 7 (a0 :: a1 :: a2 :: a3 :: a4 :: a5 :: a6 :: some d :: e) R = R 7 d id := by simp [mName]
@[simp ↓] theorem q_gn7 {a0 a1 a2 a3 a4 a5 a6 : Option D} {R : En → Prop} : gNm 7 d (a0 :: a1 :: a2 :: a3 :: a4 :: a5 :: a6 :: o :: e) R = R (a0 :: a1 :: a2 :: a3 :: a4 :: a5 :: a6 :: some d :: e) := by simp [gNm]
@[simp ↓] theorem q_gf7 {a0 a1 a2 a3 a4 a5 a6 : Option D} {R : En → Prop} : gFz 7 d (a0 :: a1 :: a2 :: a3 :: a4 :: a5 :: a6 :: o :: e) R = R (a0 :: a1 :: a2 :: a3 :: a4 :: a5 :: a6 :: some d.frz :: e) := by simp [gFz]
@[simp ↓ high] theorem q_gfS7 {a0 a1 a2 a3 a4 a5 a6 : Option D} {R : En → Prop} : gFz 7 (.sc v) (a0 :: a1 :: a2 :: a3 :: a4 :: a5 :: a6 :: o :: e) R = R (a0 :: a1 :: a2 :: a3 :: a4 :: a5 :: a6 :: some (.sc v) :: e) := by simp [gFz]
@[simp ↓ high] theorem q_gfT7 {a0 a1 a2 a3 a4 a5 a6 : Option D} {R : En → Prop} : gFz 7 (.tup xs) (a0 :: a1 :: a2 :: a3 :: a4 :: a5 :: a6 :: o :: e) R = R (a0 :: a1 :: a2 :: a3 :: a4 :: a5 :: a6 :: some (.tup (D.frzL xs)) :: e) := by simp [gFz]
@[simp ↓ high] theorem q_gfL7 {a0 a1 a2 a3 a4 a5 a6 : Option D} {R : En → Prop} {w : Bool} : gFz 7 (.obj w .lst xs) (a0 :: a1 :: a2 :: a3 :: a4 :: a5 :: a6 :: o :: e) R = R (a0 :: a1 :: a2 :: a3 :: a4 :: a5 :: a6 :: some (.obj false .lst (D.frzL xs)) :: e) := by simp [gFz]
@[simp ↓] theorem q_ref7 {a0 a1 a2 a3 a4 a5 a6 : Option D} {wc : WC} {R : List AV → En → Prop} : cRef 7 wc (a0 :: a1 :: a2 :: a3 :: a4 :: a5 :: a6 :: some d :: e) R = wc (a0 :: a1 :: a2 :: a3 :: a4 :: a5 :: a6 :: some d :: e) fun is e2 => R (.ref 7 :: is) e2 := by simp [cRef]
@[simp ↓] theorem q_aug7 {a0 a1 a2 a3 a4 a5 a6 : Option D} {rd : RD2} {we : WE} {RD : EN} : sAug 7 rd we (a0 :: a1 :: a2 :: a3 :: a4 :: a5 :: a6 :: some (.sc v) :: e) RD = we (a0 :: a1 :: a2 :: a3 :: a4 :: a5 :: a6 :: some (.sc v) :: e) fun y e1 => rd (.sc v) y fun z => RD.nx (e1.set 7 (some z)) := by simp [sAug]
@[simp ↓] theorem q_ne7 {a0 a1 a2 a3 a4 a5 a6 : Option D} {rd : RD2} {wb : WE} {R : D → En → Prop} : wBinNE rd 7 wb (a0 :: a1 :: a2 :: a3 :: a4 :: a5 :: a6 :: some d :: e) R = wb (a0 :: a1 :: a2 :: a3 :: a4 :: a5 :: a6 :: some d :: e) fun y e2 => ∃ x, e2[7]? = some (some x) ∧ rd x y fun z => R z e2 := by simp [wBinNE]
@[simp ↓ high] theorem q_neC7 {a0 a1 a2 a3 a4 a5 a6 : Option D} {rd : RD2} {R : D → En → Prop} {c : D} : wBinNE rd 7 (wC c) (a0 :: a1 :: a2 :: a3 :: a4 :: a5 :: a6 :: some d :: e) R = rd d c fun z => R z (a0 :: a1 :: a2 :: a3 :: a4 :: a5 :: a6 :: some d :: e) := by simp [wBinNE, wC]
@[simp ↓ high] theorem q_neV7 {a0 a1 a2 a3 a4 a5 a6 : Option D} {rd : RD2} {R : D → En → Prop} {j : Nat} : wBinNE rd 7 (wVal j) (a0 :: a1 :: a2 :: a3 :: a4 :: a5 :: a6 :: some d :: e) R = wVal j (a0 :: a1 :: a2 :: a3 :: a4 :: a5 :: a6 :: some d :: e) fun y e2 => rd d y fun z => R z e2 := by
  apply propext; simp only [wBinNE, wVal]; constructor
  · rintro ⟨_, y, h1, h2, x, h3, h4⟩; simp at h3; subst h3; exact ⟨y, h1, h2, h4⟩
  · rintro ⟨y, h1, h2, h4⟩; exact ⟨⟨d, by simp⟩, y, h1, h2, d, by simp, h4⟩
@[simp ↓] theorem q_app7 {a0 a1 a2 a3 a4 a5 a6 : Option D} {kf : Bool} {we : WE} {R : D → En → Prop} : wAppN kf 7 we (a0 :: a1 :: a2 :: a3 :: a4 :: a5 :: a6 :: some (.obj true .lst xs) :: e) R = we (a0 :: a1 :: a2 :: a3 :: a4 :: a5 :: a6 :: some (.obj true .lst xs) :: e) fun y e1 => ownL (e1[7]?) fun xs => xs.length < sizeLine ∧ R .non (e1.set 7 (some (.lst true (xs ++ [inK kf y])))) := by simp [wAppN, ownL]
@[simp ↓] theorem q_popN7 {a0 a1 a2 a3 a4 a5 a6 : Option D} {wi : WE} {R : D → En → Prop} : wPopAtN 7 wi (a0 :: a1 :: a2 :: a3 :: a4 :: a5 :: a6 :: some (.obj true .lst xs) :: e) R = wi (a0 :: a1 :: a2 :: a3 :: a4 :: a5 :: a6 :: some (.obj true .lst xs) :: e) fun k e1 => asI k fun kk => ownL (e1[7]?) fun xs => -(2 ^ 63) ≤ kk ∧ kk < 2 ^ 63 ∧ ∃ j x, L2.ixN xs.length kk = some j ∧ xs[j]? = some x ∧ x.fz = true ∧ R x (e1.set 7 (some (.lst true (xs.eraseIdx j)))) := by simp [wPopAtN, ownL]
@[simp ↓] theorem q_ins7 {a0 a1 a2 a3 a4 a5 a6 : Option D} {wi we : WE} {R : D → En → Prop} : wInsN 7 wi we (a0 :: a1 :: a2 :: a3 :: a4 :: a5 :: a6 :: some (.obj true .lst xs) :: e) R = wi (a0 :: a1 :: a2 :: a3 :: a4 :: a5 :: a6 :: some (.obj true .lst xs) :: e) fun k e1 => asI k fun kk => we e1 fun y e2 => ownL (e2[7]?) fun xs => D.fzL xs = true ∧ xs.length < sizeLine ∧ 0 ≤ kk ∧ kk < 2 ^ 63 ∧ R .non (e2.set 7 (some (.lst true (xs.take kk.toNat ++ [y.frz] ++ xs.drop kk.toNat)))) := by simp [wInsN, ownL]
@[simp ↓] theorem q_augN7 {a0 a1 a2 a3 a4 a5 a6 : Option D} {rd : RD2} {wi we : WE} {RD : EN} : sAugNx rd 7 wi we (a0 :: a1 :: a2 :: a3 :: a4 :: a5 :: a6 :: some d :: e) RD = wi (a0 :: a1 :: a2 :: a3 :: a4 :: a5 :: a6 :: some d :: e) fun k e1 => asI k fun kk => ownL (e1[7]?) fun xs => ∃ j x, L2.ixN xs.length kk = some j ∧ xs[j]? = some x ∧ x.fz = true ∧ we e1 fun y e2 => ownL (e2[7]?) fun ys => ∃ j2, L2.ixN ys.length kk = some j2 ∧ rd x y fun z => RD.nx (e2.set 7 (some (.lst true (ys.set j2 z)))) := by simp [sAugNx]
@[simp ↓] theorem q_set7 {a0 a1 a2 a3 a4 a5 a6 : Option D} {q : Option D} : List.set (a0 :: a1 :: a2 :: a3 :: a4 :: a5 :: a6 :: o :: e) 7 q = (a0 :: a1 :: a2 :: a3 :: a4 :: a5 :: a6 :: q :: e) := by simp
@[simp ↓] theorem q_get7 {a0 a1 a2 a3 a4 a5 a6 : Option D} : ((a0 :: a1 :: a2 :: a3 :: a4 :: a5 :: a6 :: o :: e) : En)[7]? = some o := by simp
@[simp ↓] theorem q_val8 {a0 a1 a2 a3 a4 a5 a6 a7 : Option D} {R : D → En → Prop} : wVal 8 (a0 :: a1 :: a2 :: a3 :: a4 :: a5 :: a6 :: a7 :: some d :: e) R = (d.fz = true ∧ R d (a0 :: a1 :: a2 :: a3 :: a4 :: a5 :: a6 :: a7 :: some d :: e)) := by simp [wVal]
@[simp ↓ high] theorem q_valS8 {a0 a1 a2 a3 a4 a5 a6 a7 : Option D} {R : D → En → Prop} : wVal 8 (a0 :: a1 :: a2 :: a3 :: a4 :: a5 :: a6 :: a7 :: some (.sc v) :: e) R = R (.sc v) (a0 :: a1 :: a2 :: a3 :: a4 :: a5 :: a6 :: a7 :: some (.sc v) :: e) := by simp [wVal]
@[simp ↓] theorem q_var8 {a0 a1 a2 a3 a4 a5 a6 a7 : Option D} {R : D → En → Prop} : wVar 8 (a0 :: a1 :: a2 :: a3 :: a4 :: a5 :: a6 :: a7 :: some d :: e) R = R d.frz (a0 :: a1 :: a2 :: a3 :: a4 :: a5 :: a6 :: a7 :: some d.frz :: e) := by simp [wVar]
@[simp ↓ high] theorem q_varL8 {a0 a1 a2 a3 a4 a5 a6 a7 : Option D} {R : D → En → Prop} {w : Bool} : wVar 8 (a0 :: a1 :: a2 :: a3 :: a4 :: a5 :: a6 :: a7 :: some (.obj w .lst xs) :: e) R = R (.obj false .lst (D.frzL xs)) (a0 :: a1 :: a2 :: a3 :: a4 :: a5 :: a6 :: a7 :: some (.obj false .lst (D.frzL xs)) :: e) := by simp [wVar]
@[simp ↓] theorem q_move8 {a0 a1 a2 a3 a4 a5 a6 a7 : Option D} {R : D → En → Prop} : wMove 8 (a0 :: a1 :: a2 :: a3 :: a4 :: a5 :: a6 :: a7 :: some d :: e) R = R d (a0 :: a1 :: a2 :: a3 :: a4 :: a5 :: a6 :: a7 :: none :: e) := by simp [wMove]
@[simp ↓] theorem q_bn8 {a0 a1 a2 a3 a4 a5 a6 a7 : Option D} {R : D → Prop} : bName 8 (a0 :: a1 :: a2 :: a3 :: a4 :: a5 :: a6 :: a7 :: some d :: e) R = R d := by simp [bName]
@[simp ↓] theorem q_mn8 {a0 a1 a2 a3 a4 a5 a6 a7 : Option D} {R : Nat → D → (D → D) → Prop} : mName 8 (a0 :: a1 :: a2 :: a3 :: a4 :: a5 :: a6 :: a7 :: some d :: e) R = R 8 d id := by simp [mName]
@[simp ↓] theorem q_gn8 {a0 a1 a2 a3 a4 a5 a6 a7 : Option D} {R : En → Prop} : gNm 8 d (a0 :: a1 :: a2 :: a3 :: a4 :: a5 :: a6 :: a7 :: o :: e) R = R (a0 :: a1 :: a2 :: a3 :: a4 :: a5 :: a6 :: a7 :: some d :: e) := by simp [gNm]
@[simp ↓] theorem q_gf8 {a0 a1 a2 a3 a4 a5 a6 a7 : Option D} {R : En → Prop} : gFz 8 d (a0 :: a1 :: a2 :: a3 :: a4 :: a5 :: a6 :: a7 :: o :: e) R = R (a0 :: a1 :: a2 :: a3 :: a4 :: a5 :: a6 :: a7 :: some d.frz :: e) := by simp [gFz]
@[simp ↓ high] theorem q_gfS8 {a0 a1 a2 a3 a4 a5 a6 a7 : Option D} {R : En → Prop} : gFz 8 (.sc v) (a0 :: a1 :: a2 :: a3 :: a4 :: a5 :: a6 :: a7 :: o :: e) R = R (a0 :: a1 :: a2 :: a3 :: a4 :: a5 :: a6 :: a7 :: some (.sc v) :: e) := by simp [gFz]
@[simp ↓ high] theorem q_gfT8 {a0 a1 a2 a3 a4 a5 a6 a7 : Option D} {R : En → Prop} : gFz 8 (.tup xs) (a0 :: a1 :: a2 :: a3 :: a4 :: a5 :: a6 :: a7 :: o :: e) R = R (a0 :: a1 :: a2 :: a3 :: a4 :: a5 :: a6 :: a7 :: some (.tup (D.frzL xs)) :: e) := by simp [gFz]
@[simp ↓ high] theorem q_gfL8 {a0 a1 a2 a3 a4 a5 a6 a7 : Option D} {R : En → Prop} {w : Bool} : gFz 8 (.obj w .lst xs) (a0 :: a1 :: a2 :: a3 :: a4 :: a5 :: a6 :: a7 :: o :: e) R = R (a0 :: a1 :: a2 :: a3 :: a4 :: a5 :: a6 :: a7 :: some (.obj false .lst (D.frzL xs)) :: e) := by simp [gFz]
@[simp ↓] theorem q_ref8 {a0 a1 a2 a3 a4 a5 a6 a7 : Option D} {wc : WC} {R : List AV → En → Prop} : cRef 8 wc (a0 :: a1 :: a2 :: a3 :: a4 :: a5 :: a6 :: a7 :: some d :: e) R = wc (a0 :: a1 :: a2 :: a3 :: a4 :: a5 :: a6 :: a7 :: some d :: e) fun is e2 => R (.ref 8 :: is) e2 := by simp [cRef]
@[simp ↓] theorem q_aug8 {a0 a1 a2 a3 a4 a5 a6 a7 : Option D} {rd : RD2} {we : WE} {RD : EN} : sAug 8 rd we (a0 :: a1 :: a2 :: a3 :: a4 :: a5 :: a6 :: a7 :: some (.sc v) :: e) RD = we (a0 :: a1 :: a2 :: a3 :: a4 :: a5 :: a6 :: a7 :: some (.sc v) :: e) fun y e1 => rd (.sc v) y fun z => RD.nx (e1.set 8 (some z)) := by simp [sAug]
@[simp ↓] theorem q_ne8 {a0 a1 a2 a3 a4 a5 a6 a7 : Option D} {rd : RD2} {wb : WE} {R : D → En → Prop} : wBinNE rd 8 wb (a0 :: a1 :: a2 :: a3 :: a4 :: a5 :: a6 :: a7 :: some d :: e) R = wb (a0 :: a1 :: a2 :: a3 :: a4 :: a5 :: a6 :: a7 :: some d :: e) fun y e2 => ∃ x, e2[8]? = some (some x) ∧ rd x y fun z => R z e2 := by simp [wBinNE]
@[simp ↓ high] theorem q_neC8 {a0 a1 a2 a3 a4 a5 a6 a7 : Option D} {rd : RD2} {R : D → En → Prop} {c : D} : wBinNE rd 8 (wC c) (a0 :: a1 :: a2 :: a3 :: a4 :: a5 :: a6 :: a7 :: some d :: e) R = rd d c fun z => R z (a0 :: a1 :: a2 :: a3 :: a4 :: a5 :: a6 :: a7 :: some d :: e) := by simp [wBinNE, wC]
@[simp ↓ high] theorem q_neV8 {a0 a1 a2 a3 a4 a5 a6 a7 : Option D} {rd : RD2} {R : D → En → Prop} {j : Nat} : wBinNE rd 8 (wVal j) (a0 :: a1 :: a2 :: a3 :: a4 :: a5 :: a6 :: a7 :: some d :: e) R = wVal j (a0 :: a1 :: a2 :: a3 :: a4 :: a5 :: a6 :: a7 :: some d :: e) fun y e2 => rd d y fun z => R z e2 := by
  apply propext; simp only [wBinNE, wVal]; constructor
  · rintro ⟨_, y, h1, h2, x, h3, h4⟩; simp at h3; subst h3; exact ⟨y, h1, h2, h4⟩
  · rintro ⟨y, h1, h2, h4⟩; exact ⟨⟨d, by simp⟩, y, h1, h2, d, by simp, h4⟩
@[simp ↓] theorem q_app8 {a0 a1 a2 a3 a4 a5 a6 a7 : Option D} {kf : Bool} {we : WE} {R : D → En → Prop} : wAppN kf 8 we (a0 :: a1 :: a2 :: a3 :: a4 :: a5 :: a6 :: a7 :: some (.obj true .lst xs) :: e) R = we (a0 :: a1 :: a2 :: a3 :: a4 :: a5 :: a6 :: a7 :: some (.obj true .lst xs) :: e) fun y e1 => ownL (e1[8]?) fun xs => xs.length < sizeLine ∧ R .non (e1.set 8 (some (.lst true (xs ++ [inK kf y])))) := by simp [wAppN, ownL]
@[simp ↓] theorem q_popN8 {a0 a1 a2 a3 a4 a5 a6 a7 : Option D} {wi : WE} {R : D → En → Prop} : wPopAtN 8 wi (a0 :: a1 :: a2 :: a3 :: a4 :: a5 :: a6 :: a7 :: some (.obj true .lst xs) :: e) R = wi (a0 :: a1 :: a2 :: a3 :: a4 :: a5 :: a6 :: a7 :: some (.obj true .lst xs) :: e) fun k e1 => asI k fun kk => ownL (e1[8]?) fun xs => -(2 ^ 63) ≤ kk ∧ kk < 2 ^ 63 ∧ ∃ j x, L2.ixN xs.length kk = some j ∧ xs[j]? = some x ∧ x.fz = true ∧ R x (e1.set 8 (some (.lst true (xs.eraseIdx j)))) := by simp [wPopAtN, ownL]
@[simp ↓] theorem q_ins8 {a0 a1 a2 a3 a4 a5 a6 a7 : Option D} {wi we : WE} {R : D → En → Prop} : wInsN 8 wi we (a0 :: a1 :: a2 :: a3 :: a4 :: a5 :: a6 :: a7 :: some (.obj true .lst xs) :: e) R = wi (a0 :: a1 :: a2 :: a3 :: a4 :: a5 :: a6 :: a7 :: some (.obj true .lst xs) :: e) fun k e1 => asI k fun kk => we e1 fun y e2 => ownL (e2[8]?) fun xs => D.fzL xs = true ∧ xs.length < sizeLine ∧ 0 ≤ kk ∧ kk < 2 ^ 63 ∧ R .non (e2.set 8 (some (.lst true (xs.take kk.toNat ++ [y.frz] ++ xs.drop kk.toNat)))) := by simp [wInsN, ownL]
@[simp ↓] theorem q_augN8 {a0 a1 a2 a3 a4 a5 a6 a7 : Option D} {rd : RD2} {wi we : WE} {RD : EN} : sAugNx rd 8 wi we (a0 :: a1 :: a2 :: a3 :: a4 :: a5 :: a6 :: a7 :: some d :: e) RD = wi (a0 :: a1 :: a2 :: a3 :: a4 :: a5 :: a6 :: a7 :: some d :: e) fun k e1 => asI k fun kk => ownL (e1[8]?) fun xs => ∃ j x, L2.ixN xs.length kk = some j ∧ xs[j]? = some x ∧ x.fz = true ∧ we e1 fun y e2 => ownL (e2[8]?) fun ys => ∃ j2, L2.ixN ys.length kk = some j2 ∧ rd x y fun z => RD.nx (e2.set 8 (some (.lst true (ys.set j2 z)))) := by simp [sAugNx]
@[simp ↓] theorem q_set8 {a0 a1 a2 a3 a4 a5 a6 a7 : Option D} {q : Option D} : List.set (a0 :: a1 :: a2 :: a3 :: a4 :: a5 :: a6 :: a7 :: o :: e) 8 q = (a0 :: a1 :: a2 :: a3 :: a4 :: a5 :: a6 :: a7 :: q :: e) := by simp
@[simp ↓] theorem q_get8 {a0 a1 a2 a3 a4 a5 a6 a7 : Option D} : ((a0 :: a1 :: a2 :: a3 :: a4 :: a5 :: a6 :: a7 :: o :: e) : En)[8]? = some o := by simp
@[simp ↓] theorem q_val9 {a0 a1 a2 a3 a4 a5 a6 a7 a8 : Option D} {R : D → En → Prop} : wVal 9 (a0 :: a1 :: a2 :: a3 :: a4 :: a5 :: a6 :: a7 :: a8 :: some d :: e) R = (d.fz = true ∧ R d (a0 :: a1 :: a2 :: a3 :: a4 :: a5 :: a6 :: a7 :: a8 :: some d :: e)) := by simp [wVal]
@[simp ↓ high] theorem q_valS9 {a0 a1 a2 a3 a4 a5 a6 a7 a8 : Option D} {R : D → En → Prop} : wVal 9 (a0 :: a1 :: a2 :: a3 :: a4 :: a5 :: a6 :: a7 :: a8 :: some (.sc v) :: e) R = R (.sc v) (a0 :: a1 :: a2 :: a3 :: a4 :: a5 :: a6 :: a7 :: a8 :: some (.sc v) :: e) := by simp [wVal]
@[simp ↓] theorem q_var9 {a0 a1 a2 a3 a4 a5 a6 a7 a8 : Option D} {R : D → En → Prop} : wVar 9 (a0 :: a1 :: a2 :: a3 :: a4 :: a5 :: a6 :: a7 :: a8 :: some d :: e) R = R d.frz (a0 :: a1 :: a2 :: a3 :: a4 :: a5 :: a6 :: a7 :: a8 :: some d.frz :: e) := by simp [wVar]
@[simp ↓ high] theorem q_varL9 {a0 a1 a2 a3 a4 a5 a6 a7 a8 : Option D} {R : D → En → Prop} {w : Bool} : wVar 9 (a0 :: a1 :: a2 :: a3 :: a4 :: a5 :: a6 :: a7 :: a8 :: some (.obj w .lst xs) :: e) R = R (.obj false .lst (D.frzL xs)) (a0 :: a1 :: a2 :: a3 :: a4 :: a5 :: a6 :: a7 :: a8 :: some (.obj false .lst (D.frzL xs)) :: e) := by simp [wVar]
@[simp ↓] theorem q_move9 {a0 a1 a2 a3 a4 a5 a6 a7 a8 : Option D} {R : D → En → Prop} : wMove 9 (a0 :: a1 :: a2 :: a3 :: a4 :: a5 :: a6 :: a7 :: a8 :: some d :: e) R = R d (a0 :: a1 :: a2 :: a3 :: a4 :: a5 :: a6 :: a7 :: a8 :: none :: e) := by simp [wMove]
@[simp ↓] theorem q_bn9 {a0 a1 a2 a3 a4 a5 a6 a7 a8 : Option D} {R : D → Prop} : bName 9 (a0 :: a1 :: a2 :: a3 :: a4 :: a5 :: a6 :: a7 :: a8 :: some d :: e) R = R d := by simp [bName]
@[simp ↓] theorem q_mn9 {a0 a1 a2 a3 a4 a5 a6 a7 a8 : Option D} {R : Nat → D → (D → D) → Prop} : mName 9 (a0 :: a1 :: a2 :: a3 :: a4 :: a5 :: a6 :: a7 :: a8 :: some d :: e) R = R 9 d id := by simp [mName]
@[simp ↓] theorem q_gn9 {a0 a1 a2 a3 a4 a5 a6 a7 a8 : Option D} {R : En → Prop} : gNm 9 d (a0 :: a1 :: a2 :: a3 :: a4 :: a5 :: a6 :: a7 :: a8 :: o :: e) R = R (a0 :: a1 :: a2 :: a3 :: a4 :: a5 :: a6 :: a7 :: a8 :: some d :: e) := by simp [gNm]
@[simp ↓] theorem q_gf9 {a0 a1 a2 a3 a4 a5 a6 a7 a8 : Option D} {R : En → Prop} : gFz 9 d (a0 :: a1 :: a2 :: a3 :: a4 :: a5 :: a6 :: a7 :: a8 :: o :: e) R = R (a0 :: a1 :: a2 :: a3 :: a4 :: a5 :: a6 :: a7 :: a8 :: some d.frz :: e) := by simp [gFz]
@[simp ↓ high] theorem q_gfS9 {a0 a1 a2 a3 a4 a5 a6 a7 a8 : Option D} {R : En → Prop} : gFz 9 (.sc v) (a0 :: a1 :: a2 :: a3 :: a4 :: a5 :: a6 :: a7 :: a8 :: o :: e) R = R (a0 :: a1 :: a2 :: a3 :: a4 :: a5 :: a6 :: a7 :: a8 :: some (.sc v) :: e) := by simp [gFz]
@[simp ↓ high] theorem q_gfT9 {a0 a1 a2 a3 a4 a5 a6 a7 a8 : Option D} {R : En → Prop} : gFz 9 (.tup xs) (a0 :: a1 :: a2 :: a3 :: a4 :: a5 :: a6 :: a7 :: a8 :: o :: e) R = R (a0 :: a1 :: a2 :: a3 :: a4 :: a5 :: a6 :: a7 :: a8 :: some (.tup (D.frzL xs)) :: e) := by simp [gFz]
@[simp ↓ high] theorem q_gfL9 {a0 a1 a2 a3 a4 a5 a6 a7 a8 : Option D} {R : En → Prop} {w : Bool} : gFz 9 (.obj w .lst xs) (a0 :: a1 :: a2 :: a3 :: a4 :: a5 :: a6 :: a7 :: a8 :: o :: e) R = R (a0 :: a1 :: a2 :: a3 :: a4 :: a5 :: a6 :: a7 :: a8 :: some (.obj false .lst (D.frzL xs)) :: e) := by simp [gFz]
@[simp ↓] theorem q_ref9 {a0 a1 a2 a3 a4 a5 a6 a7 a8 : Option D} {wc : WC} {R : List AV → En → Prop} : cRef 9 wc (a0 :: a1 :: a2 :: a3 :: a4 :: a5 :: a6 :: a7 :: a8 :: some d :: e) R = wc (a0 :: a1 :: a2 :: a3 :: a4 :: a5 :: a6 :: a7 :: a8 :: some d :: e) fun is e2 => R (.ref 9 :: is) e2 := by simp [cRef]
@[simp ↓] theorem q_aug9 {a0 a1 a2 a3 a4 a5 a6 a7 a8 : Option D} {rd : RD2} {we : WE} {RD : EN} : sAug 9 rd we (a0 :: a1 :: a2 :: a3 :: a4 :: a5 :: a6 :: a7 :: a8 :: some (.sc v) :: e) RD = we (a0 :: a1 :: a2 :: a3 :: a4 :: a5 :: a6 :: a7 :: a8 :: some (.sc v) :: e) fun y e1 => rd (.sc v) y fun z => RD.nx (e1.set 9 (some z)) := by simp [sAug]
@[simp ↓] theorem q_ne9 {a0 a1 a2 a3 a4 a5 a6 a7 a8 : Option D} {rd : RD2} {wb : WE} {R : D → En → Prop} : wBinNE rd 9 wb (a0 :: a1 :: a2 :: a3 :: a4 :: a5 :: a6 :: a7 :: a8 :: some d :: e) R = wb (a0 :: a1 :: a2 :: a3 :: a4 :: a5 :: a6 :: a7 :: a8 :: some d :: e) fun y e2 => ∃ x, e2[9]? = some (some x) ∧ rd x y fun z => R z e2 := by simp [wBinNE]
@[simp ↓ high] theorem q_neC9 {a0 a1 a2 a3 a4 a5 a6 a7 a8 : Option D} {rd : RD2} {R : D → En → Prop} {c : D} : wBinNE rd 9 (wC c) (a0 :: a1 :: a2 :: a3 :: a4 :: a5 :: a6 :: a7 :: a8 :: some d :: e) R = rd d c fun z => R z (a0 :: a1 :: a2 :: a3 :: a4 :: a5 :: a6 :: a7 :: a8 :: some d :: e) := by simp [wBinNE, wC]
@[simp ↓ high] theorem q_neV9 {a0 a1 a2 a3 a4 a5 a6 a7 a8 : Option D} {rd : RD2} {R : D → En → Prop} {j : Nat} : wBinNE rd 9 (wVal j) (a0 :: a1 :: a2 :: a3 :: a4 :: a5 :: a6 :: a7 :: a8 :: some d :: e) R = wVal j (a0 :: a1 :: a2 :: a3 :: a4 :: a5 :: a6 :: a7 :: a8 :: some d :: e) fun y e2 => rd d y fun z => R z e2 := by
  apply propext; simp only [wBinNE, wVal]; constructor
  · rintro ⟨_, y, h1, h2, x, h3, h4⟩; simp at h3; subst h3; exact ⟨y, h1, h2, h4⟩
  · rintro ⟨y, h1, h2, h4⟩; exact ⟨⟨d, by simp⟩, y, h1, h2, d, by simp, h4⟩
@[simp ↓] theorem q_app9 {a0 a1 a2 a3 a4 a5 a6 a7 a8 : Option D} {kf : Bool} {we : WE} {R : D → En → Prop} : wAppN kf 9 we (a0 :: a1 :: a2 :: a3 :: a4 :: a5 :: a6 :: a7 :: a8 :: some (.obj true .lst xs) :: e) R = we (a0 :: a1 :: a2 :: a3 :: a4 :: a5 :: a6 :: a7 :: a8 :: some (.obj true .lst xs) :: e) fun y e1 => ownL (e1[9]?) fun xs => xs.length < sizeLine ∧ R .non (e1.set 9 (some (.lst true (xs ++ [inK kf y])))) := by simp [wAppN, ownL]
@[simp ↓] theorem q_popN9 {a0 a1 a2 a3 a4 a5 a6 a7 a8 : Option D} {wi : WE} {R : D → En → Prop} : wPopAtN 9 wi (a0 :: a1 :: a2 :: a3 :: a4 :: a5 :: a6 :: a7 :: a8 :: some (.obj true .lst xs) :: e) R = wi (a0 :: a1 :: a2 :: a3 :: a4 :: a5 :: a6 :: a7 :: a8 :: some (.obj true .lst xs) :: e) fun k e1 => asI k fun kk => ownL (e1[9]?) fun xs => -(2 ^ 63) ≤ kk ∧ kk < 2 ^ 63 ∧ ∃ j x, L2.ixN xs.length kk = some j ∧ xs[j]? = some x ∧ x.fz = true ∧ R x (e1.set 9 (some (.lst true (xs.eraseIdx j)))) := by simp [wPopAtN, ownL]
@[simp ↓] theorem q_ins9 {a0 a1 a2 a3 a4 a5 a6 a7 a8 : Option D} {wi we : WE} {R : D → En → Prop} : wInsN 9 wi we (a0 :: a1 :: a2 :: a3 :: a4 :: a5 :: a6 :: a7 :: a8 :: some (.obj true .lst xs) :: e) R = wi (a0 :: a1 :: a2 :: a3 :: a4 :: a5 :: a6 :: a7 :: a8 :: some (.obj true .lst xs) :: e) fun k e1 => asI k fun kk => we e1 fun y e2 => ownL (e2[9]?) fun xs => D.fzL xs = true ∧ xs.length < sizeLine ∧ 0 ≤ kk ∧ kk < 2 ^ 63 ∧ R .non (e2.set 9 (some (.lst true (xs.take kk.toNat ++ [y.frz] ++ xs.drop kk.toNat)))) := by simp [wInsN, ownL]
@[simp ↓] theorem q_augN9 {a0 a1 a2 a3 a4 a5 a6 a7 a8 : Option D} {rd : RD2} {wi we : WE} {RD : EN} : sAugNx rd 9 wi we (a0 :: a1 :: a2 :: a3 :: a4 :: a5 :: a6 :: a7 :: a8 :: some d :: e) RD = wi (a0 :: a1 :: a2 :: a3 :: a4 :: a5 :: a6 :: a7 :: a8 :: some d :: e) fun k e1 => asI k fun kk => ownL (e1[9]?) fun xs => ∃ j x, L2.ixN xs.length kk = some j ∧ xs[j]? = some x ∧ x.fz = true ∧ we e1 fun y e2 => ownL (e2[9]?) fun ys => ∃ j2, L2.ixN ys.length kk = some j2 ∧ rd x y fun z => RD.nx (e2.set 9 (some (.lst true (ys.set j2 z)))) := by simp [sAugNx]
@[simp ↓] theorem q_set9 {a0 a1 a2 a3 a4 a5 a6 a7 a8 : Option D} {q : Option D} : List.set (a0 :: a1 :: a2 :: a3 :: a4 :: a5 :: a6 :: a7 :: a8 :: o :: e) 9 q = (a0 :: a1 :: a2 :: a3 :: a4 :: a5 :: a6 :: a7 :: a8 :: q :: e) := by simp
@[simp ↓] theorem q_get9 {a0 a1 a2 a3 a4 a5 a6 a7 a8 : Option D} : ((a0 :: a1 :: a2 :: a3 :: a4 :: a5 :: a6 :: a7 :: a8 :: o :: e) : En)[9]? = some o := by simp
@[simp ↓] theorem q_val10 {a0 a1 a2 a3 a4 a5 a6 a7 a8 a9 : Option D} {R : D → En → Prop} : wVal 10 (a0 :: a1 :: a2 :: a3 :: a4 :: a5 :: a6 :: a7 :: a8 :: a9 :: some d :: e) R = (d.fz = true ∧ R d (a0 :: a1 :: a2 :: a3 :: a4 :: a5 :: a6 :: a7 :: a8 :: a9 :: some d :: e)) := by simp [wVal]
@[simp ↓ high] theorem q_valS10 {a0 a1 a2 a3 a4 a5 a6 a7 a8 a9 : Option D} {R : D → En → Prop} : wVal 10 (a0 :: a1 :: a2 :: a3 :: a4 :: a5 :: a6 :: a7 :: a8 :: a9 :: some (.sc v) :: e) R = R (.sc v) (a0 :: a1 :: a2 :: a3 :: a4 :: a5 :: a6 :: a7 :: a8 :: a9 :: some (.sc v) :: e) := by simp [wVal]
@[simp ↓] theorem q_var10 {a0 a1 a2 a3 a4 a5 a6 a7 a8 a9 : Option D} {R : D → En → Prop} : wVar 10 (a0 :: a1 :: a2 :: a3 :: a4 :: a5 :: a6 :: a7 :: a8 :: a9 :: some d :: e) R = R d.frz (a0 :: a1 :: a2 :: a3 :: a4 :: a5 :: a6 :: a7 :: a8 :: a9 :: some d.frz :: e) := by simp [wVar]
@[simp ↓ high] theorem q_varL10 {a0 a1 a2 a3 a4 a5 a6 a7 a8 a9 : Option D} {R : D → En → Prop} {w : Bool} : wVar 10 (a0 :: a1 :: a2 :: a3 :: a4 :: a5 :: a6 :: a7 :: a8 :: a9 :: some (.obj w .lst xs) :: e) R = R (.obj false .lst (D.frzL xs)) (a0 :: a1 :: a2 :: a3 :: a4 :: a5 :: a6 :: a7 :: a8 :: a9 :: some (.obj false .lst (D.frzL xs)) :: e) := by simp [wVar]
@[simp ↓] theorem q_move10 {a0 a1 a2 a3 a4 a5 a6 a7 a8 a9 : Option D} {R : D → En → Prop} : wMove 10 (a0 :: a1 :: a2 :: a3 :: a4 :: a5 :: a6 :: a7 :: a8 :: a9 :: some d :: e) R = R d (a0 :: a1 :: a2 :: a3 :: a4 :: a5 :: a6 :: a7 :: a8 :: a9 :: none :: e) := by simp [wMove]
@[simp ↓] theorem q_bn10 {a0 a1 a2 a3 a4 a5 a6 a7 a8 a9 : Option D} {R : D → Prop} : bName 10 (a0 :: a1 :: a2 :: a3 :: a4 :: a5 :: a6 :: a7 :: a8 :: a9 :: some d :: e) R = R d := by simp [bName]
@[simp ↓] theorem q_mn10 {a0 a1 a2 a3 a4 a5 a6 a7 a8 a9 : Option D} {R : Nat → D → (D → D) → Prop} : mName 10 (a0 :: a1 :: a2 :: a3 :: a4 :: a5 :: a6 :: a7 :: a8 :: a9 :: some d :: e) R = R 10 d id := by simp [mName]
@[simp ↓] theorem q_gn10 {a0 a1 a2 a3 a4 a5 a6 a7 a8 a9 : Option D} {R : En → Prop} : gNm 10 d (a0 :: a1 :: a2 :: a3 :: a4 :: a5 :: a6 :: a7 :: a8 :: a9 :: o :: e) R = R (a0 :: a1 :: a2 :: a3 :: a4 :: a5 :: a6 :: a7 :: a8 :: a9 :: some d :: e) := by simp [gNm]
@[simp ↓] theorem q_gf10 {a0 a1 a2 a3 a4 a5 a6 a7 a8 a9 : Option D} {R : En → Prop} : gFz 10 d (a0 :: a1 :: a2 :: a3 :: a4 :: a5 :: a6 :: a7 :: a8 :: a9 :: o :: e) R = R (a0 :: a1 :: a2 :: a3 :: a4 :: a5 :: a6 :: a7 :: a8 :: a9 :: some d.frz :: e) := by simp [gFz]
@[simp ↓ high] theorem q_gfS10 {a0 a1 a2 a3 a4 a5 a6 a7 a8 a9 : Option D} {R : En → Prop} : gFz 10 (.sc v) (a0 :: a1 :: a2 :: a3 :: a4 :: a5 :: a6 :: a7 :: a8 :: a9 :: o :: e) R = R (a0 :: a1 :: a2 :: a3 :: a4 :: a5 :: a6 :: a7 :: a8 :: a9 :: some (.sc v) :: e) := by simp [gFz]
@[simp ↓ high] theorem q_gfT10 {a0 a1 a2 a3 a4 a5 a6 a7 a8 a9 : Option D} {R : En → Prop} : gFz 10 (.tup xs) (a0 :: a1 :: a2 :: a3 :: a4 :: a5 :: a6 :: a7 :: a8 :: a9 :: o :: e) R = R (a0 :: a1 :: a2 :: a3 :: a4 :: a5 :: a6 :: a7 :: a8 :: a9 :: some (.tup (D.frzL xs)) :: e) := by simp [gFz]
@[simp ↓ high] theorem q_gfL10 {a0 a1 a2 a3 a4 a5 a6 a7 a8 a9 : Option D} {R : En → Prop} {w : Bool} : gFz 10 (.obj w .lst xs) (a0 :: a1 :: a2 :: a3 :: a4 :: a5 :: a6 :: a7 :: a8 :: a9 :: o :: e) R = R (a0 :: a1 :: a2 :: a3 :: a4 :: a5 :: a6 :: a7 :: a8 :: a9 :: some (.obj false .lst (D.frzL xs)) :: e) := by simp [gFz]
@[simp ↓] theorem q_ref10 {a0 a1 a2 a3 a4 a5 a6 a7 a8 a9 : Option D} {wc : WC} {R : List AV → En → Prop} : cRef 10 wc (a0 :: a1 :: a2 :: a3 :: a4 :: a5 :: a6 :: a7 :: a8 :: a9 :: some d :: e) R = wc (a0 :: a1 :: a2 :: a3 :: a4 :: a5 :: a6 :: a7 :: a8 :: a9 :: some d :: e) fun is e2 => R (.ref 10 :: is) e2 := by simp [cRef]
@[simp ↓] theorem q_aug10 {a0 a1 a2 a3 a4 a5 a6 a7 a8 a9 : Option D} {rd : RD2} {we : WE} {RD : EN} : sAug 10 rd we (a0 :: a1 :: a2 :: a3 :: a4 :: a5 :: a6 :: a7 :: a8 :: a9 :: some (.sc v) :: e) RD = we (a0 :: a1 :: a2 :: a3 :: a4 :: a5 :: a6 :: a7 :: a8 :: a9 :: some (.sc v) :: e) fun y e1 => rd (.sc v) y fun z => RD.nx (e1.set 10 (some z)) := by simp [sAug]
@[simp ↓] theorem q_ne10 {a0 a1 a2 a3 a4 a5 a6 a7 a8 a9 : Option D} {rd : RD2} {wb : WE} {R : D → En → Prop} : wBinNE rd 10 wb (a0 :: a1 :: a2 :: a3 :: a4 :: a5 :: a6 :: a7 :: a8 :: a9 :: some d :: e) R = wb (a0 :: a1 :: a2 :: a3 :: a4 :: a5 :: a6 :: a7 :: a8 :: a9 :: some d :: e) fun y e2 => ∃ x, e2[10]? = some (some x) ∧ rd x y fun z => R z e2 := by simp [wBinNE]
@[simp ↓ high] theorem q_neC10 {a0 a1 a2 a3 a4 a5 a6 a7 a8 a9 : Option D} {rd : RD2} {R : D → En → Prop} {c : D} : wBinNE rd 10 (wC c) (a0 :: a1 :: a2 :: a3 :: a4 :: a5 :: a6 :: a7 :: a8 :: a9 :: some d :: e) R = rd d c fun z => R z (a0 :: a1 :: a2 :: a3 :: a4 :: a5 :: a6 :: a7 :: a8 :: a9 :: some d :: e) := by simp [wBinNE, wC]
@[simp ↓ high] theorem q_neV10 {a0 a1 a2 a3 a4 a5 a6 a7 a8 a9 : Option D} {rd : RD2} {R : D → En → Prop} {j : Nat} : wBinNE rd 10 (wVal j) (a0 :: a1 :: a2 :: a3 :: a4 :: a5 :: a6 :: a7 :: a8 :: a9 :: some d :: e) R = wVal j (a0 :: a1 :: a2 :: a3 :: a4 :: a5 :: a6 :: a7 :: a8 :: a9 :: some d :: e) fun y e2 => rd d y fun z => R z e2 := by
  apply propext; simp only [wBinNE, wVal]; constructor
  · rintro ⟨_, y, h1, h2, x, h3, h4⟩; simp at h3; subst h3; exact ⟨y, h1, h2, h4⟩
  · rintro ⟨y, h1, h2, h4⟩; exact ⟨⟨d, by simp⟩, y, h1, h2, d, by simp, h4⟩
@[simp ↓] theorem q_app10 {a0 a1 a2 a3 a4 a5 a6 a7 a8 a9 : Option D} {kf : Bool} {we : WE} {R : D → En → Prop} : wAppN kf 10 we (a0 :: a1 :: a2 :: a3 :: a4 :: a5 :: a6 :: a7 :: a8 :: a9 :: some (.obj true .lst xs) :: e) R = we (a0 :: a1 :: a2 :: a3 :: a4 :: a5 :: a6 :: a7 :: a8 :: a9 :: some (.obj true .lst xs) :: e) fun y e1 => ownL (e1[10]?) fun xs => xs.length < sizeLine ∧ R .non (e1.set 10 (some (.lst true (xs ++ [inK kf y])))) := by simp [wAppN, ownL]
@[simp ↓] theorem q_popN10 {a0 a1 a2 a3 a4 a5 a6 a7 a8 a9 : Option D} {wi : WE} {R : D → En → Prop} : wPopAtN 10 wi (a0 :: a1 :: a2 :: a3 :: a4 :: a5 :: a6 :: a7 :: a8 :: a9 :: some (.obj true .lst xs) :: e) R = wi (a0 :: a1 :: a2 :: a3 :: a4 :: a5 :: a6 :: a7 :: a8 :: a9 :: some (.obj true .lst xs) :: e) fun k e1 => asI k fun kk => ownL (e1[10]?) fun xs => -(2 ^ 63) ≤ kk ∧ kk < 2 ^ 63 ∧ ∃ j x, L2.ixN xs.length kk = some j ∧ xs[j]? = some x ∧ x.fz = true ∧ R x (e1.set 10 (some (.lst true (xs.eraseIdx j)))) := by simp [wPopAtN, ownL]
@[simp ↓] theorem q_ins10 {a0 a1 a2 a3 a4 a5 a6 a7 a8 a9 : Option D} {wi we : WE} {R : D → En → Prop} : wInsN 10 wi we (a0 :: a1 :: a2 :: a3 :: a4 :: a5 :: a6 :: a7 :: a8 :: a9 :: some (.obj true .lst xs) :: e) R = wi (a0 :: a1 :: a2 :: a3 :: a4 :: a5 :: a6 :: a7 :: a8 :: a9 :: some (.obj true .lst xs) :: e) fun k e1 => asI k fun kk => we e1 fun y e2 => ownL (e2[10]?) fun xs => D.fzL xs = true ∧ xs.length < sizeLine ∧ 0 ≤ kk ∧ kk < 2 ^ 63 ∧ R .non (e2.set 10 (some (.lst true (xs.take kk.toNat ++ [y.frz] ++ xs.drop kk.toNat)))) := by simp [wInsN, ownL]
@[simp ↓] theorem q_augN10 {a0 a1 a2 a3 a4 a5 a6 a7 a8 a9 : Option D} {rd : RD2} {wi we : WE} {RD : EN} : sAugNx rd 10 wi we (a0 :: a1 :: a2 :: a3 :: a4 :: a5 :: a6 :: a7 :: a8 :: a9 :: some d :: e) RD = wi (a0 :: a1 :: a2 :: a3 :: a4 :: a5 :: a6 :: a7 :: a8 :: a9 :: some d :: e) fun k e1 => asI k fun kk => ownL (e1[10]?) fun xs => ∃ j x, L2.ixN xs.length kk = some j ∧ xs[j]? = some x ∧ x.fz = true ∧ we e1 fun y e2 => ownL (e2[10]?) fun ys => ∃ j2, L2.ixN ys.length kk = some j2 ∧ rd x y fun z => RD.nx (e2.set 10 (some (.lst true (ys.set j2 z)))) := by simp [sAugNx]
@[simp ↓] theorem q_set10 {a0 a1 a2 a3 a4 a5 a6 a7 a8 a9 : Option D} {q : Option D} : List.set (a0 :: a1 :: a2 :: a3 :: a4 :: a5 :: a6 :: a7 :: a8 :: a9 :: o :: e) 10 q = (a0 :: a1 :: a2 :: a3 :: a4 :: a5 :: a6 :: a7 :: a8 :: a9 :: q :: e) := by simp
@[simp ↓] theorem q_get10 {a0 a1 a2 a3 a4 a5 a6 a7 a8 a9 : Option D} : ((a0 :: a1 :: a2 :: a3 :: a4 :: a5 :: a6 :: a7 :: a8 :: a9 :: o :: e) : En)[10]? = some o := by simp
@[simp ↓] theorem q_val11 {a0 a1 a2 a3 a4 a5 a6 a7 a8 a9 a10 : Option D} {R : D → En → Prop} : wVal 11 (a0 :: a1 :: a2 :: a3 :: a4 :: a5 :: a6 :: a7 :: a8 :: a9 :: a10 :: some d :: e) R = (d.fz = true ∧ R d (a0 :: a1 :: a2 :: a3 :: a4 :: a5 :: a6 :: a7 :: a8 :: a9 :: a10 :: some d :: e)) := by simp [wVal]
@[simp ↓ high] theorem q_valS11 {a0 a1 a2 a3 a4 a5 a6 a7 a8 a9 a10 : Option D} {R : D → En → Prop} : wVal 11 (a0 :: a1 :: a2 :: a3 :: a4 :: a5 :: a6 :: a7 :: a8 :: a9 :: a10 :: some (.sc v) :: e) R = R (.sc v) (a0 :: a1 :: a2 :: a3 :: a4 :: a5 :: a6 :: a7 :: a8 :: a9 :: a10 :: some (.sc v) :: e) := by simp [wVal]
@[simp ↓] theorem q_var11 {a0 a1 a2 a3 a4 a5 a6 a7 a8 a9 a10 : Option D} {R : D → En → Prop} : wVar 11 (a0 :: a1 :: a2 :: a3 :: a4 :: a5 :: a6 :: a7 :: a8 :: a9 :: a10 :: some d :: e) R = R d.frz (a0 :: a1 :: a2 :: a3 :: a4 :: a5 :: a6 :: a7 :: a8 :: a9 :: a10 :: some d.frz :: e) := by simp [wVar]
@[simp ↓ high] theorem q_varL11 {a0 a1 a2 a3 a4 a5 a6 a7 a8 a9 a10 : Option D} {R : D → En → Prop} {w : Bool} : wVar 11 (a0 :: a1 :: a2 :: a3 :: a4 :: a5 :: a6 :: a7 :: a8 :: a9 :: a10 :: some (.obj w .lst xs) :: e) R = R (.obj false .lst (D.frzL xs)) (a0 :: a1 :: a2 :: a3 :: a4 :: a5 :: a6 :: a7 :: a8 :: a9 :: a10 :: some (.obj false .lst (D.frzL xs)) :: e) := by simp [wVar]
@[simp ↓] theorem q_move11 {a0 a1 a2 a3 a4 a5 a6 a7 a8 a9 a10 : Option D} {R : D → En → Prop} : wMove 11 (a0 :: a1 :: a2 :: a3 :: a4 :: a5 :: a6 :: a7 :: a8 :: a9 :: a10 :: some d :: e) R = R d (a0 :: a1 :: a2 :: a3 :: a4 :: a5 :: a6 :: a7 :: a8 :: a9 :: a10 :: none :: e) := by simp [wMove]
@[simp ↓] theorem q_bn11 {a0 a1 a2 a3 a4 a5 a6 a7 a8 a9 a10 : Option D} {R : D → Prop} : bName 11 (a0 :: a1 :: a2 :: a3 :: a4 :: a5 :: a6 :: a7 :: a8 :: a9 :: a10 :: some d :: e) R = R d := by simp [bName]
@[simp ↓] theorem q_mn11 {a0 a1 a2 a3 a4 a5 a6 a7 a8 a9 a10 : Option D} {R : Nat → D → (D → D) → Prop} : mName 11 (a0 :: a1 :: a2 :: a3 :: a4 :: a5 :: a6 :: a7 :: a8 :: a9 :: a10 :: some d :: e) R = R 11 d id := by simp [mName]
@[simp ↓] theorem q_gn11 {a0 a1 a2 a3 a4 a5 a6 a7 a8 a9 a10 : Option D} {R : En → Prop} : gNm 11 d (a0 :: a1 :: a2 :: a3 :: a4 :: a5 :: a6 :: a7 :: a8 :: a9 :: a10 :: o :: e) R = R (a0 :: a1 :: a2 :: a3 :: a4 :: a5 :: a6 :: a7 :: a8 :: a9 :: a10 :: some d :: e) := by simp [gNm]
@[simp ↓] theorem q_gf11 {a0 a1 a2 a3 a4 a5 a6 a7 a8 a9 a10 : Option D} {R : En → Prop} : gFz 11 d (a0 :: a1 :: a2 :: a3 :: a4 :: a5 :: a6 :: a7 :: a8 :: a9 :: a10 :: o :: e) R = R (a0 :: a1 :: a2 :: a3 :: a4 :: a5 :: a6 :: a7 :: a8 :: a9 :: a10 :: some d.frz :: e) := by simp [gFz]
@[simp ↓ high] theorem q_gfS11 {a0 a1 a2 a3 a4 a5 a6 a7 a8 a9 a10 : Option D} {R : En → Prop} : gFz 11 (.sc v) (a0 :: a1 :: a2 :: a3 :: a4 :: a5 :: a6 :: a7 :: a8 :: a9 :: a10 :: o :: e) R = R (a0 :: a1 :: a2 :: a3 :: a4 :: a5 :: a6 :: a7 :: a8 :: a9 :: a10 :: some (.sc v) :: e) := by simp [gFz]
@[simp ↓ high] theorem q_gfT11 {a0 a1 a2 a3 a4 a5 a6 a7 a8 a9 a10 : Option D} {R : En → Prop} : gFz 11 (.tup xs) (a0 :: a1 :: a2 :: a3 :: a4 :: a5 :: a6 :: a7 :: a8 :: a9 :: a10 :: o :: e) R = R (a0 :: a1 :: a2 :: a3 :: a4 :: a5 :: a6 :: a7 :: a8 :: a9 :: a10 :: some (.tup (D.frzL xs)) :: e) := by simp [gFz]
@[simp ↓ high] theorem q_gfL11 {a0 a1 a2 a3 a4 a5 a6 a7 a8 a9 a10 : Option D} {R : En → Prop} {w : Bool} : gFz 11 (.obj w .lst xs) (a0 :: a1 :: a2 :: a3 :: a4 :: a5 :: a6 :: a7 :: a8 :: a9 :: a10 :: o :: e) R = R (a0 :: a1 :: a2 :: a3 :: a4 :: a5 :: a6 :: a7 :: a8 :: a9 :: a10 :: some (.obj false .lst (D.frzL xs)) :: e) := by simp [gFz]
@[simp ↓] theorem q_ref11 {a0 a1 a2 a3 a4 a5 a6 a7 a8 a9 a10 : Option D} {wc : WC} {R : List AV → En → Prop} : cRef 11 wc (a0 :: a1 :: a2 :: a3 :: a4 :: a5 :: a6 :: a7 :: a8 :: a9 :: a10 :: some d :: e) R = wc (a0 :: a1 :: a2 :: a3 :: a4 :: a5 :: a6 :: a7 :: a8 :: a9 :: a10 :: some d :: e) fun is e2 => R (.ref 11 :: is) e2 := by simp [cRef]
@[simp ↓] theorem q_aug11 {a0 a1 a2 a3 a4 a5 a6 a7 a8 a9 a10 : Option D} {rd : RD2} {we : WE} {RD : EN} : sAug 11 rd we (a0 :: a1 :: a2 :: a3 :: a4 :: a5 :: a6 :: a7 :: a8 :: a9 :: a10 :: some (.sc v) :: e) RD = we (a0 :: a1 :: a2 :: a3 :: a4 :: a5 :: a6 :: a7 :: a8 :: a9 :: a10 :: some (.sc v) :: e) fun y e1 => rd (.sc v) y fun z => RD.nx (e1.set 11 (some z)) := by simp [sAug]
@[simp ↓] theorem q_ne11 {a0 a1 a2 a3 a4 a5 a6 a7 a8 a9 a10 : Option D} {rd : RD2} {wb : WE} {R : D → En → Prop} : wBinNE rd 11 wb (a0 :: a1 :: a2 :: a3 :: a4 :: a5 :: a6 :: a7 :: a8 :: a9 :: a10 :: some d :: e) R = wb (a0 :: a1 :: a2 :: a3 :: a4 :: a5 :: a6 :: a7 :: a8 :: a9 :: a10 :: some d :: e) fun y e2 => ∃ x, e2[11]? = some (some x) ∧ rd x y fun z => R z e2 := by simp [wBinNE]
@[simp ↓ high] theorem q_neC11 {a0 a1 a2 a3 a4 a5 a6 a7 a8 a9 a10 : Option D} {rd : RD2} {R : D → En → Prop} {c : D} : wBinNE rd 11 (wC c) (a0 :: a1 :: a2 :: a3 :: a4 :: a5 :: a6 :: a7 :: a8 :: a9 :: a10 :: some d :: e) R = rd d c fun z => R z (a0 :: a1 :: a2 :: a3 :: a4 :: a5 :: a6 :: a7 :: a8 :: a9 :: a10 :: some d :: e) := by simp [wBinNE, wC]
@[simp ↓ high] theorem q_neV11 {a0 a1 a2 a3 a4 a5 a6 a7 a8 a9 a10 : Option D} {rd : RD2} {R : D → En → Prop} {j : Nat} : wBinNE rd 11 (wVal j) (a0 :: a1 :: a2 :: a3 :: a4 :: a5 :: a6 :: a7 :: a8 :: a9 :: a10 :: some d :: e) R = wVal j (a0 :: a1 :: a2 :: a3 :: a4 :: a5 :: a6 :: a7 :: a8 :: a9 :: a10 :: some d :: e) fun y e2 => rd d y fun z => R z e2 := by
  apply propext; simp only [wBinNE, wVal]; constructor
  · rintro ⟨_, y, h1, h2, x, h3, h4⟩; simp at h3; subst h3; exact ⟨y, h1, h2, h4⟩
  · rintro ⟨y, h1, h2, h4⟩; exact ⟨⟨d, by simp⟩, y, h1, h2, d, by simp, h4⟩
@[simp ↓] theorem q_app11 {a0 a1 a2 a3 a4 a5 a6 a7 a8 a9 a10 : Option D} {kf : Bool} {we : WE} {R : D → En → Prop} : wAppN kf 11 we (a0 :: a1 :: a2 :: a3 :: a4 :: a5 :: a6 :: a7 :: a8 :: a9 :: a10 :: some (.obj true .lst xs) :: e) R = we (a0 :: a1 :: a2 :: a3 :: a4 :: a5 :: a6 :: a7 :: a8 :: a9 :: a10 :: some (.obj true .lst xs) :: e) fun y e1 => ownL (e1[11]?) fun xs => xs.length < sizeLine ∧ R .non (e1.set 11 (some (.lst true (xs ++ [inK kf y])))) := by simp [wAppN, ownL]
@[simp ↓] theorem q_popN11 {a0 a1 a2 a3 a4 a5 a6 a7 a8 a9 a10 : Option D} {wi : WE} {R : D → En → Prop} : wPopAtN 11 wi (a0 :: a1 :: a2 :: a3 :: a4 :: a5 :: a6 :: a7 :: a8 :: a9 :: a10 :: some (.obj true .lst xs) :: e) R = wi (a0 :: a1 :: a2 :: a3 :: a4 :: a5 :: a6 :: a7 :: a8 :: a9 :: a10 :: some (.obj true .lst xs) :: e) fun k e1 => asI k fun kk => ownL (e1[11]?) fun xs => -(2 ^ 63) ≤ kk ∧ kk < 2 ^ 63 ∧ ∃ j x, L2.ixN xs.length kk = some j ∧ xs[j]? = some x ∧ x.fz = true ∧ R x (e1.set 11 (some (.lst true (xs.eraseIdx j)))) := by simp [wPopAtN, ownL]
@[simp ↓] theorem q_ins11 {a0 a1 a2 a3 a4 a5 a6 a7 a8 a9 a10 : Option D} {wi we : WE} {R : D → En → Prop} : wInsN 11 wi we (a0 :: a1 :: a2 :: a3 :: a4 :: a5 :: a6 :: a7 :: a8 :: a9 :: a10 :: some (.obj true .lst xs) :: e) R = wi (a0 :: a1 :: a2 :: a3 :: a4 :: a5 :: a6 :: a7 :: a8 :: a9 :: a10 :: some (.obj true .lst xs) :: e) fun k e1 => asI k fun kk => we e1 fun y e2 => ownL (e2[11]?) fun xs => D.fzL xs = true ∧ xs.length < sizeLine ∧ 0 ≤ kk ∧ kk < 2 ^ 63 ∧ R .non (e2.set 11 (some (.lst true (xs.take kk.toNat ++ [y.frz] ++ xs.drop kk.toNat)))) := by simp [wInsN, ownL]
@[simp ↓] theorem q_augN11 {a0 a1 a2 a3 a4 a5 a6 a7 a8 a9 a10 : Option D} {rd : RD2} {wi we : WE} {RD : EN} : sAugNx rd 11 wi we (a0 :: a1 :: a2 :: a3 :: a4 :: a5 :: a6 :: a7 :: a8 :: a9 :: a10 :: some d :: e) RD = wi (a0 :: a1 :: a2 :: a3 :: a4 :: a5 :: a6 :: a7 :: a8 :: a9 :: a10 :: some d :: e) fun k e1 => asI k fun kk => ownL (e1[11]?) fun xs => ∃ j x, L2.ixN xs.length kk = some j ∧ xs[j]? = some x ∧ x.fz = true ∧ we e1 fun y e2 => ownL (e2[11]?) fun ys => ∃ j2, L2.ixN ys.length kk = some j2 ∧ rd x y fun z => RD.nx (e2.set 11 (some (.lst true (ys.set j2 z)))) := by simp [sAugNx]
@[simp ↓] theorem q_set11 {a0 a1 a2 a3 a4 a5 a6 a7 a8 a9 a10 : Option D} {q : Option D} : List.set (a0 :: a1 :: a2 :: a3 :: a4 :: a5 :: a6 :: a7 :: a8 :: a9 :: a10 :: o :: e) 11 q = (a0 :: a1 :: a2 :: a3 :: a4 :: a5 :: a6 :: a7 :: a8 :: a9 :: a10 :: q :: e) := by simp
@[simp ↓] theorem q_get11 {a0 a1 a2 a3 a4 a5 a6 a7 a8 a9 a10 : Option D} : ((a0 :: a1 :: a2 :: a3 :: a4 :: a5 :: a6 :: a7 :: a8 :: a9 :: a10 :: o :: e) : En)[11]? = some o := by simp
@[simp ↓] theorem q_val12 {a0 a1 a2 a3 a4 a5 a6 a7 a8 a9 a10 a11 : Option D} {R : D → En → Prop} : wVal 12 (a0 :: a1 :: a2 :: a3 :: a4 :: a5 :: a6 :: a7 :: a8 :: a9 :: a10 :: a11 :: some d :: e) R = (d.fz = true ∧ R d (a0 :: a1 :: a2 :: a3 :: a4 :: a5 :: a6 :: a7 :: a8 :: a9 :: a10 :: a11 :: some d :: e)) := by simp [wVal]
@[simp ↓ high] theorem q_valS12 {a0 a1 a2 a3 a4 a5 a6 a7 a8 a9 a10 a11 : Option D} {R : D → En → Prop} : wVal 12 (a0 :: a1 :: a2 :: a3 :: a4 :: a5 :: a6 :: a7 :: a8 :: a9 :: a10 :: a11 :: some (.sc v) :: e) R = R (.sc v) (a0 :: a1 :: a2 :: a3 :: a4 :: a5 :: a6 :: a7 :: a8 :: a9 :: a10 :: a11 :: some (.sc v) :: e) := by simp [wVal]
@[simp ↓] theorem q_var12 {a0 a1 a2 a3 a4 a5 a6 a7 a8 a9 a10 a11 : Option D} {R : D → En → Prop} : wVar 12 (a0 :: a1 :: a2 :: a3 :: a4 :: a5 :: a6 :: a7 :: a8 :: a9 :: a10 :: a11 :: some d :: e) R = R d.frz (a0 :: a1 :: a2 :: a3 :: a4 :: a5 :: a6 :: a7 :: a8 :: a9 :: a10 :: a11 :: some d.frz :: e) := by simp [wVar]
@[simp ↓ high] theorem q_varL12 {a0 a1 a2 a3 a4 a5 a6 a7 a8 a9 a10 a11 : Option D} {R : D → En → Prop} {w : Bool} : wVar 12 (a0 :: a1 :: a2 :: a3 :: a4 :: a5 :: a6 :: a7 :: a8 :: a9 :: a10 :: a11 :: some (.obj w .lst xs) :: e) R = R (.obj false .lst (D.frzL xs)) (a0 :: a1 :: a2 :: a3 :: a4 :: a5 :: a6 :: a7 :: a8 :: a9 :: a10 :: a11 :: some (.obj false .lst (D.frzL xs)) :: e) := by simp [wVar]
@[simp ↓] theorem q_move12 {a0 a1 a2 a3 a4 a5 a6 a7 a8 a9 a10 a11 : Option D} {R : D → En → Prop} : wMove 12 (a0 :: a1 :: a2 :: a3 :: a4 :: a5 :: a6 :: a7 :: a8 :: a9 :: a10 :: a11 :: some d :: e) R = R d (a0 :: a1 :: a2 :: a3 :: a4 :: a5 :: a6 :: a7 :: a8 :: a9 :: a10 :: a11 :: none :: e) := by simp [wMove]
@[simp ↓] theorem q_bn12 {a0 a1 a2 a3 a4 a5 a6 a7 a8 a9 a10 a11 : Option D} {R : D → Prop} : bName 12 (a0 :: a1 :: a2 :: a3 :: a4 :: a5 :: a6 :: a7 :: a8 :: a9 :: a10 :: a11 :: some d :: e) R = R d := by simp [bName]
@[simp ↓] theorem q_mn12 {a0 a1 a2 a3 a4 a5 a6 a7 a8 a9 a10 a11 : Option D} {R : Nat → D → (D → D) → Prop} : mName 12 (a0 :: a1 :: a2 :: a3 :: a4 :: a5 :: a6 :: a7 :: a8 :: a9 :: a10 :: a11 :: some d :: e) R = R 12 d id := by simp [mName]
@[simp ↓] theorem q_gn12 {a0 a1 a2 a3 a4 a5 a6 a7 a8 a9 a10 a11 : Option D} {R : En → Prop} : gNm 12 d (a0 :: a1 :: a2 :: a3 :: a4 :: a5 :: a6 :: a7 :: a8 :: a9 :: a10 :: a11 :: o :: e) R = R (a0 :: a1 :: a2 :: a3 :: a4 :: a5 :: a6 :: a7 :: a8 :: a9 :: a10 :: a11 :: some d :: e) := by simp [gNm]
@[simp ↓] theorem q_gf12 {a0 a1 a2 a3 a4 a5 a6 a7 a8 a9 a10 a11 : Option D} {R : En → Prop} : gFz 12 d (a0 :: a1 :: a2 :: a3 :: a4 :: a5 :: a6 :: a7 :: a8 :: a9 :: a10 :: a11 :: o :: e) R = R (a0 :: a1 :: a2 :: a3 :: a4 :: a5 :: a6 :: a7 :: a8 :: a9 :: a10 :: a11 :: some d.frz :: e) := by simp [gFz]
@[simp ↓ high] theorem q_gfS12 {a0 a1 a2 a3 a4 a5 a6 a7 a8 a9 a10 a11 : Option D} {R : En → Prop} : gFz 12 (.sc v) (a0 :: a1 :: a2 :: a3 :: a4 :: a5 :: a6 :: a7 :: a8 :: a9 :: a10 :: a11 :: o :: e) R = R (a0 :: a1 :: a2 :: a3 :: a4 :: a5 :: a6 :: a7 :: a8 :: a9 :: a10 :: a11 :: some (.sc v) :: e) := by simp [gFz]
@[simp ↓ high] theorem q_gfT12 {a0 a1 a2 a3 a4 a5 a6 a7 a8 a9 a10 a11 : Option D} {R : En → Prop} : gFz 12 (.tup xs) (a0 :: a1 :: a2 :: a3 :: a4 :: a5 :: a6 :: a7 :: a8 :: a9 :: a10 :: a11 :: o :: e) R = R (a0 :: a1 :: a2 :: a3 :: a4 :: a5 :: a6 :: a7 :: a8 :: a9 :: a10 :: a11 :: some (.tup (D.frzL xs)) :: e) := by simp [gFz]
@[simp ↓ high] theorem q_gfL12 {a0 a1 a2 a3 a4 a5 a6 a7 a8 a9 a10 a11 : Option D} {R : En → Prop} {w : Bool} : gFz 12 (.obj w .lst xs) (a0 :: a1 :: a2 :: a3 :: a4 :: a5 :: a6 :: a7 :: a8 :: a9 :: a10 :: a11 :: o :: e) R = R (a0 :: a1 :: a2 :: a3 :: a4 :: a5 :: a6 :: a7 :: a8 :: a9 :: a10 :: a11 :: some (.obj false .lst (D.frzL xs)) :: e) := by simp [gFz]
@[simp ↓] theorem q_ref12 {a0 a1 a2 a3 a4 a5 a6 a7 a8 a9 a10 a11 : Option D} {wc : WC} {R : List AV → En → Prop} : cRef 12 wc (a0 :: a1 :: a2 :: a3 :: a4 :: a5 :: a6 :: a7 :: a8 :: a9 :: a10 :: a11 :: some d :: e) R = wc (a0 :: a1 :: a2 :: a3 :: a4 :: a5 :: a6 :: a7 :: a8 :: a9 :: a10 :: a11 :: some d :: e) fun is e2 => R (.ref 12 :: is) e2 := by simp [cRef]
@[simp ↓] theorem q_aug12 {a0 a1 a2 a3 a4 a5 a6 a7 a8 a9 a10 a11 : Option D} {rd : RD2} {we : WE} {RD : EN} : sAug 12 rd we (a0 :: a1 :: a2 :: a3 :: a4 :: a5 :: a6 :: a7 :: a8 :: a9 :: a10 :: a11 :: some (.sc v) :: e) RD = we (a0 :: a1 :: a2 :: a3 :: a4 :: a5 :: a6 :: a7 :: a8 :: a9 :: a10 :: a11 :: some (.sc v) :: e) fun y e1 => rd (.sc v) y fun z => RD.nx (e1.set 12 (some z)) := by simp [sAug]
@[simp ↓] theorem q_ne12 {a0 a1 a2 a3 a4 a5 a6 a7 a8 a9 a10 a11 : Option D} {rd : RD2} {wb : WE} {R : D → En → Prop} : wBinNE rd 12 wb (a0 :: a1 :: a2 :: a3 :: a4 :: a5 :: a6 :: a7 :: a8 :: a9 :: a10 :: a11 :: some d :: e) R = wb (a0 :: a1 :: a2 :: a3 :: a4 :: a5 :: a6 :: a7 :: a8 :: a9 :: a10 :: a11 :: some d :: e) fun y e2 => ∃ x, e2[12]? = some (some x) ∧ rd x y fun z => R z e2 := by simp [wBinNE]
@[simp ↓ high] theorem q_neC12 {a0 a1 a2 a3 a4 a5 a6 a7 a8 a9 a10 a11 : Option D} {rd : RD2} {R : D → En → Prop} {c : D} : wBinNE rd 12 (wC c) (a0 :: a1 :: a2 :: a3 :: a4 :: a5 :: a6 :: a7 :: a8 :: a9 :: a10 :: a11 :: some d :: e) R = rd d c fun z => R z (a0 :: a1 :: a2 :: a3 :: a4 :: a5 :: a6 :: a7 :: a8 :: a9 :: a10 :: a11 :: some d :: e) := by simp [wBinNE, wC]
@[simp ↓ high] theorem q_neV12 {a0 a1 a2 a3 a4 a5 a6 a7 a8 a9 a10 a11 : Option D} {rd : RD2} {R : D → En → Prop} {j : Nat} : wBinNE rd 12 (wVal j) (a0 :: a1 :: a2 :: a3 :: a4 :: a5 :: a6 :: a7 :: a8 :: a9 :: a10 :: a11 :: some d :: e) R = wVal j (a0 :: a1 :: a2 :: a3 :: a4 :: a5 :: a6 :: a7 :: a8 :: a9 :: a10 :: a11 :: some d :: e) fun y e2 => rd d y fun z => R z e2 := by
  apply propext; simp only [wBinNE, wVal]; constructor
  · rintro ⟨_, y, h1, h2, x, h3, h4⟩; simp at h3; subst h3; exact ⟨y, h1, h2, h4⟩
  · rintro ⟨y, h1, h2, h4⟩; exact ⟨⟨d, by simp⟩, y, h1, h2, d, by simp, h4⟩
@[simp ↓] theorem q_app12 {a0 a1 a2 a3 a4 a5 a6 a7 a8 a9 a10 a11 : Option D} {kf : Bool} {we : WE} {R : D → En → Prop} : wAppN kf 12 we (a0 :: a1 :: a2 :: a3 :: a4 :: a5 :: a6 :: a7 :: a8 :: a9 :: a10 :: a11 :: some (.obj true .lst xs) :: e) R = we (a0 :: a1 :: a2 :: a3 :: a4 :: a5 :: a6 :: a7 :: a8 :: a9 :: a10 :: a11 :: some (.obj true .lst xs) :: e) fun y e1 => ownL (e1[12]?) fun xs => xs.length < sizeLine ∧ R .non (e1.set 12 (some (.lst true (xs ++ [inK kf y])))) := by simp [wAppN, ownL]
@[simp ↓] theorem q_popN12 {a0 a1 a2 a3 a4 a5 a6 a7 a8 a9 a10 a11 : Option D} {wi : WE} {R : D → En → Prop} : wPopAtN 12 wi (a0 :: a1 :: a2 :: a3 :: a4 :: a5 :: a6 :: a7 :: a8 :: a9 :: a10 :: a11 :: some (.obj true .lst xs) :: e) R = wi (a0 :: a1 :: a2 :: a3 :: a4 :: a5 :: a6 :: a7 :: a8 :: a9 :: a10 :: a11 :: some (.obj true .lst xs) :: e) fun k e1 => asI k fun kk => ownL (e1[12]?) fun xs => -(2 ^ 63) ≤ kk ∧ kk < 2 ^ 63 ∧ ∃ j x, L2.ixN xs.length kk = some j ∧ xs[j]? = some x ∧ x.fz = true ∧ R x (e1.set 12 (some (.lst true (xs.eraseIdx j)))) := by simp [wPopAtN, ownL]
@[simp ↓] theorem q_ins12 {a0 a1 a2 a3 a4 a5 a6 a7 a8 a9 a10 a11 : Option D} {wi we : WE} {R : D → En → Prop} : wInsN 12 wi we (a0 :: a1 :: a2 :: a3 :: a4 :: a5 :: a6 :: a7 :: a8 :: a9 :: a10 :: a11 :: some (.obj true .lst xs) :: e) R = wi (a0 :: a1 :: a2 :: a3 :: a4 :: a5 :: a6 :: a7 :: a8 :: a9 :: a10 :: a11 :: some (.obj true .lst xs) :: e) fun k e1 => asI k fun kk => we e1 fun y e2 => ownL (e2[12]?) fun xs => D.fzL xs = true ∧ xs.length < sizeLine ∧ 0 ≤ kk ∧ kk < 2 ^ 63 ∧ R .non (e2.set 12 (some (.lst true (xs.take kk.toNat ++ [y.frz] ++ xs.drop kk.toNat)))) := by simp [wInsN, ownL]
@[simp ↓] theorem q_augN12 {a0 a1 a2 a3 a4 a5 a6 a7 a8 a9 a10 a11 : Option D} {rd : RD2} {wi we : WE} {RD : EN} : sAugNx rd 12 wi we (a0 :: a1 :: a2 :: a3 :: a4 :: a5 :: a6 :: a7 :: a8 :: a9 :: a10 :: a11 :: some d :: e) RD = wi (a0 :: a1 :: a2 :: a3 :: a4 :: a5 :: a6 :: a7 :: a8 :: a9 :: a10 :: a11 :: some d :: e) fun k e1 => asI k fun kk => ownL (e1[12]?) fun xs => ∃ j x, L2.ixN xs.length kk = some j ∧ xs[j]? = some x ∧ x.fz = true ∧ we e1 fun y e2 => ownL (e2[12]?) fun ys => ∃ j2, L2.ixN ys.length kk = some j2 ∧ rd x y fun z => RD.nx (e2.set 12 (some (.lst true (ys.set j2 z)))) := by simp [sAugNx]
@[simp ↓] theorem q_set12 {a0 a1 a2 a3 a4 a5 a6 a7 a8 a9 a10 a11 : Option D} {q : Option D} : List.set (a0 :: a1 :: a2 :: a3 :: a4 :: a5 :: a6 :: a7 :: a8 :: a9 :: a10 :: a11 :: o :: e) 12 q = (a0 :: a1 :: a2 :: a3 :: a4 :: a5 :: a6 :: a7 :: a8 :: a9 :: a10 :: a11 :: q :: e) := by simp
@[simp ↓] theorem q_get12 {a0 a1 a2 a3 a4 a5 a6 a7 a8 a9 a10 a11 : Option D} : ((a0 :: a1 :: a2 :: a3 :: a4 :: a5 :: a6 :: a7 :: a8 :: a9 :: a10 :: a11 :: o :: e) : En)[12]? = some o := by simp
@[simp ↓] theorem q_val13 {a0 a1 a2 a3 a4 a5 a6 a7 a8 a9 a10 a11 a12 : Option D} {R : D → En → Prop} : wVal 13 (a0 :: a1 :: a2 :: a3 :: a4 :: a5 :: a6 :: a7 :: a8 :: a9 :: a10 :: a11 :: a12 :: some d :: e) R = (d.fz = true ∧ R d (a0 :: a1 :: a2 :: a3 :: a4 :: a5 :: a6 :: a7 :: a8 :: a9 :: a10 :: a11 :: a12 :: some d :: e)) := by simp [wVal]
@[simp ↓ high] theorem q_valS13 {a0 a1 a2 a3 a4 a5 a6 a7 a8 a9 a10 a11 a12 : Option D} {R : D → En → Prop} : wVal 13 (a0 :: a1 :: a2 :: a3 :: a4 :: a5 :: a6 :: a7 :: a8 :: a9 :: a10 :: a11 :: a12 :: some (.sc v) :: e) R = R (.sc v) (a0 :: a1 :: a2 :: a3 :: a4 :: a5 :: a6 :: a7 :: a8 :: a9 :: a10 :: a11 :: a12 :: some (.sc v) :: e) := by simp [wVal]
@[simp ↓] theorem q_var13 {a0 a1 a2 a3 a4 a5 a6 a7 a8 a9 a10 a11 a12 : Option D} {R : D → En → Prop} : wVar 13 (a0 :: a1 :: a2 :: a3 :: a4 :: a5 :: a6 :: a7 :: a8 :: a9 :: a10 :: a11 :: a12 :: some d :: e) R = R d.frz (a0 :: a1 :: a2 :: a3 :: a4 :: a5 :: a6 :: a7 :: a8 :: a9 :: a10 :: a11 :: a12 :: some d.frz :: e) := by simp [wVar]
@[simp ↓ high] theorem q_varL13 {a0 a1 a2 a3 a4 a5 a6 a7 a8 a9 a10 a11 a12 : Option D} {R : D → En → Prop} {w : Bool} : wVar 13 (a0 :: a1 :: a2 :: a3 :: a4 :: a5 :: a6 :: a7 :: a8 :: a9 :: a10 :: a11 :: a12 :: some (.obj w .lst xs) :: e) R = R (.obj false .lst (D.frzL xs)) (a0 :: a1 :: a2 :: a3 :: a4 :: a5 :: a6 :: a7 :: a8 :: a9 :: a10 :: a11 :: a12 :: some (.obj false .lst (D.frzL xs)) :: e) := by simp [wVar]
@[simp ↓] theorem q_move13 {a0 a1 a2 a3 a4 a5 a6 a7 a8 a9 a10 a11 a12 : Option D} {R : D → En → Prop} : wMove 13 (a0 :: a1 :: a2 :: a3 :: a4 :: a5 :: a6 :: a7 :: a8 :: a9 :: a10 :: a11 :: a12 :: some d :: e) R = R d (a0 :: a1 :: a2 :: a3 :: a4 :: a5 :: a6 :: a7 :: a8 :: a9 :: a10 :: a11 :: a12 :: none :: e) := by simp [wMove]
@[simp ↓] theorem q_bn13 {a0 a1 a2 a3 a4 a5 a6 a7 a8 a9 a10 a11 a12 : Option D} {R : D → Prop} : bName 13 (a0 :: a1 :: a2 :: a3 :: a4 :: a5 :: a6 :: a7 :: a8 :: a9 :: a10 :: a11 :: a12 :: some d :: e) R = R d := by simp [bName]
@[simp ↓] theorem q_mn13 {a0 a1 a2 a3 a4 a5 a6 a7 a8 a9 a10 a11 a12 : Option D} {R : Nat → D → (D → D) → Prop} : mName 13 (a0 :: a1 :: a2 :: a3 :: a4 :: a5 :: a6 :: a7 :: a8 :: a9 :: a10 :: a11 :: a12 :: some d :: e) R = R 13 d id := by simp [mName]
@[simp ↓] theorem q_gn13 {a0 a1 a2 a3 a4 a5 a6 a7 a8 a9 a10 a11 a12 : Option D} {R : En → Prop} : gNm 13 d (a0 :: a1 :: a2 :: a3 :: a4 :: a5 :: a6 :: a7 :: a8 :: a9 :: a10 :: a11 :: a12 :: o :: e) R = R (a0 :: a1 :: a2 :: a3 :: a4 :: a5 :: a6 :: a7 :: a8 :: a9 :: a10 :: a11 :: a12 :: some d :: e) := by simp [gNm]
@[simp ↓] theorem q_gf13 {a0 a1 a2 a3 a4 a5 a6 a7 a8 a9 a10 a11 a12 : Option D} {R : En → Prop} : gFz 13 d (a0 :: a1 :: a2 :: a3 :: a4 :: a5 :: a6 :: a7 :: a8 :: a9 :: a10 :: a11 :: a12 :: o :: e) R = R (a0 :: a1 :: a2 :: a3 :: a4 :: a5 :: a6 :: a7 :: a8 :: a9 :: a10 :: a11 :: a12 :: some d.frz :: e) := by simp [gFz]
@[simp ↓ high] theorem q_gfS13 {a0 a1 a2 a3 a4 a5 a6 a7 a8 a9 a10 a11 a12 : Option D} {R : En → Prop} : gFz 13 (.sc v) (a0 :: a1 :: a2 :: a3 :: a4 :: a5 :: a6 :: a7 :: a8 :: a9 :: a10 :: a11 :: a12 :: o :: e) R = R (a0 :: a1 :: a2 :: a3 :: a4 :: a5 :: a6 :: a7 :: a8 :: a9 :: a10 :: a11 :: a12 :: some (.sc v) :: e) := by simp [gFz]
@[simp ↓ high] theorem q_gfT13 {a0 a1 a2 a3 a4 a5 a6 a7 a8 a9 a10 a11 a12 : Option D} {R : En → Prop} : gFz 13 (.tup xs) (a0 :: a1 :: a2 :: a3 :: a4 :: a5 :: a6 :: a7 :: a8 :: a9 :: a10 :: a11 :: a12 :: o :: e) R = R (a0 :: a1 :: a2 :: a3 :: a4 :: a5 :: a6 :: a7 :: a8 :: a9 :: a10 :: a11 :: a12 :: some (.tup (D.frzL xs)) :: e) := by simp [gFz]
@[simp ↓ high] theorem q_gfL13 {a0 a1 a2 a3 a4 a5 a6 a7 a8 a9 a10 a11 a12 : Option D} {R : En → Prop} {w : Bool} : gFz 13 (.obj w .lst xs) (a0 :: a1 :: a2 :: a3 :: a4 :: a5 :: a6 :: a7 :: a8 :: a9 :: a10 :: a11 :: a12 :: o :: e) R = R (a0 :: a1 :: a2 :: a3 :: a4 :: a5 :: a6 :: a7 :: a8 :: a9 :: a10 :: a11 :: a12 :: some (.obj false .lst (D.frzL xs)) :: e) := by simp [gFz]
@[simp ↓] theorem q_ref13 {a0 a1 a2 a3 a4 a5 a6 a7 a8 a9 a10 a11 a12 : Option D} {wc : WC} {R : List AV → En → Prop} : cRef 13 wc (a0 :: a1 :: a2 :: a3 :: a4 :: a5 :: a6 :: a7 :: a8 :: a9 :: a10 :: a11 :: a12 :: some d :: e) R = wc (a0 :: a1 :: a2 :: a3 :: a4 :: a5 :: a6 :: a7 :: a8 :: a9 :: a10 :: a11 :: a12 :: some d :: e) fun is e2 => R (.ref 13 :: is) e2 := by simp [cRef]
@[simp ↓] theorem q_aug13 {a0 a1 a2 a3 a4 a5 a6 a7 a8 a9 a10 a11 a12 : Option D} {rd : RD2} {we : WE} {RD : EN} : sAug 13 rd we (a0 :: a1 :: a2 :: a3 :: a4 :: a5 :: a6 :: a7 :: a8 :: a9 :: a10 :: a11 :: a12 :: some (.sc v) :: e) RD = we (a0 :: a1 :: a2 :: a3 :: a4 :: a5 :: a6 :: a7 :: a8 :: a9 :: a10 :: a11 :: a12 :: some (.sc v) :: e) fun y e1 => rd (.sc v) y fun z => RD.nx (e1.set 13 (some z)) := by simp [sAug]
@[simp ↓] theorem q_ne13 {a0 a1 a2 a3 a4 a5 a6 a7 a8 a9 a10 a11 a12 : Option D} {rd : RD2} {wb : WE} {R : D → En → Prop} : wBinNE rd 13 wb (a0 :: a1 :: a2 :: a3 :: a4 :: a5 :: a6 :: a7 :: a8 :: a9 :: a10 :: a11 :: a12 :: some d :: e) R = wb (a0 :: a1 :: a2 :: a3 :: a4 :: a5 :: a6 :: a7 :: a8 :: a9 :: a10 :: a11 :: a12 :: some d :: e) fun y e2 => ∃ x, e2[13]? = some (some x) ∧ rd x y fun z => R z e2 := by simp [wBinNE]
@[simp ↓ high] theorem q_neC13 {a0 a1 a2 a3 a4 a5 a6 a7 a8 a9 a10 a11 a12 : Option D} {rd : RD2} {R : D → En → Prop} {c : D} : wBinNE rd 13 (wC c) (a0 :: a1 :: a2 :: a3 :: a4 :: a5 :: a6 :: a7 :: a8 :: a9 :: a10 :: a11 :: a12 :: some d :: e) R = rd d c fun z => R z (a0 :: a1 :: a2 :: a3 :: a4 :: a5 :: a6 :: a7 :: a8 :: a9 :: a10 :: a11 :: a12 :: some d :: e) := by simp [wBinNE, wC]
@[simp ↓ high] theorem q_neV13 {a0 a1 a2 a3 a4 a5 a6 a7 a8 a9 a10 a11 a12 : Option D} {rd : RD2} {R : D → En → Prop} {j : Nat} : wBinNE rd 13 (wVal j) (a0 :: a1 :: a2 :: a3 :: a4 :: a5 :: a6 :: a7 :: a8 :: a9 :: a10 :: a11 :: a12 :: some d :: e) R = wVal j (a0 :: a1 :: a2 :: a3 :: a4 :: a5 :: a6 :: a7 :: a8 :: a9 :: a10 :: a11 :: a12 :: some d :: e) fun y e2 => rd d y fun z => R z e2 := by
  apply propext; simp only [wBinNE, wVal]; constructor
  · rintro ⟨_, y, h1, h2, x, h3, h4⟩; simp at h3; subst h3; exact ⟨y, h1, h2, h4⟩
  · rintro ⟨y, h1, h2, h4⟩; exact ⟨⟨d, by simp⟩, y, h1, h2, d, by simp, h4⟩
@[simp ↓] theorem q_app13 {a0 a1 a2 a3 a4 a5 a6 a7 a8 a9 a10 a11 a12 : Option D} {kf : Bool} {we : WE} {R : D → En → Prop} : wAppN kf 13 we (a0 :: a1 :: a2 :: a3 :: a4 :: a5 :: a6 :: a7 :: a8 :: a9 :: a10 :: a11 :: a12 :: some (.obj true .lst xs) :: e) R = we (a0 :: a1 :: a2 :: a3 :: a4 :: a5 :: a6 :: a7 :: a8 :: a9 :: a10 :: a11 :: a12 :: some (.obj true .lst xs) :: e) fun y e1 => ownL (e1[13]?) fun xs => xs.length < sizeLine ∧ R .non (e1.set 13 (some (.lst true (xs ++ [inK kf y])))) := by simp [wAppN, ownL]
@[simp ↓] theorem q_popN13 {a0 a1 a2 a3 a4 a5 a6 a7 a8 a9 a10 a11 a12 : Option D} {wi : WE} {R : D → En → Prop} : wPopAtN 13 wi (a0 :: a1 :: a2 :: a3 :: a4 :: a5 :: a6 :: a7 :: a8 :: a9 :: a10 :: a11 :: a12 :: some (.obj true .lst xs) :: e) R = wi (a0 :: a1 :: a2 :: a3 :: a4 :: a5 :: a6 :: a7 :: a8 :: a9 :: a10 :: a11 :: a12 :: some (.obj true .lst xs) :: e) fun k e1 => asI k fun kk => ownL (e1[13]?) fun xs => -(2 ^ 63) ≤ kk ∧ kk < 2 ^ 63 ∧ ∃ j x, L2.ixN xs.length kk = some j ∧ xs[j]? = some x ∧ x.fz = true ∧ R x (e1.set 13 (some (.lst true (xs.eraseIdx j)))) := by simp [wPopAtN, ownL]
@[simp ↓] theorem q_ins13 {a0 a1 a2 a3 a4 a5 a6 a7 a8 a9 a10 a11 a12 : Option D} {wi we : WE} {R : D → En → Prop} : wInsN 13 wi we (a0 :: a1 :: a2 :: a3 :: a4 :: a5 :: a6 :: a7 :: a8 :: a9 :: a10 :: a11 :: a12 :: some (.obj true .lst xs) :: e) R = wi (a0 :: a1 :: a2 :: a3 :: a4 :: a5 :: a6 :: a7 :: a8 :: a9 :: a10 :: a11 :: a12 :: some (.obj true .lst xs) :: e) fun k e1 => asI k fun kk => we e1 fun y e2 => ownL (e2[13]?) fun xs => D.fzL xs = true ∧ xs.length < sizeLine ∧ 0 ≤ kk ∧ kk < 2 ^ 63 ∧ R .non (e2.set 13 (some (.lst true (xs.take kk.toNat ++ [y.frz] ++ xs.drop kk.toNat)))) := by simp [wInsN, ownL]
@[simp ↓] theorem q_augN13 {a0 a1 a2 a3 a4 a5 a6 a7 a8 a9 a10 a11 a12 : Option D} {rd : RD2} {wi we : WE} {RD : EN} : sAugNx rd 13 wi we (a0 :: a1 :: a2 :: a3 :: a4 :: a5 :: a6 :: a7 :: a8 :: a9 :: a10 :: a11 :: a12 :: some d :: e) RD = wi (a0 :: a1 :: a2 :: a3 :: a4 :: a5 :: a6 :: a7 :: a8 :: a9 :: a10 :: a11 :: a12 :: some d :: e) fun k e1 => asI k fun kk => ownL (e1[13]?) fun xs => ∃ j x, L2.ixN xs.length kk = some j ∧ xs[j]? = some x ∧ x.fz = true ∧ we e1 fun y e2 => ownL (e2[13]?) fun ys => ∃ j2, L2.ixN ys.length kk = some j2 ∧ rd x y fun z => RD.nx (e2.set 13 (some (.lst true (ys.set j2 z)))) := by simp [sAugNx]
@[simp ↓] theorem q_set13 {a0 a1 a2 a3 a4 a5 a6 a7 a8 a9 a10 a11 a12 : Option D} {q : Option D} : List.set (a0 :: a1 :: a2 :: a3 :: a4 :: a5 :: a6 :: a7 :: a8 :: a9 :: a10 :: a11 :: a12 :: o :: e) 13 q = (a0 :: a1 :: a2 :: a3 :: a4 :: a5 :: a6 :: a7 :: a8 :: a9 :: a10 :: a11 :: a12 :: q :: e) := by simp
@[simp ↓] theorem q_get13 {a0 a1 a2 a3 a4 a5 a6 a7 a8 a9 a10 a11 a12 : Option D} : ((a0 :: a1 :: a2 :: a3 :: a4 :: a5 :: a6 :: a7 :: a8 :: a9 :: a10 :: a11 :: a12 :: o :: e) : En)[13]? = some o := by simp
@[simp ↓] theorem q_val14 {a0 a1 a2 a3 a4 a5 a6 a7 a8 a9 a10 a11 a12 a13 : Option D} {R : D → En → Prop} : wVal 14 (a0 :: a1 :: a2 :: a3 :: a4 :: a5 :: a6 :: a7 :: a8 :: a9 :: a10 :: a11 :: a12 :: a13 :: some d :: e) R = (d.fz = true ∧ R d (a0 :: a1 :: a2 :: a3 :: a4 :: a5 :: a6 :: a7 :: a8 :: a9 :: a10 :: a11 :: a12 :: a13 :: some d :: e)) := by simp [wVal]
@[simp ↓ high] theorem q_valS14 {a0 a1 a2 a3 a4 a5 a6 a7 a8 a9 a10 a11 a12 a13 : Option D} {R : D → En → Prop} : wVal 14 (a0 :: a1 :: a2 :: a3 :: a4 :: a5 :: a6 :: a7 :: a8 :: a9 :: a10 :: a11 :: a12 :: a13 :: some (.sc v) :: e) R = R (.sc v) (a0 :: a1 :: a2 :: a3 :: a4 :: a5 :: a6 :: a7 :: a8 :: a9 :: a10 :: a11 :: a12 :: a13 :: some (.sc v) :: e) := by simp [wVal]
@[simp ↓] theorem q_var14 {a0 a1 a2 a3 a4 a5 a6 a7 a8 a9 a10 a11 a12 a13 : Option D} {R : D → En → Prop} : wVar 14 (a0 :: a1 :: a2 :: a3 :: a4 :: a5 :: a6 :: a7 :: a8 :: a9 :: a10 :: a11 :: a12 :: a13 :: some d :: e) R = R d.frz (a0 :: a1 :: a2 :: a3 :: a4 :: a5 :: a6 :: a7 :: a8 :: a9 :: a10 :: a11 :: a12 :: a13 :: some d.frz :: e) := by simp [wVar]
@[simp ↓ high] theorem q_varL14 {a0 a1 a2 a3 a4 a5 a6 a7 a8 a9 a10 a11 a12 a13 : Option D} {R : D → En → Prop} {w : Bool} : wVar 14 (a0 :: a1 :: a2 :: a3 :: a4 :: a5 :: a6 :: a7 :: a8 :: a9 :: a10 :: a11 :: a12 :: a13 :: some (.obj w .lst xs) :: e) R = R (.obj false .lst (D.frzL xs)) (a0 :: a1 :: a2 :: a3 :: a4 :: a5 :: a6 :: a7 :: a8 :: a9 :: a10 :: a11 :: a12 :: a13 :: some (.obj false .lst (D.frzL xs)) :: e) := by simp [wVar]
@[simp ↓] theorem q_move14 {a0 a1 a2 a3 a4 a5 a6 a7 a8 a9 a10 a11 a12 a13 : Option D} {R : D → En → Prop} : wMove 14 (a0 :: a1 :: a2 :: a3 :: a4 :: a5 :: a6 :: a7 :: a8 :: a9 :: a10 :: a11 :: a12 :: a13 :: some d :: e) R = R d (a0 :: a1 :: a2 :: a3 :: a4 :: a5 :: a6 :: a7 :: a8 :: a9 :: a10 :: a11 :: a12 :: a13 :: none :: e) := by simp [wMove]
@[simp ↓] theorem q_bn14 {a0 a1 a2 a3 a4 a5 a6 a7 a8 a9 a10 a11 a12 a13 : Option D} {R : D → Prop} : bName 14 (a0 :: a1 :: a2 :: a3 :: a4 :: a5 :: a6 :: a7 :: a8 :: a9 :: a10 :: a11 :: a12 :: a13 :: some d :: e) R = R d := by simp [bName]
@[simp ↓] theorem q_mn14 {a0 a1 a2 a3 a4 a5 a6 a7 a8 a9 a10 a11 a12 a13 : Option D} {R : Nat → D → (D → D) → Prop} : mName 14 (a0 :: a1 :: a2 :: a3 :: a4 :: a5 :: a6 :: a7 :: a8 :: a9 :: a10 :: a11 :: a12 :: a13 :: some d :: e) R = R 14 d id := by simp [mName]
@[simp ↓] theorem q_gn14 {a0 a1 a2 a3 a4 a5 a6 a7 a8 a9 a10 a11 a12 a13 : Option D} {R : En → Prop} : gNm 14 d (a0 :: a1 :: a2 :: a3 :: a4 :: a5 :: a6 :: a7 :: a8 :: a9 :: a10 :: a11 :: a12 :: a13 :: o :: e) R = R (a0 :: a1 :: a2 :: a3 :: a4 :: a5 :: a6 :: a7 :: a8 :: a9 :: a10 :: a11 :: a12 :: a13 :: some d :: e) := by simp [gNm]
@[simp ↓] theorem q_gf14 {a0 a1 a2 a3 a4 a5 a6 a7 a8 a9 a10 a11 a12 a13 : Option D} {R : En → Prop} : gFz 14 d (a0 :: a1 :: a2 :: a3 :: a4 :: a5 :: a6 :: a7 :: a8 :: a9 :: a10 :: a11 :: a12 :: a13 :: o :: e) R = R (a0 :: a1 :: a2 :: a3 :: a4 :: a5 :: a6 :: a7 :: a8 :: a9 :: a10 :: a11 :: a12 :: a13 :: some d.frz :: e) := by simp [gFz]
@[simp ↓ high] theorem q_gfS14 {a0 a1 a2 a3 a4 a5 a6 a7 a8 a9 a10 a11 a12 a13 : Option D} {R : En → Prop} : gFz 14 (.sc v) (a0 :: a1 :: a2 :: a3 :: a4 :: a5 :: a6 :: a7 :: a8 :: a9 :: a10 :: a11 :: a12 :: a13 :: o :: e) R = R (a0 :: a1 :: a2 :: a3 :: a4 :: a5 :: a6 :: a7 :: a8 :: a9 :: a10 :: a11 :: a12 :: a13 :: some (.sc v) :: e) := by simp [gFz]
@[simp ↓ high] theorem q_gfT14 {a0 a1 a2 a3 a4 a5 a6 a7 a8 a9 a10 a11 a12 a13 : Option D} {R : En → Prop} : gFz 14 (.tup xs) (a0 :: a1 :: a2 :: a3 :: a4 :: a5 :: a6 :: a7 :: a8 :: a9 :: a10 :: a11 :: a12 :: a13 :: o :: e) R = R (a0 :: a1 :: a2 :: a3 :: a4 :: a5 :: a6 :: a7 :: a8 :: a9 :: a10 :: a11 :: a12 :: a13 :: some (.tup (D.frzL xs)) :: e) := by simp [gFz]
@[simp ↓ high] theorem q_gfL14 {a0 a1 a2 a3 a4 a5 a6 a7 a8 a9 a10 a11 a12 a13 : Option D} {R : En → Prop} {w : Bool} : gFz 14 (.obj w .lst xs) (a0 :: a1 :: a2 :: a3 :: a4 :: a5 :: a6 :: a7 :: a8 :: a9 :: a10 :: a11 :: a12 :: a13 :: o :: e) R = R (a0 :: a1 :: a2 :: a3 :: a4 :: a5 :: a6 :: a7 :: a8 :: a9 :: a10 :: a11 :: a12 :: a13 :: some (.obj false .lst (D.frzL xs)) :: e) := by simp [gFz]
@[simp ↓] theorem q_ref14 {a0 a1 a2 a3 a4 a5 a6 a7 a8 a9 a10 a11 a12 a13 : Option D} {wc : WC} {R : List AV → En → Prop} : cRef 14 wc (a0 :: a1 :: a2 :: a3 :: a4 :: a5 :: a6 :: a7 :: a8 :: a9 :: a10 :: a11 :: a12 :: a13 :: some d :: e) R = wc (a0 :: a1 :: a2 :: a3 :: a4 :: a5 :: a6 :: a7 :: a8 :: a9 :: a10 :: a11 :: a12 :: a13 :: some d :: e) fun is e2 => R (.ref 14 :: is) e2 := by simp [cRef]
@[simp ↓] theorem q_aug14 {a0 a1 a2 a3 a4 a5 a6 a7 a8 a9 a10 a11 a12 a13 : Option D} {rd : RD2} {we : WE} {RD : EN} : sAug 14 rd we (a0 :: a1 :: a2 :: a3 :: a4 :: a5 :: a6 :: a7 :: a8 :: a9 :: a10 :: a11 :: a12 :: a13 :: some (.sc v) :: e) RD = we (a0 :: a1 :: a2 :: a3 :: a4 :: a5 :: a6 :: a7 :: a8 :: a9 :: a10 :: a11 :: a12 :: a13 :: some (.sc v) :: e) fun y e1 => rd (.sc v) y fun z => RD.nx (e1.set 14 (some z)) := by simp [sAug]
@[simp ↓] theorem q_ne14 {a0 a1 a2 a3 a4 a5 a6 a7 a8 a9 a10 a11 a12 a13 : Option D} {rd : RD2} {wb : WE} {R : D → En → Prop} : wBinNE rd 14 wb (a0 :: a1 :: a2 :: a3 :: a4 :: a5 :: a6 :: a7 :: a8 :: a9 :: a10 :: a11 :: a12 :: a13 :: some d :: e) R = wb (a0 :: a1 :: a2 :: a3 :: a4 :: a5 :: a6 :: a7 :: a8 :: a9 :: a10 :: a11 :: a12 :: a13 :: some d :: e) fun y e2 => ∃ x, e2[14]? = some (some x) ∧ rd x y fun z => R z e2 := by simp [wBinNE]
@[simp ↓ high] theorem q_neC14 {a0 a1 a2 a3 a4 a5 a6 a7 a8 a9 a10 a11 a12 a13 : Option D} {rd : RD2} {R : D → En → Prop} {c : D} : wBinNE rd 14 (wC c) (a0 :: a1 :: a2 :: a3 :: a4 :: a5 :: a6 :: a7 :: a8 :: a9 :: a10 :: a11 :: a12 :: a13 :: some d :: e) R = rd d c fun z => R z (a0 :: a1 :: a2 :: a3 :: a4 :: a5 :: a6 :: a7 :: a8 :: a9 :: a10 :: a11 :: a12 :: a13 :: some d :: e) := by simp [wBinNE, wC]
@[simp ↓ high] theorem q_neV14 {a0 a1 a2 a3 a4 a5 a6 a7 a8 a9 a10 a11 a12 a13 : Option D} {rd : RD2} {R : D → En → Prop} {j : Nat} : wBinNE rd 14 (wVal j) (a0 :: a1 :: a2 :: a3 :: a4 :: a5 :: a6 :: a7 :: a8 :: a9 :: a10 :: a11 :: a12 :: a13 :: some d :: e) R = wVal j (a0 :: a1 :: a2 :: a3 :: a4 :: a5 :: a6 :: a7 :: a8 :: a9 :: a10 :: a11 :: a12 :: a13 :: some d :: e) fun y e2 => rd d y fun z => R z e2 := by
  apply propext; simp only [wBinNE, wVal]; constructor
  · rintro ⟨_, y, h1, h2, x, h3, h4⟩; simp at h3; subst h3; exact ⟨y, h1, h2, h4⟩
  · rintro ⟨y, h1, h2, h4⟩; exact ⟨⟨d, by simp⟩, y, h1, h2, d, by simp, h4⟩
@[simp ↓] theorem q_app14 {a0 a1 a2 a3 a4 a5 a6 a7 a8 a9 a10 a11 a12 a13 : Option D} {kf : Bool} {we : WE} {R : D → En → Prop} : wAppN kf 14 we (a0 :: a1 :: a2 :: a3 :: a4 :: a5 :: a6 :: a7 :: a8 :: a9 :: a10 :: a11 :: a12 :: a13 :: some (.obj true .lst xs) :: e) R = we (a0 :: a1 :: a2 :: a3 :: a4 :: a5 :: a6 :: a7 :: a8 :: a9 :: a10 :: a11 :: a12 :: a13 :: some (.obj true .lst xs) :: e) fun y e1 => ownL (e1[14]?) fun xs => xs.length < sizeLine ∧ R .non (e1.set 14 (some (.lst true (xs ++ [inK kf y])))) := by simp [wAppN, ownL]
@[simp ↓] theorem q_popN14 {a0 a1 a2 a3 a4 a5 a6 a7 a8 a9 a10 a11 a12 a13 : Option D} {wi : WE} {R : D → En → Prop} : wPopAtN 14 wi (a0 :: a1 :: a2 :: a3 :: a4 :: a5 :: a6 :: a7 :: a8 :: a9 :: a10 :: a11 :: a12 :: a13 :: some (.obj true .lst xs) :: e) R = wi (a0 :: a1 :: a2 :: a3 :: a4 :: a5 :: a6 :: a7 :: a8 :: a9 :: a10 :: a11 :: a12 :: a13 :: some (.obj true .lst xs) :: e) fun k e1 => asI k fun kk => ownL (e1[14]?) fun xs => -(2 ^ 63) ≤ kk ∧ kk < 2 ^ 63 ∧ ∃ j x, L2.ixN xs.length kk = some j ∧ xs[j]? = some x ∧ x.fz = true ∧ R x (e1.set 14 (some (.lst true (xs.eraseIdx j)))) := by simp [wPopAtN, ownL]
@[simp ↓] theorem q_ins14 {a0 a1 a2 a3 a4 a5 a6 a7 a8 a9 a10 a11 a12 a13 : Option D} {wi we : WE} {R : D → En → Prop} : wInsN 14 wi we (a0 :: a1 :: a2 :: a3 :: a4 :: a5 :: a6 :: a7 :: a8 :: a9 :: a10 :: a11 :: a12 :: a13 :: some (.obj true .lst xs) :: e) R = wi (a0 :: a1 :: a2 :: a3 :: a4 :: a5 :: a6 :: a7 :: a8 :: a9 :: a10 :: a11 :: a12 :: a13 :: some (.obj true .lst xs) :: e) fun k e1 => asI k fun kk => we e1 fun y e2 => ownL (e2[14]?) fun xs => D.fzL xs = true ∧ xs.length < sizeLine ∧ 0 ≤ kk ∧ kk < 2 ^ 63 ∧ R .non (e2.set 14 (some (.lst true (xs.take kk.toNat ++ [y.frz] ++ xs.drop kk.toNat)))) := by simp [wInsN, ownL]
@[simp ↓] theorem q_augN14 {a0 a1 a2 a3 a4 a5 a6 a7 a8 a9 a10 a11 a12 a13 : Option D} {rd : RD2} {wi we : WE} {RD : EN} : sAugNx rd 14 wi we (a0 :: a1 :: a2 :: a3 :: a4 :: a5 :: a6 :: a7 :: a8 :: a9 :: a10 :: a11 :: a12 :: a13 :: some d :: e) RD = wi (a0 :: a1 :: a2 :: a3 :: a4 :: a5 :: a6 :: a7 :: a8 :: a9 :: a10 :: a11 :: a12 :: a13 :: some d :: e) fun k e1 => asI k fun kk => ownL (e1[14]?) fun xs => ∃ j x, L2.ixN xs.length kk = some j ∧ xs[j]? = some x ∧ x.fz = true ∧ we e1 fun y e2 => ownL (e2[14]?) fun ys => ∃ j2, L2.ixN ys.length kk = some j2 ∧ rd x y fun z => RD.nx (e2.set 14 (some (.lst true (ys.set j2 z)))) := by simp [sAugNx]
@[simp ↓] theorem q_set14 {a0 a1 a2 a3 a4 a5 a6 a7 a8 a9 a10 a11 a12 a13 : Option D} {q : Option D} : List.set (a0 :: a1 :: a2 :: a3 :: a4 :: a5 :: a6 :: a7 :: a8 :: a9 :: a10 :: a11 :: a12 :: a13 :: o :: e) 14 q = (a0 :: a1 :: a2 :: a3 :: a4 :: a5 :: a6 :: a7 :: a8 :: a9 :: a10 :: a11 :: a12 :: a13 :: q :: e) := by simp
@[simp ↓] theorem q_get14 {a0 a1 a2 a3 a4 a5 a6 a7 a8 a9 a10 a11 a12 a13 : Option D} : ((a0 :: a1 :: a2 :: a3 :: a4 :: a5 :: a6 :: a7 :: a8 :: a9 :: a10 :: a11 :: a12 :: a13 :: o :: e) : En)[14]? = some o := by simp
@[simp ↓] theorem q_val15 {a0 a1 a2 a3 a4 a5 a6 a7 a8 a9 a10 a11 a12 a13 a14 : Option D} {R : D → En → Prop} : wVal 15 (a0 :: a1 :: a2 :: a3 :: a4 :: a5 :: a6 :: a7 :: a8 :: a9 :: a10 :: a11 :: a12 :: a13 :: a14 :: some d :: e) R = (d.fz = true ∧ R d (a0 :: a1 :: a2 :: a3 :: a4 :: a5 :: a6 :: a7 :: a8 :: a9 :: a10 :: a11 :: a12 :: a13 :: a14 :: some d :: e)) := by simp [wVal]
@[simp ↓ high] theorem q_valS15 {a0 a1 a2 a3 a4 a5 a6 a7 a8 a9 a10 a11 a12 a13 a14 : Option D} {R : D → En → Prop} : wVal 15 (a0 :: a1 :: a2 :: a3 :: a4 :: a5 :: a6 :: a7 :: a8 :: a9 :: a10 :: a11 :: a12 :: a13 :: a14 :: some (.sc v) :: e) R = R (.sc v) (a0 :: a1 :: a2 :: a3 :: a4 :: a5 :: a6 :: a7 :: a8 :: a9 :: a10 :: a11 :: a12 :: a13 :: a14 :: some (.sc v) :: e) := by simp [wVal]
@[simp ↓] theorem q_var15 {a0 a1 a2 a3 a4 a5 a6 a7 a8 a9 a10 a11 a12 a13 a14 : Option D} {R : D → En → Prop} : wVar 15 (a0 :: a1 :: a2 :: a3 :: a4 :: a5 :: a6 :: a7 :: a8 :: a9 :: a10 :: a11 :: a12 :: a13 :: a14 :: some d :: e) R = R d.frz (a0 :: a1 :: a2 :: a3 :: a4 :: a5 :: a6 :: a7 :: a8 :: a9 :: a10 :: a11 :: a12 :: a13 :: a14 :: some d.frz :: e) := by simp [wVar]
@[simp ↓ high] theorem q_varL15 {a0 a1 a2 a3 a4 a5 a6 a7 a8 a9 a10 a11 a12 a13 a14 : Option D} {R : D → En → Prop} {w : Bool} : wVar 15 (a0 :: a1 :: a2 :: a3 :: a4 :: a5 :: a6 :: a7 :: a8 :: a9 :: a10 :: a11 :: a12 :: a13 :: a14 :: some (.obj w .lst xs) :: e) R = R (.obj false .lst (D.frzL xs)) (a0 :: a1 :: a2 :: a3 :: a4 :: a5 :: a6 :: a7 :: a8 :: a9 :: a10 :: a11 :: a12 :: a13 :: a14 :: some (.obj false .lst (D.frzL xs)) :: e) := by simp [wVar]
@[simp ↓] theorem q_move15 {a0 a1 a2 a3 a4 a5 a6 a7 a8 a9 a10 a11 a12 a13 a14 : Option D} {R : D → En → Prop} : wMove 15 (a0 :: a1 :: a2 :: a3 :: a4 :: a5 :: a6 :: a7 :: a8 :: a9 :: a10 :: a11 :: a12 :: a13 :: a14 :: some d :: e) R = R d (a0 :: a1 :: a2 :: a3 :: a4 :: a5 :: a6 :: a7 :: a8 :: a9 :: a10 :: a11 :: a12 :: a13 :: a14 :: none :: e) := by simp [wMove]
@[simp ↓] theorem q_bn15 {a0 a1 a2 a3 a4 a5 a6 a7 a8 a9 a10 a11 a12 a13 a14 : Option D} {R : D → Prop} : bName 15 (a0 :: a1 :: a2 :: a3 :: a4 :: a5 :: a6 :: a7 :: a8 :: a9 :: a10 :: a11 :: a12 :: a13 :: a14 :: some d :: e) R = R d := by simp [bName]
@[simp ↓] theorem q_mn15 {a0 a1 a2 a3 a4 a5 a6 a7 a8 a9 a10 a11 a12 a13 a14 : Option D} {R : Nat → D → (D → D) → Prop} : mName 15 (a0 :: a1 :: a2 :: a3 :: a4 :: a5 :: a6 :: a7 :: a8 :: a9 :: a10 :: a11 :: a12 :: a13 :: a14 :: some d :: e) R = R 15 d id := by simp [mName]
@[simp ↓] theorem q_gn15 {a0 a1 a2 a3 a4 a5 a6 a7 a8 a9 a10 a11 a12 a13 a14 : Option D} {R : En → Prop} : gNm 15 d (a0 :: a1 :: a2 :: a3 :: a4 :: a5 :: a6 :: a7 :: a8 :: a9 :: a10 :: a11 :: a12 :: a13 :: a14 :: o :: e) R = R (a0 :: a1 :: a2 :: a3 :: a4 :: a5 :: a6 :: a7 :: a8 :: a9 :: a10 :: a11 :: a12 :: a13 :: a14 :: some d :: e) := by simp [gNm]
@[simp ↓] theorem q_gf15 {a0 a1 a2 a3 a4 a5 a6 a7 a8 a9 a10 a11 a12 a13 a14 : Option D} {R : En → Prop} : gFz 15 d (a0 :: a1 :: a2 :: a3 :: a4 :: a5 :: a6 :: a7 :: a8 :: a9 :: a10 :: a11 :: a12 :: a13 :: a14 :: o :: e) R = R (a0 :: a1 :: a2 :: a3 :: a4 :: a5 :: a6 :: a7 :: a8 :: a9 :: a10 :: a11 :: a12 :: a13 :: a14 :: some d.frz :: e) := by simp [gFz]
@[simp ↓ high] theorem q_gfS15 {a0 a1 a2 a3 a4 a5 a6 a7 a8 a9 a10 a11 a12 a13 a14 : Option D} {R : En → Prop} : gFz 15 (.sc v) (a0 :: a1 :: a2 :: a3 :: a4 :: a5 :: a6 :: a7 :: a8 :: a9 :: a10 :: a11 :: a12 :: a13 :: a14 :: o :: e) R = R (a0 :: a1 :: a2 :: a3 :: a4 :: a5 :: a6 :: a7 :: a8 :: a9 :: a10 :: a11 :: a12 :: a13 :: a14 :: some (.sc v) :: e) := by simp [gFz]
@[simp ↓ high] theorem q_gfT15 {a0 a1 a2 a3 a4 a5 a6 a7 a8 a9 a10 a11 a12 a13 a14 : Option D} {R : En → Prop} : gFz 15 (.tup xs) (a0 :: a1 :: a2 :: a3 :: a4 :: a5 :: a6 :: a7 :: a8 :: a9 :: a10 :: a11 :: a12 :: a13 :: a14 :: o :: e) R = R (a0 :: a1 :: a2 :: a3 :: a4 :: a5 :: a6 :: a7 :: a8 :: a9 :: a10 :: a11 :: a12 :: a13 :: a14 :: some (.tup (D.frzL xs)) :: e) := by simp [gFz]
@[simp ↓ high] theorem q_gfL15 {a0 a1 a2 a3 a4 a5 a6 a7 a8 a9 a10 a11 a12 a13 a14 : Option D} {R : En → Prop} {w : Bool} : gFz 15 (.obj w .lst xs) (a0 :: a1 :: a2 :: a3 :: a4 :: a5 :: a6 :: a7 :: a8 :: a9 :: a10 :: a11 :: a12 :: a13 :: a14 :: o :: e) R = R (a0 :: a1 :: a2 :: a3 :: a4 :: a5 :: a6 :: a7 :: a8 :: a9 :: a10 :: a11 :: a12 :: a13 :: a14 :: some (.obj false .lst (D.frzL xs)) :: e) := by simp [gFz]
@[simp ↓] theorem q_ref15 {a0 a1 a2 a3 a4 a5 a6 a7 a8 a9 a10 a11 a12 a13 a14 : Option D} {wc : WC} {R : List AV → En → Prop} : cRef 15 wc (a0 :: a1 :: a2 :: a3 :: a4 :: a5 :: a6 :: a7 :: a8 :: a9 :: a10 :: a11 :: a12 :: a13 :: a14 :: some d :: e) R = wc (a0 :: a1 :: a2 :: a3 :: a4 :: a5 :: a6 :: a7 :: a8 :: a9 :: a10 :: a11 :: a12 :: a13 :: a14 :: some d :: e) fun is e2 => R (.ref 15 :: is) e2 := by simp [cRef]
@[simp ↓] theorem q_aug15 {a0 a1 a2 a3 a4 a5 a6 a7 a8 a9 a10 a11 a12 a13 a14 : Option D} {rd : RD2} {we : WE} {RD : EN} : sAug 15 rd we (a0 :: a1 :: a2 :: a3 :: a4 :: a5 :: a6 :: a7 :: a8 :: a9 :: a10 :: a11 :: a12 :: a13 :: a14 :: some (.sc v) :: e) RD = we (a0 :: a1 :: a2 :: a3 :: a4 :: a5 :: a6 :: a7 :: a8 :: a9 :: a10 :: a11 :: a12 :: a13 :: a14 :: some (.sc v) :: e) fun y e1 => rd (.sc v) y fun z => RD.nx (e1.set 15 (some z)) := by simp [sAug]
@[simp ↓] theorem q_ne15 {a0 a1 a2 a3 a4 a5 a6 a7 a8 a9 a10 a11 a12 a13 a14 : Option D} {rd : RD2} {wb : WE} {R : D → En → Prop} : wBinNE rd 15 wb (a0 :: a1 :: a2 :: a3 :: a4 :: a5 :: a6 :: a7 :: a8 :: a9 :: a10 :: a11 :: a12 :: a13 :: a14 :: some d :: e) R = wb (a0 :: a1 :: a2 :: a3 :: a4 :: a5 :: a6 :: a7 :: a8 :: a9 :: a10 :: a11 :: a12 :: a13 :: a14 :: some d :: e) fun y e2 => ∃ x, e2[15]? = some (some x) ∧ rd x y fun z => R z e2 := by simp [wBinNE]
@[simp ↓ high] theorem q_neC15 {a0 a1 a2 a3 a4 a5 a6 a7 a8 a9 a10 a11 a12 a13 a14 : Option D} {rd : RD2} {R : D → En → Prop} {c : D} : wBinNE rd 15 (wC c) (a0 :: a1 :: a2 :: a3 :: a4 :: a5 :: a6 :: a7 :: a8 :: a9 :: a10 :: a11 :: a12 :: a13 :: a14 :: some d :: e) R = rd d c fun z => R z (a0 :: a1 :: a2 :: a3 :: a4 :: a5 :: a6 :: a7 :: a8 :: a9 :: a10 :: a11 :: a12 :: a13 :: a14 :: some d :: e) := by simp [wBinNE, wC]
@[simp ↓ high] theorem q_neV15 {a0 a1 a2 a3 a4 a5 a6 a7 a8 a9 a10 a11 a12 a13 a14 : Option D} {rd : RD2} {R : D → En → Prop} {j : Nat} : wBinNE rd 15 (wVal j) (a0 :: a1 :: a2 :: a3 :: a4 :: a5 :: a6 :: a7 :: a8 :: a9 :: a10 :: a11 :: a12 :: a13 :: a14 :: some d :: e) R = wVal j (a0 :: a1 :: a2 :: a3 :: a4 :: a5 :: a6 :: a7 :: a8 :: a9 :: a10 :: a11 :: a12 :: a13 :: a14 :: some d :: e) fun y e2 => rd d y fun z => R z e2 := by
  apply propext; simp only [wBinNE, wVal]; constructor
  · rintro ⟨_, y, h1, h2, x, h3, h4⟩; simp at h3; subst h3; exact ⟨y, h1, h2, h4⟩
  · rintro ⟨y, h1, h2, h4⟩; exact ⟨⟨d, by simp⟩, y, h1, h2, d, by simp, h4⟩
@[simp ↓] theorem q_app15 {a0 a1 a2 a3 a4 a5 a6 a7 a8 a9 a10 a11 a12 a13 a14 : Option D} {kf : Bool} {we : WE} {R : D → En → Prop} : wAppN kf 15 we (a0 :: a1 :: a2 :: a3 :: a4 :: a5 :: a6 :: a7 :: a8 :: a9 :: a10 :: a11 :: a12 :: a13 :: a14 :: some (.obj true .lst xs) :: e) R = we (a0 :: a1 :: a2 :: a3 :: a4 :: a5 :: a6 :: a7 :: a8 :: a9 :: a10 :: a11 :: a12 :: a13 :: a14 :: some (.obj true .lst xs) :: e) fun y e1 => ownL (e1[15]?) fun xs => xs.length < sizeLine ∧ R .non (e1.set 15 (some (.lst true (xs ++ [inK kf y])))) := by simp [wAppN, ownL]
@[simp ↓] theorem q_popN15 {a0 a1 a2 a3 a4 a5 a6 a7 a8 a9 a10 a11 a12 a13 a14 : Option D} {wi : WE} {R : D → En → Prop} : wPopAtN 15 wi (a0 :: a1 :: a2 :: a3 :: a4 :: a5 :: a6 :: a7 :: a8 :: a9 :: a10 :: a11 :: a12 :: a13 :: a14 :: some (.obj true .lst xs) :: e) R = wi (a0 :: a1 :: a2 :: a3 :: a4 :: a5 :: a6 :: a7 :: a8 :: a9 :: a10 :: a11 :: a12 :: a13 :: a14 :: some (.obj true .lst xs) :: e) fun k e1 => asI k fun kk => ownL (e1[15]?) fun xs => -(2 ^ 63) ≤ kk ∧ kk < 2 ^ 63 ∧ ∃ j x, L2.ixN xs.length kk = some j ∧ xs[j]? = some x ∧ x.fz = true ∧ R x (e1.set 15 (some (.lst true (xs.eraseIdx j)))) := by simp [wPopAtN, ownL]
@[simp ↓] theorem q_ins15 {a0 a1 a2 a3 a4 a5 a6 a7 a8 a9 a10 a11 a12 a13 a14 : Option D} {wi we : WE} {R : D → En → Prop} : wInsN 15 wi we (a0 :: a1 :: a2 :: a3 :: a4 :: a5 :: a6 :: a7 :: a8 :: a9 :: a10 :: a11 :: a12 :: a13 :: a14 :: some (.obj true .lst xs) :: e) R = wi (a0 :: a1 :: a2 :: a3 :: a4 :: a5 :: a6 :: a7 :: a8 :: a9 :: a10 :: a11 :: a12 :: a13 :: a14 :: some (.obj true .lst xs) :: e) fun k e1 => asI k fun kk => we e1 fun y e2 => ownL (e2[15]?) fun xs => D.fzL xs = true ∧ xs.length < sizeLine ∧ 0 ≤ kk ∧ kk < 2 ^ 63 ∧ R .non (e2.set 15 (some (.lst true (xs.take kk.toNat ++ [y.frz] ++ xs.drop kk.toNat)))) := by simp [wInsN, ownL]
@[simp ↓] theorem q_augN15 {a0 a1 a2 a3 a4 a5 a6 a7 a8 a9 a10 a11 a12 a13 a14 : Option D} {rd : RD2} {wi we : WE} {RD : EN} : sAugNx rd 15 wi we (a0 :: a1 :: a2 :: a3 :: a4 :: a5 :: a6 :: a7 :: a8 :: a9 :: a10 :: a11 :: a12 :: a13 :: a14 :: some d :: e) RD = wi (a0 :: a1 :: a2 :: a3 :: a4 :: a5 :: a6 :: a7 :: a8 :: a9 :: a10 :: a11 :: a12 :: a13 :: a14 :: some d :: e) fun k e1 => asI k fun kk => ownL (e1[15]?) fun xs => ∃ j x, L2.ixN xs.length kk = some j ∧ xs[j]? = some x ∧ x.fz = true ∧ we e1 fun y e2 => ownL (e2[15]?) fun ys => ∃ j2, L2.ixN ys.length kk = some j2 ∧ rd x y fun z => RD.nx (e2.set 15 (some (.lst true (ys.set j2 z)))) := by simp [sAugNx]
@[simp ↓] theorem q_set15 {a0 a1 a2 a3 a4 a5 a6 a7 a8 a9 a10 a11 a12 a13 a14 : Option D} {q : Option D} : List.set (a0 :: a1 :: a2 :: a3 :: a4 :: a5 :: a6 :: a7 :: a8 :: a9 :: a10 :: a11 :: a12 :: a13 :: a14 :: o :: e) 15 q = (a0 :: a1 :: a2 :: a3 :: a4 :: a5 :: a6 :: a7 :: a8 :: a9 :: a10 :: a11 :: a12 :: a13 :: a14 :: q :: e) := by simp
@[simp ↓] theorem q_get15 {a0 a1 a2 a3 a4 a5 a6 a7 a8 a9 a10 a11 a12 a13 a14 : Option D} : ((a0 :: a1 :: a2 :: a3 :: a4 :: a5 :: a6 :: a7 :: a8 :: a9 :: a10 :: a11 :: a12 :: a13 :: a14 :: o :: e) : En)[15]? = some o := by simp
@[simp ↓] theorem q_val16 {a0 a1 a2 a3 a4 a5 a6 a7 a8 a9 a10 a11 a12 a13 a14 a15 : Option D} {R : D → En → Prop} : wVal 16 (a0 :: a1 :: a2 :: a3 :: a4 :: a5 :: a6 :: a7 :: a8 :: a9 :: a10 :: a11 :: a12 :: a13 :: a14 :: a15 :: some d :: e) R = (d.fz = true ∧ R d (a0 :: a1 :: a2 :: a3 :: a4 :: a5 :: a6 :: a7 :: a8 :: a9 :: a10 :: a11 :: a12 :: a13 :: a14 :: a15 :: some d :: e)) := by simp [wVal]
@[simp ↓ high] theorem q_valS16 {a0 a1 a2 a3 a4 a5 a6 a7 a8 a9 a10 a11 a12 a13 a14 a15 : Option D} {R : D → En → Prop} : wVal 16 (a0 :: a1 :: a2 :: a3 :: a4 :: a5 :: a6 :: a7 :: a8 :: a9 :: a10 :: a11 :: a12 :: a13 :: a14 :: a15 :: some (.sc v) :: e) R = R (.sc v) (a0 :: a1 :: a2 :: a3 :: a4 :: a5 :: a6 :: a7 :: a8 :: a9 :: a10 :: a11 :: a12 :: a13 :: a14 :: a15 :: some (.sc v) :: e) := by simp [wVal]
@[simp ↓] theorem q_var16 {a0 a1 a2 a3 a4 a5 a6 a7 a8 a9 a10 a11 a12 a13 a14 a15 : Option D} {R : D → En → Prop} : wVar 16 (a0 :: a1 :: a2 :: a3 :: a4 :: a5 :: a6 :: a7 :: a8 :: a9 :: a10 :: a11 :: a12 :: a13 :: a14 :: a15 :: some d :: e) R = R d.frz (a0 :: a1 :: a2 :: a3 :: a4 :: a5 :: a6 :: a7 :: a8 :: a9 :: a10 :: a11 :: a12 :: a13 :: a14 :: a15 :: some d.frz :: e) := by simp [wVar]
@[simp ↓ high] theorem q_varL16 {a0 a1 a2 a3 a4 a5 a6 a7 a8 a9 a10 a11 a12 a13 a14 a15 : Option D} {R : D → En → Prop} {w : Bool} : wVar 16 (a0 :: a1 :: a2 :: a3 :: a4 :: a5 :: a6 :: a7 :: a8 :: a9 :: a10 :: a11 :: a12 :: a13 :: a14 :: a15 :: some (.obj w .lst xs) :: e) R = R (.obj false .lst (D.frzL xs)) (a0 :: a1 :: a2 :: a3 :: a4 :: a5 :: a6 :: a7 :: a8 :: a9 :: a10 :: a11 :: a12 :: a13 :: a14 :: a15 :: some (.obj false .lst (D.frzL xs)) :: e) := by simp [wVar]
@[simp ↓] theorem q_move16 {a0 a1 a2 a3 a4 a5 a6 a7 a8 a9 a10 a11 a12 a13 a14 a15 : Option D} {R : D → En → Prop} : wMove 16 (a0 :: a1 :: a2 :: a3 :: a4 :: a5 :: a6 :: a7 :: a8 :: a9 :: a10 :: a11 :: a12 :: a13 :: a14 :: a15 :: some d :: e) R = R d (a0 :: a1 :: a2 :: a3 :: a4 :: a5 :: a6 :: a7 :: a8 :: a9 :: a10 :: a11 :: a12 :: a13 :: a14 :: a15 :: none :: e) := by simp [wMove]
@[simp ↓] theorem q_bn16 {a0 a1 a2 a3 a4 a5 a6 a7 a8 a9 a10 a11 a12 a13 a14 a15 : Option D} {R : D → Prop} : bName 16 (a0 :: a1 :: a2 :: a3 :: a4 :: a5 :: a6 :: a7 :: a8 :: a9 :: a10 :: a11 :: a12 :: a13 :: a14 :: a15 :: some d :: e) R = R d := by simp [bName]
@[simp ↓] theorem q_mn16 {a0 a1 a2 a3 a4 a5 a6 a7 a8 a9 a10 a11 a12 a13 a14 a15 : Option D} {R : Nat → D → (D → D) → Prop} : mName 16 (a0 :: a1 :: a2 :: a3 :: a4 :: a5 :: a6 :: a7 :: a8 :: a9 :: a10 :: a11 :: a12 :: a13 :: a14 :: a15 :: some d :: e) R = R 16 d id := by simp [mName]
@[simp ↓] theorem q_gn16 {a0 a1 a2 a3 a4 a5 a6 a7 a8 a9 a10 a11 a12 a13 a14 a15 : Option D} {R : En → Prop} : gNm 16 d (a0 :: a1 :: a2 :: a3 :: a4 :: a5 :: a6 :: a7 :: a8 :: a9 :: a10 :: a11 :: a12 :: a13 :: a14 :: a15 :: o :: e) R = R (a0 :: a1 :: a2 :: a3 :: a4 :: a5 :: a6 :: a7 :: a8 :: a9 :: a10 :: a11 :: a12 :: a13 :: a14 :: a15 :: some d :: e) := by simp [gNm]
@[simp ↓] theorem q_gf16 {a0 a1 a2 a3 a4 a5 a6 a7 a8 a9 a10 a11 a12 a13 a14 a15 : Option D} {R : En → Prop} : gFz 16 d (a0 :: a1 :: a2 :: a3 :: a4 :: a5 :: a6 :: a7 :: a8 :: a9 :: a10 :: a11 :: a12 :: a13 :: a14 :: a15 :: o :: e) R = R (a0 :: a1 :: a2 :: a3 :: a4 :: a5 :: a6 :: a7 :: a8 :: a9 :: a10 :: a11 :: a12 :: a13 :: a14 :: a15 :: some d.frz :: e) := by simp [gFz]
@[simp ↓ high] theorem q_gfS16 {a0 a1 a2 a3 a4 a5 a6 a7 a8 a9 a10 a11 a12 a13 a14 a15 : Option D} {R : En → Prop} : gFz 16 (.sc v) (a0 :: a1 :: a2 :: a3 :: a4 :: a5 :: a6 :: a7 :: a8 :: a9 :: a10 :: a11 :: a12 :: a13 :: a14 :: a15 :: o :: e) R = R (a0 :: a1 :: a2 :: a3 :: a4 :: a5 :: a6 :: a7 :: a8 :: a9 :: a10 :: a11 :: a12 :: a13 :: a14 :: a15 :: some (.sc v) :: e) := by simp [gFz]
@[simp ↓ high] theorem q_gfT16 {a0 a1 a2 a3 a4 a5 a6 a7 a8 a9 a10 a11 a12 a13 a14 a15 : Option D} {R : En → Prop} : gFz 16 (.tup xs) (a0 :: a1 :: a2 :: a3 :: a4 :: a5 :: a6 :: a7 :: a8 :: a9 :: a10 :: a11 :: a12 :: a13 :: a14 :: a15 :: o :: e) R = R (a0 :: a1 :: a2 :: a3 :: a4 :: a5 :: a6 :: a7 :: a8 :: a9 :: a10 :: a11 :: a12 :: a13 :: a14 :: a15 :: some (.tup (D.frzL xs)) :: e) := by simp [gFz]
@[simp ↓ high] theorem q_gfL16 {a0 a1 a2 a3 a4 a5 a6 a7 a8 a9 a10 a11 a12 a13 a14 a15 : Option D} {R : En → Prop} {w : Bool} : gFz 16 (.obj w .lst xs) (a0 :: a1 :: a2 :: a3 :: a4 :: a5 :: a6 :: a7 :: a8 :: a9 :: a10 :: a11 :: a12 :: a13 :: a14 :: a15 :: o :: e) R = R (a0 :: a1 :: a2 :: a3 :: a4 :: a5 :: a6 :: a7 :: a8 :: a9 :: a10 :: a11 :: a12 :: a13 :: a14 :: a15 :: some (.obj false .lst (D.frzL xs)) :: e) := by simp [gFz]
@[simp ↓] theorem q_ref16 {a0 a1 a2 a3 a4 a5 a6 a7 a8 a9 a10 a11 a12 a13 a14 a15 : Option D} {wc : WC} {R : List AV → En → Prop} : cRef 16 wc (a0 :: a1 :: a2 :: a3 :: a4 :: a5 :: a6 :: a7 :: a8 :: a9 :: a10 :: a11 :: a12 :: a13 :: a14 :: a15 :: some d :: e) R = wc (a0 :: a1 :: a2 :: a3 :: a4 :: a5 :: a6 :: a7 :: a8 :: a9 :: a10 :: a11 :: a12 :: a13 :: a14 :: a15 :: some d :: e) fun is e2 => R (.ref 16 :: is) e2 := by simp [cRef]
@[simp ↓] theorem q_aug16 {a0 a1 a2 a3 a4 a5 a6 a7 a8 a9 a10 a11 a12 a13 a14 a15 : Option D} {rd : RD2} {we : WE} {RD : EN} : sAug 16 rd we (a0 :: a1 :: a2 :: a3 :: a4 :: a5 :: a6 :: a7 :: a8 :: a9 :: a10 :: a11 :: a12 :: a13 :: a14 :: a15 :: some (.sc v) :: e) RD = we (a0 :: a1 :: a2 :: a3 :: a4 :: a5 :: a6 :: a7 :: a8 :: a9 :: a10 :: a11 :: a12 :: a13 :: a14 :: a15 :: some (.sc v) :: e) fun y e1 => rd (.sc v) y fun z => RD.nx (e1.set 16 (some z)) := by simp [sAug]
@[simp ↓] theorem q_ne16 {a0 a1 a2 a3 a4 a5 a6 a7 a8 a9 a10 a11 a12 a13 a14 a15 : Option D} {rd : RD2} {wb : WE} {R : D → En → Prop} : wBinNE rd 16 wb (a0 :: a1 :: a2 :: a3 :: a4 :: a5 :: a6 :: a7 :: a8 :: a9 :: a10 :: a11 :: a12 :: a13 :: a14 :: a15 :: some d :: e) R = wb (a0 :: a1 :: a2 :: a3 :: a4 :: a5 :: a6 :: a7 :: a8 :: a9 :: a10 :: a11 :: a12 :: a13 :: a14 :: a15 :: some d :: e) fun y e2 => ∃ x, e2[16]? = some (some x) ∧ rd x y fun z => R z e2 := by simp [wBinNE]
@[simp ↓ high] theorem q_neC16 {a0 a1 a2 a3 a4 a5 a6 a7 a8 a9 a10 a11 a12 a13 a14 a15 : Option D} {rd : RD2} {R : D → En → Prop} {c : D} : wBinNE rd 16 (wC c) (a0 :: a1 :: a2 :: a3 :: a4 :: a5 :: a6 :: a7 :: a8 :: a9 :: a10 :: a11 :: a12 :: a13 :: a14 :: a15 :: some d :: e) R = rd d c fun z => R z (a0 :: a1 :: a2 :: a3 :: a4 :: a5 :: a6 :: a7 :: a8 :: a9 :: a10 :: a11 :: a12 :: a13 :: a14 :: a15 :: some d :: e) := by simp [wBinNE, wC]
@[simp ↓ high] theorem q_neV16 {a0 a1 a2 a3 a4 a5 a6 a7 a8 a9 a10 a11 a12 a13 a14 a15 : Option D} {rd : RD2} {R : D → En → Prop} {j : Nat} : wBinNE rd 16 (wVal j) (a0 :: a1 :: a2 :: a3 :: a4 :: a5 :: a6 :: a7 :: a8 :: a9 :: a10 :: a11 :: a12 :: a13 :: a14 :: a15 :: some d :: e) R = wVal j (a0 :: a1 :: a2 :: a3 :: a4 :: a5 :: a6 :: a7 :: a8 :: a9 :: a10 :: a11 :: a12 :: a13 :: a14 :: a15 :: some d :: e) fun y e2 => rd d y fun z => R z e2 := by
  apply propext; simp only [wBinNE, wVal]; constructor
  · rintro ⟨_, y, h1, h2, x, h3, h4⟩; simp at h3; subst h3; exact ⟨y, h1, h2, h4⟩
  · rintro ⟨y, h1, h2, h4⟩; exact ⟨⟨d, by simp⟩, y, h1, h2, d, by simp, h4⟩
@[simp ↓] theorem q_app16 {a0 a1 a2 a3 a4 a5 a6 a7 a8 a9 a10 a11 a12 a13 a14 a15 : Option D} {kf : Bool} {we : WE} {R : D → En → Prop} : wAppN kf 16 we (a0 :: a1 :: a2 :: a3 :: a4 :: a5 :: a6 :: a7 :: a8 :: a9 :: a10 :: a11 :: a12 :: a13 :: a14 :: a15 :: some (.obj true .lst xs) :: e) R = we (a0 :: a1 :: a2 :: a3 :: a4 :: a5 :: a6 :: a7 :: a8 :: a9 :: a10 :: a11 :: a12 :: a13 :: a14 :: a15 :: some (.obj true .lst xs) :: e) fun y e1 => ownL (e1[16]?) fun xs => xs.length < sizeLine ∧ R .non (e1.set 16 (some (.lst true (xs ++ [inK kf y])))) := by simp [wAppN, ownL]
@[simp ↓] theorem q_popN16 {a0 a1 a2 a3 a4 a5 a6 a7 a8 a9 a10 a11 a12 a13 a14 a15 : Option D} {wi : WE} {R : D → En → Prop} : wPopAtN 16 wi (a0 :: a1 :: a2 :: a3 :: a4 :: a5 :: a6 :: a7 :: a8 :: a9 :: a10 :: a11 :: a12 :: a13 :: a14 :: a15 :: some (.obj true .lst xs) :: e) R = wi (a0 :: a1 :: a2 :: a3 :: a4 :: a5 :: a6 :: a7 :: a8 :: a9 :: a10 :: a11 :: a12 :: a13 :: a14 :: a15 :: some (.obj true .lst xs) :: e) fun k e1 => asI k fun kk => ownL (e1[16]?) fun xs => -(2 ^ 63) ≤ kk ∧ kk < 2 ^ 63 ∧ ∃ j x, L2.ixN xs.length kk = some j ∧ xs[j]? = some x ∧ x.fz = true ∧ R x (e1.set 16 (some (.lst true (xs.eraseIdx j)))) := by simp [wPopAtN, ownL]
@[simp ↓] theorem q_ins16 {a0 a1 a2 a3 a4 a5 a6 a7 a8 a9 a10 a11 a12 a13 a14 a15 : Option D} {wi we : WE} {R : D → En → Prop} : wInsN 16 wi we (a0 :: a1 :: a2 :: a3 :: a4 :: a5 :: a6 :: a7 :: a8 :: a9 :: a10 :: a11 :: a12 :: a13 :: a14 :: a15 :: some (.obj true .lst xs) :: e) R = wi (a0 :: a1 :: a2 :: a3 :: a4 :: a5 :: a6 :: a7 :: a8 :: a9 :: a10 :: a11 :: a12 :: a13 :: a14 :: a15 :: some (.obj true .lst xs) :: e) fun k e1 => asI k fun kk => we e1 fun y e2 => ownL (e2[16]?) fun xs => D.fzL xs = true ∧ xs.length < sizeLine ∧ 0 ≤ kk ∧ kk < 2 ^ 63 ∧ R .non (e2.set 16 (some (.lst true (xs.take kk.toNat ++ [y.frz] ++ xs.drop kk.toNat)))) := by simp [wInsN, ownL]
@[simp ↓] theorem q_augN16 {a0 a1 a2 a3 a4 a5 a6 a7 a8 a9 a10 a11 a12 a13 a14 a15 : Option D} {rd : RD2} {wi we : WE} {RD : EN} : sAugNx rd 16 wi we (a0 :: a1 :: a2 :: a3 :: a4 :: a5 :: a6 :: a7 :: a8 :: a9 :: a10 :: a11 :: a12 :: a13 :: a14 :: a15 :: some d :: e) RD = wi (a0 :: a1 :: a2 :: a3 :: a4 :: a5 :: a6 :: a7 :: a8 :: a9 :: a10 :: a11 :: a12 :: a13 :: a14 :: a15 :: some d :: e) fun k e1 => asI k fun kk => ownL (e1[16]?) fun xs => ∃ j x, L2.ixN xs.length kk = some j ∧ xs[j]? = some x ∧ x.fz = true ∧ we e1 fun y e2 => ownL (e2[16]?) fun ys => ∃ j2, L2.ixN ys.length kk = some j2 ∧ rd x y fun z => RD.nx (e2.set 16 (some (.lst true (ys.set j2 z)))) := by simp [sAugNx]
@[simp ↓] theorem q_set16 {a0 a1 a2 a3 a4 a5 a6 a7 a8 a9 a10 a11 a12 a13 a14 a15 : Option D} {q : Option D} : List.set (a0 :: a1 :: a2 :: a3 :: a4 :: a5 :: a6 :: a7 :: a8 :: a9 :: a10 :: a11 :: a12 :: a13 :: a14 :: a15 :: o :: e) 16 q = (a0 :: a1 :: a2 :: a3 :: a4 :: a5 :: a6 :: a7 :: a8 :: a9 :: a10 :: a11 :: a12 :: a13 :: a14 :: a15 :: q :: e) := by simp
@[simp ↓] theorem q_get16 {a0 a1 a2 a3 a4 a5 a6 a7 a8 a9 a10 a11 a12 a13 a14 a15 : Option D} : ((a0 :: a1 :: a2 :: a3 :: a4 :: a5 :: a6 :: a7 :: a8 :: a9 :: a10 :: a11 :: a12 :: a13 :: a14 :: a15 :: o :: e) : En)[16]? = some o := by simp
@[simp ↓] theorem q_val17 {a0 a1 a2 a3 a4 a5 a6 a7 a8 a9 a10 a11 a12 a13 a14 a15 a16 : Option D} {R : D → En → Prop} : wVal 17 (a0 :: a1 :: a2 :: a3 :: a4 :: a5 :: a6 :: a7 :: a8 :: a9 :: a10 :: a11 :: a12 :: a13 :: a14 :: a15 :: a16 :: some d :: e) R = (d.fz = true ∧ R d (a0 :: a1 :: a2 :: a3 :: a4 :: a5 :: a6 :: a7 :: a8 :: a9 :: a10 :: a11 :: a12 :: a13 :: a14 :: a15 :: a16 :: some d :: e)) := by simp [wVal]
@[simp ↓ high] theorem q_valS17 {a0 a1 a2 a3 a4 a5 a6 a7 a8 a9 a10 a11 a12 a13 a14 a15 a16 : Option D} {R : D → En → Prop} : wVal 17 (a0 :: a1 :: a2 :: a3 :: a4 :: a5 :: a6 :: a7 :: a8 :: a9 :: a10 :: a11 :: a12 :: a13 :: a14 :: a15 :: a16 :: some (.sc v) :: e) R = R (.sc v) (a0 :: a1 :: a2 :: a3 :: a4 :: a5 :: a6 :: a7 :: a8 :: a9 :: a10 :: a11 :: a12 :: a13 :: a14 :: a15 :: a16 :: some (.sc v) :: e) := by simp [wVal]
@[simp ↓] theorem q_var17 {a0 a1 a2 a3 a4 a5 a6 a7 a8 a9 a10 a11 a12 a13 a14 a15 a16 : Option D} {R : D → En → Prop} : wVar 17 (a0 :: a1 :: a2 :: a3 :: a4 :: a5 :: a6 :: a7 :: a8 :: a9 :: a10 :: a11 :: a12 :: a13 :: a14 :: a15 :: a16 :: some d :: e) R = R d.frz (a0 :: a1 :: a2 :: a3 :: a4 :: a5 :: a6 :: a7 :: a8 :: a9 :: a10 :: a11 :: a12 :: a13 :: a14 :: a15 :: a16 :: some d.frz :: e) := by simp [wVar]
@[simp ↓ high] theorem q_varL17 {a0 a1 a2 a3 a4 a5 a6 a7 a8 a9 a10 a11 a12 a13 a14 a15 a16 : Option D} {R : D → En → Prop} {w : Bool} : wVar 17 (a0 :: a1 :: a2 :: a3 :: a4 :: a5 :: a6 :: a7 :: a8 :: a9 :: a10 :: a11 :: a12 :: a13 :: a14 :: a15 :: a16 :: some (.obj w .lst xs) :: e) R = R (.obj false .lst (D.frzL xs)) (a0 :: a1 :: a2 :: a3 :: a4 :: a5 :: a6 :: a7 :: a8 :: a9 :: a10 :: a11 :: a12 :: a13 :: a14 :: a15 :: a16 :: some (.obj false .lst (D.frzL xs)) :: e) := by simp [wVar]
@[simp ↓] theorem q_move17 {a0 a1 a2 a3 a4 a5 a6 a7 a8 a9 a10 a11 a12 a13 a14 a15 a16 : Option D} {R : D → En → Prop} : wMove 17 (a0 :: a1 :: a2 :: a3 :: a4 :: a5 :: a6 :: a7 :: a8 :: a9 :: a10 :: a11 :: a12 :: a13 :: a14 :: a15 :: a16 :: some d :: e) R = R d (a0 :: a1 :: a2 :: a3 :: a4 :: a5 :: a6 :: a7 :: a8 :: a9 :: a10 :: a11 :: a12 :: a13 :: a14 :: a15 :: a16 :: none :: e) := by simp [wMove]
@[simp ↓] theorem q_bn17 {a0 a1 a2 a3 a4 a5 a6 a7 a8 a9 a10 a11 a12 a13 a14 a15 a16 : Option D} {R : D → Prop} : bName 17 (a0 :: a1 :: a2 :: a3 :: a4 :: a5 :: a6 :: a7 :: a8 :: a9 :: a10 :: a11 :: a12 :: a13 :: a14 :: a15 :: a16 :: some d :: e) R = R d := by simp [bName]
@[simp ↓] theorem q_mn17 {a0 a1 a2 a3 a4 a5 a6 a7 a8 a9 a10 a11 a12 a13 a14 a15 a16 : Option D} {R : Nat → D → (D → D) → Prop} : mName 17 (a0 :: a1 :: a2 :: a3 :: a4 :: a5 :: a6 :: a7 :: a8 :: a9 :: a10 :: a11 :: a12 :: a13 :: a14 :: a15 :: a16 :: some d :: e) R = R 17 d id := by simp [mName]
@[simp ↓] theorem q_gn17 {a0 a1 a2 a3 a4 a5 a6 a7 a8 a9 a10 a11 a12 a13 a14 a15 a16 : Option D} {R : En → Prop} : gNm 17 d (a0 :: a1 :: a2 :: a3 :: a4 :: a5 :: a6 :: a7 :: a8 :: a9 :: a10 :: a11 :: a12 :: a13 :: a14 :: a15 :: a16 :: o :: e) R = R (a0 :: a1 :: a2 :: a3 :: a4 :: a5 :: a6 :: a7 :: a8 :: a9 :: a10 :: a11 :: a12 :: a13 :: a14 :: a15 :: a16 :: some d :: e) := by simp [gNm]
@[simp ↓] theorem q_gf17 {a0 a1 a2 a3 a4 a5 a6 a7 a8 a9 a10 a11 a12 a13 a14 a15 a16 : Option D} {R : En → Prop} : gFz 17 d (a0 :: a1 :: a2 :: a3 :: a4 :: a5 :: a6 :: a7 :: a8 :: a9 :: a10 :: a11 :: a12 :: a13 :: a14 :: a15 :: a16 :: o :: e) R = R (a0 :: a1 :: a2 :: a3 :: a4 :: a5 :: a6 :: a7 :: a8 :: a9 :: a10 :: a11 :: a12 :: a13 :: a14 :: a15 :: a16 :: some d.frz :: e) := by simp [gFz]
@[simp ↓ high] theorem q_gfS17 {a0 a1 a2 a3 a4 a5 a6 a7 a8 a9 a10 a11 a12 a13 a14 a15 a16 : Option D} {R : En → Prop} : gFz 17 (.sc v) (a0 :: a1 :: a2 :: a3 :: a4 :: a5 :: a6 :: a7 :: a8 :: a9 :: a10 :: a11 :: a12 :: a13 :: a14 :: a15 :: a16 :: o :: e) R = R (a0 :: a1 :: a2 :: a3 :: a4 :: a5 :: a6 :: a7 :: a8 :: a9 :: a10 :: a11 :: a12 :: a13 :: a14 :: a15 :: a16 :: some (.sc v) :: e) := by simp [gFz]
@[simp ↓ high] theorem q_gfT17 {a0 a1 a2 a3 a4 a5 a6 a7 a8 a9 a10 a11 a12 a13 a14 a15 a16 : Option D} {R : En → Prop} : gFz 17 (.tup xs) (a0 :: a1 :: a2 :: a3 :: a4 :: a5 :: a6 :: a7 :: a8 :: a9 :: a10 :: a11 :: a12 :: a13 :: a14 :: a15 :: a16 :: o :: e) R = R (a0 :: a1 :: a2 :: a3 :: a4 :: a5 :: a6 :: a7 :: a8 :: a9 :: a10 :: a11 :: a12 :: a13 :: a14 :: a15 :: a16 :: some (.tup (D.frzL xs)) :: e) := by simp [gFz]
@[simp ↓ high] theorem q_gfL17 {a0 a1 a2 a3 a4 a5 a6 a7 a8 a9 a10 a11 a12 a13 a14 a15 a16 : Option D} {R : En → Prop} {w : Bool} : gFz 17 (.obj w .lst xs) (a0 :: a1 :: a2 :: a3 :: a4 :: a5 :: a6 :: a7 :: a8 :: a9 :: a10 :: a11 :: a12 :: a13 :: a14 :: a15 :: a16 :: o :: e) R = R (a0 :: a1 :: a2 :: a3 :: a4 :: a5 :: a6 :: a7 :: a8 :: a9 :: a10 :: a11 :: a12 :: a13 :: a14 :: a15 :: a16 :: some (.obj false .lst (D.frzL xs)) :: e) := by simp [gFz]
@[simp ↓] theorem q_ref17 {a0 a1 a2 a3 a4 a5 a6 a7 a8 a9 a10 a11 a12 a13 a14 a15 a16 : Option D} {wc : WC} {R : List AV → En → Prop} : cRef 17 wc (a0 :: a1 :: a2 :: a3 :: a4 :: a5 :: a6 :: a7 :: a8 :: a9 :: a10 :: a11 :: a12 :: a13 :: a14 :: a15 :: a16 :: some d :: e) R = wc (a0 :: a1 :: a2 :: a3 :: a4 :: a5 :: a6 :: a7 :: a8 :: a9 :: a10 :: a11 :: a12 :: a13 :: a14 :: a15 :: a16 :: some d :: e) fun is e2 => R (.ref 17 :: is) e2 := by simp [cRef]
@[simp ↓] theorem q_aug17 {a0 a1 a2 a3 a4 a5 a6 a7 a8 a9 a10 a11 a12 a13 a14 a15 a16 : Option D} {rd : RD2} {we : WE} {RD : EN} : sAug 17 rd we (a0 :: a1 :: a2 :: a3 :: a4 :: a5 :: a6 :: a7 :: a8 :: a9 :: a10 :: a11 :: a12 :: a13 :: a14 :: a15 :: a16 :: some (.sc v) :: e) RD = we (a0 :: a1 :: a2 :: a3 :: a4 :: a5 :: a6 :: a7 :: a8 :: a9 :: a10 :: a11 :: a12 :: a13 :: a14 :: a15 :: a16 :: some (.sc v) :: e) fun y e1 => rd (.sc v) y fun z => RD.nx (e1.set 17 (some z)) := by simp [sAug]
@[simp ↓] theorem q_ne17 {a0 a1 a2 a3 a4 a5 a6 a7 a8 a9 a10 a11 a12 a13 a14 a15 a16 : Option D} {rd : RD2} {wb : WE} {R : D → En → Prop} : wBinNE rd 17 wb (a0 :: a1 :: a2 :: a3 :: a4 :: a5 :: a6 :: a7 :: a8 :: a9 :: a10 :: a11 :: a12 :: a13 :: a14 :: a15 :: a16 :: some d :: e) R = wb (a0 :: a1 :: a2 :: a3 :: a4 :: a5 :: a6 :: a7 :: a8 :: a9 :: a10 :: a11 :: a12 :: a13 :: a14 :: a15 :: a16 :: some d :: e) fun y e2 => ∃ x, e2[17]? = some (some x) ∧ rd x y fun z => R z e2 := by simp [wBinNE]
@[simp ↓ high] theorem q_neC17 {a0 a1 a2 a3 a4 a5 a6 a7 a8 a9 a10 a11 a12 a13 a14 a15 a16 : Option D} {rd : RD2} {R : D → En → Prop} {c : D} : wBinNE rd 17 (wC c) (a0 :: a1 :: a2 :: a3 :: a4 :: a5 :: a6 :: a7 :: a8 :: a9 :: a10 :: a11 :: a12 :: a13 :: a14 :: a15 :: a16 :: some d :: e) R = rd d c fun z => R z (a0 :: a1 :: a2 :: a3 :: a4 :: a5 :: a6 :: a7 :: a8 :: a9 :: a10 :: a11 :: a12 :: a13 :: a14 :: a15 :: a16 :: some d :: e) := by simp [wBinNE, wC]
@[simp ↓ high] theorem q_neV17 {a0 a1 a2 a3 a4 a5 a6 a7 a8 a9 a10 a11 a12 a13 a14 a15 a16 : Option D} {rd : RD2} {R : D → En → Prop} {j : Nat} : wBinNE rd 17 (wVal j) (a0 :: a1 :: a2 :: a3 :: a4 :: a5 :: a6 :: a7 :: a8 :: a9 :: a10 :: a11 :: a12 :: a13 :: a14 :: a15 :: a16 :: some d :: e) R = wVal j (a0 :: a1 :: a2 :: a3 :: a4 :: a5 :: a6 :: a7 :: a8 :: a9 :: a10 :: a11 :: a12 :: a13 :: a14 :: a15 :: a16 :: some d :: e) fun y e2 => rd d y fun z => R z e2 := by
  apply propext; simp only [wBinNE, wVal]; constructor
  · rintro ⟨_, y, h1, h2, x, h3, h4⟩; simp at h3; subst h3; exact ⟨y, h1, h2, h4⟩
  · rintro ⟨y, h1, h2, h4⟩; exact ⟨⟨d, by simp⟩, y, h1, h2, d, by simp, h4⟩
@[simp ↓] theorem q_app17 {a0 a1 a2 a3 a4 a5 a6 a7 a8 a9 a10 a11 a12 a13 a14 a15 a16 : Option D} {kf : Bool} {we : WE} {R : D → En → Prop} : wAppN kf 17 we (a0 :: a1 :: a2 :: a3 :: a4 :: a5 :: a6 :: a7 :: a8 :: a9 :: a10 :: a11 :: a12 :: a13 :: a14 :: a15 :: a16 :: some (.obj true .lst xs) :: e) R = we (a0 :: a1 :: a2 :: a3 :: a4 :: a5 :: a6 :: a7 :: a8 :: a9 :: a10 :: a11 :: a12 :: a13 :: a14 :: a15 :: a16 :: some (.obj true .lst xs) :: e) fun y e1 => ownL (e1[17]?) fun xs => xs.length < sizeLine ∧ R .non (e1.set 17 (some (.lst true (xs ++ [inK kf y])))) := by simp [wAppN, ownL]
@[simp ↓] theorem q_popN17 {a0 a1 a2 a3 a4 a5 a6 a7 a8 a9 a10 a11 a12 a13 a14 a15 a16 : Option D} {wi : WE} {R : D → En → Prop} : wPopAtN 17 wi (a0 :: a1 :: a2 :: a3 :: a4 :: a5 :: a6 :: a7 :: a8 :: a9 :: a10 :: a11 :: a12 :: a13 :: a14 :: a15 :: a16 :: some (.obj true .lst xs) :: e) R = wi (a0 :: a1 :: a2 :: a3 :: a4 :: a5 :: a6 :: a7 :: a8 :: a9 :: a10 :: a11 :: a12 :: a13 :: a14 :: a15 :: a16 :: some (.obj true .lst xs) :: e) fun k e1 => asI k fun kk => ownL (e1[17]?) fun xs => -(2 ^ 63) ≤ kk ∧ kk < 2 ^ 63 ∧ ∃ j x, L2.ixN xs.length kk = some j ∧ xs[j]? = some x ∧ x.fz = true ∧ R x (e1.set 17 (some (.lst true (xs.eraseIdx j)))) := by simp [wPopAtN, ownL]
@[simp ↓] theorem q_ins17 {a0 a1 a2 a3 a4 a5 a6 a7 a8 a9 a10 a11 a12 a13 a14 a15 a16 : Option D} {wi we : WE} {R : D → En → Prop} : wInsN 17 wi we (a0 :: a1 :: a2 :: a3 :: a4 :: a5 :: a6 :: a7 :: a8 :: a9 :: a10 :: a11 :: a12 :: a13 :: a14 :: a15 :: a16 :: some (.obj true .lst xs) :: e) R = wi (a0 :: a1 :: a2 :: a3 :: a4 :: a5 :: a6 :: a7 :: a8 :: a9 :: a10 :: a11 :: a12 :: a13 :: a14 :: a15 :: a16 :: some (.obj true .lst xs) :: e) fun k e1 => asI k fun kk => we e1 fun y e2 => ownL (e2[17]?) fun xs => D.fzL xs = true ∧ xs.length < sizeLine ∧ 0 ≤ kk ∧ kk < 2 ^ 63 ∧ R .non (e2.set 17 (some (.lst true (xs.take kk.toNat ++ [y.frz] ++ xs.drop kk.toNat)))) := by simp [wInsN, ownL]
@[simp ↓] theorem q_augN17 {a0 a1 a2 a3 a4 a5 a6 a7 a8 a9 a10 a11 a12 a13 a14 a15 a16 : Option D} {rd : RD2} {wi we : WE} {RD : EN} : sAugNx rd 17 wi we (a0 :: a1 :: a2 :: a3 :: a4 :: a5 :: a6 :: a7 :: a8 :: a9 :: a10 :: a11 :: a12 :: a13 :: a14 :: a15 :: a16 :: some d :: e) RD = wi (a0 :: a1 :: a2 :: a3 :: a4 :: a5 :: a6 :: a7 :: a8 :: a9 :: a10 :: a11 :: a12 :: a13 :: a14 :: a15 :: a16 :: some d :: e) fun k e1 => asI k fun kk => ownL (e1[17]?) fun xs => ∃ j x, L2.ixN xs.length kk = some j ∧ xs[j]? = some x ∧ x.fz = true ∧ we e1 fun y e2 => ownL (e2[17]?) fun ys => ∃ j2, L2.ixN ys.length kk = some j2 ∧ rd x y fun z => RD.nx (e2.set 17 (some (.lst true (ys.set j2 z)))) := by simp [sAugNx]
@[simp ↓] theorem q_set17 {a0 a1 a2 a3 a4 a5 a6 a7 a8 a9 a10 a11 a12 a13 a14 a15 a16 : Option D} {q : Option D} : List.set (a0 :: a1 :: a2 :: a3 :: a4 :: a5 :: a6 :: a7 :: a8 :: a9 :: a10 :: a11 :: a12 :: a13 :: a14 :: a15 :: a16 :: o :: e) 17 q = (a0 :: a1 :: a2 :: a3 :: a4 :: a5 :: a6 :: a7 :: a8 :: a9 :: a10 :: a11 :: a12 :: a13 :: a14 :: a15 :: a16 :: q :: e) := by simp
@[simp ↓] theorem q_get17 {a0 a1 a2 a3 a4 a5 a6 a7 a8 a9 a10 a11 a12 a13 a14 a15 a16 : Option D} : ((a0 :: a1 :: a2 :: a3 :: a4 :: a5 :: a6 :: a7 :: a8 :: a9 :: a10 :: a11 :: a12 :: a13 :: a14 :: a15 :: a16 :: o :: e) : En)[17]? = some o := by simp
@[simp ↓] theorem q_val18 {a0 a1 a2 a3 a4 a5 a6 a7 a8 a9 a10 a11 a12 a13 a14 a15 a16 a17 : Option D} {R : D → En → Prop} : wVal 18 (a0 :: a1 :: a2 :: a3 :: a4 :: a5 :: a6 :: a7 :: a8 :: a9 :: a10 :: a11 :: a12 :: a13 :: a14 :: a15 :: a16 :: a17 :: some d :: e) R = (d.fz = true ∧ R d (a0 :: a1 :: a2 :: a3 :: a4 :: a5 :: a6 :: a7 :: a8 :: a9 :: a10 :: a11 :: a12 :: a13 :: a14 :: a15 :: a16 :: a17 :: some d :: e)) := by simp [wVal]
@[simp ↓ high] theorem q_valS18 {a0 a1 a2 a3 a4 a5 a6 a7 a8 a9 a10 a11 a12 a13 a14 a15 a16 a17 : Option D} {R : D → En → Prop} : wVal 18 (a0 :: a1 :: a2 :: a3 :: a4 :: a5 :: a6 :: a7 :: a8 :: a9 :: a10 :: a11 :: a12 :: a13 :: a14 :: a15 :: a16 :: a17 :: some (.sc v) :: e) R = R (.sc v) (a0 :: a1 :: a2 :: a3 :: a4 :: a5 :: a6 :: a7 :: a8 :: a9 :: a10 :: a11 :: a12 :: a13 :: a14 :: a15 :: a16 :: a17 :: some (.sc v) :: e) := by simp [wVal]
@[simp ↓] theorem q_var18 {a0 a1 a2 a3 a4 a5 a6 a7 a8 a9 a10 a11 a12 a13 a14 a15 a16 a17 : Option D} {R : D → En → Prop} : wVar 18 (a0 :: a1 :: a2 :: a3 :: a4 :: a5 :: a6 :: a7 :: a8 :: a9 :: a10 :: a11 :: a12 :: a13 :: a14 :: a15 :: a16 :: a17 :: some d :: e) R = R d.frz (a0 :: a1 :: a2 :: a3 :: a4 :: a5 :: a6 :: a7 :: a8 :: a9 :: a10 :: a11 :: a12 :: a13 :: a14 :: a15 :: a16 :: a17 :: some d.frz :: e) := by simp [wVar]
@[simp ↓ high] theorem q_varL18 {a0 a1 a2 a3 a4 a5 a6 a7 a8 a9 a10 a11 a12 a13 a14 a15 a16 a17 : Option D} {R : D → En → Prop} {w : Bool} : wVar 18 (a0 :: a1 :: a2 :: a3 :: a4 :: a5 :: a6 :: a7 :: a8 :: a9 :: a10 :: a11 :: a12 :: a13 :: a14 :: a15 :: a16 :: a17 :: some (.obj w .lst xs) :: e) R = R (.obj false .lst (D.frzL xs)) (a0 :: a1 :: a2 :: a3 :: a4 :: a5 :: a6 :: a7 :: a8 :: a9 :: a10 :: a11 :: a12 :: a13 :: a14 :: a15 :: a16 :: a17 :: some (.obj false .lst (D.frzL xs)) :: e) := by simp [wVar]
@[simp ↓] theorem q_move18 {a0 a1 a2 a3 a4 a5 a6 a7 a8 a9 a10 a11 a12 a13 a14 a15 a16 a17 : Option D} {R : D → En → Prop} : wMove 18 (a0 :: a1 :: a2 :: a3 :: a4 :: a5 :: a6 :: a7 :: a8 :: a9 :: a10 :: a11 :: a12 :: a13 :: a14 :: a15 :: a16 :: a17 :: some d :: e) R = R d (a0 :: a1 :: a2 :: a3 :: a4 :: a5 :: a6 :: a7 :: a8 :: a9 :: a10 :: a11 :: a12 :: a13 :: a14 :: a15 :: a16 :: a17 :: none :: e) := by simp [wMove]
@[simp ↓] theorem q_bn18 {a0 a1 a2 a3 a4 a5 a6 a7 a8 a9 a10 a11 a12 a13 a14 a15 a16 a17 : Option D} {R : D → Prop} : bName 18 (a0 :: a1 :: a2 :: a3 :: a4 :: a5 :: a6 :: a7 :: a8 :: a9 :: a10 :: a11 :: a12 :: a13 :: a14 :: a15 :: a16 :: a17 :: some d :: e) R = R d := by simp [bName]
@[simp ↓] theorem q_mn18 {a0 a1 a2 a3 a4 a5 a6 a7 a8 a9 a10 a11 a12 a13 a14 a15 a16 a17 : Option D} {R : Nat → D → (D → D) → Prop} : mName 18 (a0 :: a1 :: a2 :: a3 :: a4 :: a5 :: a6 :: a7 :: a8 :: a9 :: a10 :: a11 :: a12 :: a13 :: a14 :: a15 :: a16 :: a17 :: some d :: e) R = R 18 d id := by simp [mName]
@[simp ↓] theorem q_gn18 {a0 a1 a2 a3 a4 a5 a6 a7 a8 a9 a10 a11 a12 a13 a14 a15 a16 a17 : Option D} {R : En → Prop} : gNm 18 d (a0 :: a1 :: a2 :: a3 :: a4 :: a5 :: a6 :: a7 :: a8 :: a9 :: a10 :: a11 :: a12 :: a13 :: a14 :: a15 :: a16 :: a17 :: o :: e) R = R (a0 :: a1 :: a2 :: a3 :: a4 :: a5 :: a6 :: a7 :: a8 :: a9 :: a10 :: a11 :: a12 :: a13 :: a14 :: a15 :: a16 :: a17 :: some d :: e) := by simp [gNm]
@[simp ↓] theorem q_gf18 {a0 a1 a2 a3 a4 a5 a6 a7 a8 a9 a10 a11 a12 a13 a14 a15 a16 a17 : Option D} {R : En → Prop} : gFz 18 d (a0 :: a1 :: a2 :: a3 :: a4 :: a5 :: a6 :: a7 :: a8 :: a9 :: a10 :: a11 :: a12 :: a13 :: a14 :: a15 :: a16 :: a17 :: o :: e) R = R (a0 :: a1 :: a2 :: a3 :: a4 :: a5 :: a6 :: a7 :: a8 :: a9 :: a10 :: a11 :: a12 :: a13 :: a14 :: a15 :: a16 :: a17 :: some d.frz :: e) := by simp [gFz]
@[simp ↓ high] theorem q_gfS18 {a0 a1 a2 a3 a4 a5 a6 a7 a8 a9 a10 a11 a12 a13 a14 a15 a16 a17 : Option D} {R : En → Prop} : gFz 18 (.sc v) (a0 :: a1 :: a2 :: a3 :: a4 :: a5 :: a6 :: a7 :: a8 :: a9 :: a10 :: a11 :: a12 :: a13 :: a14 :: a15 :: a16 :: a17 :: o :: e) R = R (a0 :: a1 :: a2 :: a3 :: a4 :: a5 :: a6 :: a7 :: a8 :: a9 :: a10 :: a11 :: a12 :: a13 :: a14 :: a15 :: a16 :: a17 :: some (.sc v) :: e) := by simp [gFz]
@[simp ↓ high] theorem q_gfT18 {a0 a1 a2 a3 a4 a5 a6 a7 a8 a9 a10 a11 a12 a13 a14 a15 a16 a17 : Option D} {R : En → Prop} : gFz 18 (.tup xs) (a0 :: a1 :: a2 :: a3 :: a4 :: a5 :: a6 :: a7 :: a8 :: a9 :: a10 :: a11 :: a12 :: a13 :: a14 :: a15 :: a16 :: a17 :: o :: e) R = R (a0 :: a1 :: a2 :: a3 :: a4 :: a5 :: a6 :: a7 :: a8 :: a9 :: a10 :: a11 :: a12 :: a13 :: a14 :: a15 :: a16 :: a17 :: some (.tup (D.frzL xs)) :: e) := by simp [gFz]
@[simp ↓ high] theorem q_gfL18 {a0 a1 a2 a3 a4 a5 a6 a7 a8 a9 a10 a11 a12 a13 a14 a15 a16 a17 : Option D} {R : En → Prop} {w : Bool} : gFz 18 (.obj w .lst xs) (a0 :: a1 :: a2 :: a3 :: a4 :: a5 :: a6 :: a7 :: a8 :: a9 :: a10 :: a11 :: a12 :: a13 :: a14 :: a15 :: a16 :: a17 :: o :: e) R = R (a0 :: a1 :: a2 :: a3 :: a4 :: a5 :: a6 :: a7 :: a8 :: a9 :: a10 :: a11 :: a12 :: a13 :: a14 :: a15 :: a16 :: a17 :: some (.obj false .lst (D.frzL xs)) :: e) := by simp [gFz]
@[simp ↓] theorem q_ref18 {a0 a1 a2 a3 a4 a5 a6 a7 a8 a9 a10 a11 a12 a13 a14 a15 a16 a17 : Option D} {wc : WC} {R : List AV → En → Prop} : cRef 18 wc (a0 :: a1 :: a2 :: a3 :: a4 :: a5 :: a6 :: a7 :: a8 :: a9 :: a10 :: a11 :: a12 :: a13 :: a14 :: a15 :: a16 :: a17 :: some d :: e) R = wc (a0 :: a1 :: a2 :: a3 :: a4 :: a5 :: a6 :: a7 :: a8 :: a9 :: a10 :: a11 :: a12 :: a13 :: a14 :: a15 :: a16 :: a17 :: some d :: e) fun is e2 => R (.ref 18 :: is) e2 := by simp [cRef]
@[simp ↓] theorem q_aug18 {a0 a1 a2 a3 a4 a5 a6 a7 a8 a9 a10 a11 a12 a13 a14 a15 a16 a17 : Option D} {rd : RD2} {we : WE} {RD : EN} : sAug 18 rd we (a0 :: a1 :: a2 :: a3 :: a4 :: a5 :: a6 :: a7 :: a8 :: a9 :: a10 :: a11 :: a12 :: a13 :: a14 :: a15 :: a16 :: a17 :: some (.sc v) :: e) RD = we (a0 :: a1 :: a2 :: a3 :: a4 :: a5 :: a6 :: a7 :: a8 :: a9 :: a10 :: a11 :: a12 :: a13 :: a14 :: a15 :: a16 :: a17 :: some (.sc v) :: e) fun y e1 => rd (.sc v) y fun z => RD.nx (e1.set 18 (some z)) := by simp [sAug]
@[simp ↓] theorem q_ne18 {a0 a1 a2 a3 a4 a5 a6 a7 a8 a9 a10 a11 a12 a13 a14 a15 a16 a17 : Option D} {rd : RD2} {wb : WE} {R : D → En → Prop} : wBinNE rd 18 wb (a0 :: a1 :: a2 :: a3 :: a4 :: a5 :: a6 :: a7 :: a8 :: a9 :: a10 :: a11 :: a12 :: a13 :: a14 :: a15 :: a16 :: a17 :: some d :: e) R = wb (a0 :: a1 :: a2 :: a3 :: a4 :: a5 :: a6 :: a7 :: a8 :: a9 :: a10 :: a11 :: a12 :: a13 :: a14 :: a15 :: a16 :: a17 :: some d :: e) fun y e2 => ∃ x, e2[18]? = some (some x) ∧ rd x y fun z => R z e2 := by simp [wBinNE]
@[simp ↓ high] theorem q_neC18 {a0 a1 a2 a3 a4 a5 a6 a7 a8 a9 a10 a11 a12 a13 a14 a15 a16 a17 : Option D} {rd : RD2} {R : D → En → Prop} {c : D} : wBinNE rd 18 (wC c) (a0 :: a1 :: a2 :: a3 :: a4 :: a5 :: a6 :: a7 :: a8 :: a9 :: a10 :: a11 :: a12 :: a13 :: a14 :: a15 :: a16 :: a17 :: some d :: e) R = rd d c fun z => R z (a0 :: a1 :: a2 :: a3 :: a4 :: a5 :: a6 :: a7 :: a8 :: a9 :: a10 :: a11 :: a12 :: a13 :: a14 :: a15 :: a16 :: a17 :: some d :: e) := by simp [wBinNE, wC]
@[simp ↓ high] theorem q_neV18 {a0 a1 a2 a3 a4 a5 a6 a7 a8 a9 a10 a11 a12 a13 a14 a15 a16 a17 : Option D} {rd : RD2} {R : D → En → Prop} {j : Nat} : wBinNE rd 18 (wVal j) (a0 :: a1 :: a2 :: a3 :: a4 :: a5 :: a6 :: a7 :: a8 :: a9 :: a10 :: a11 :: a12 :: a13 :: a14 :: a15 :: a16 :: a17 :: some d :: e) R = wVal j (a0 :: a1 :: a2 :: a3 :: a4 :: a5 :: a6 :: a7 :: a8 :: a9 :: a10 :: a11 :: a12 :: a13 :: a14 :: a15 :: a16 :: a17 :: some d :: e) fun y e2 => rd d y fun z => R z e2 := by
  apply propext; simp only [wBinNE, wVal]; constructor
  · rintro ⟨_, y, h1, h2, x, h3, h4⟩; simp at h3; subst h3; exact ⟨y, h1, h2, h4⟩
  · rintro ⟨y, h1, h2, h4⟩; exact ⟨⟨d, by simp⟩, y, h1, h2, d, by simp, h4⟩
@[simp ↓] theorem q_app18 {a0 a1 a2 a3 a4 a5 a6 a7 a8 a9 a10 a11 a12 a13 a14 a15 a16 a17 : Option D} {kf : Bool} {we : WE} {R : D → En → Prop} : wAppN kf 18 we (a0 :: a1 :: a2 :: a3 :: a4 :: a5 :: a6 :: a7 :: a8 :: a9 :: a10 :: a11 :: a12 :: a13 :: a14 :: a15 :: a16 :: a17 :: some (.obj true .lst xs) :: e) R = we (a0 :: a1 :: a2 :: a3 :: a4 :: a5 :: a6 :: a7 :: a8 :: a9 :: a10 :: a11 :: a12 :: a13 :: a14 :: a15 :: a16 :: a17 :: some (.obj true .lst xs) :: e) fun y e1 => ownL (e1[18]?) fun xs => xs.length < sizeLine ∧ R .non (e1.set 18 (some (.lst true (xs ++ [inK kf y])))) := by simp [wAppN, ownL]
@[simp ↓] theorem q_popN18 {a0 a1 a2 a3 a4 a5 a6 a7 a8 a9 a10 a11 a12 a13 a14 a15 a16 a17 : Option D} {wi : WE} {R : D → En → Prop} : wPopAtN 18 wi (a0 :: a1 :: a2 :: a3 :: a4 :: a5 :: a6 :: a7 :: a8 :: a9 :: a10 :: a11 :: a12 :: a13 :: a14 :: a15 :: a16 :: a17 :: some (.obj true .lst xs) :: e) R = wi (a0 :: a1 :: a2 :: a3 :: a4 :: a5 :: a6 :: a7 :: a8 :: a9 :: a10 :: a11 :: a12 :: a13 :: a14 :: a15 :: a16 :: a17 :: some (.obj true .lst xs) :: e) fun k e1 => asI k fun kk => ownL (e1[18]?) fun xs => -(2 ^ 63) ≤ kk ∧ kk < 2 ^ 63 ∧ ∃ j x, L2.ixN xs.length kk = some j ∧ xs[j]? = some x ∧ x.fz = true ∧ R x (e1.set 18 (some (.lst true (xs.eraseIdx j)))) := by simp [wPopAtN, ownL]
@[simp ↓] theorem q_ins18 {a0 a1 a2 a3 a4 a5 a6 a7 a8 a9 a10 a11 a12 a13 a14 a15 a16 a17 : Option D} {wi we : WE} {R : D → En → Prop} : wInsN 18 wi we (a0 :: a1 :: a2 :: a3 :: a4 :: a5 :: a6 :: a7 :: a8 :: a9 :: a10 :: a11 :: a12 :: a13 :: a14 :: a15 :: a16 :: a17 :: some (.obj true .lst xs) :: e) R = wi (a0 :: a1 :: a2 :: a3 :: a4 :: a5 :: a6 :: a7 :: a8 :: a9 :: a10 :: a11 :: a12 :: a13 :: a14 :: a15 :: a16 :: a17 :: some (.obj true .lst xs) :: e) fun k e1 => asI k fun kk => we e1 fun y e2 => ownL (e2[18]?) fun xs => D.fzL xs = true ∧ xs.length < sizeLine ∧ 0 ≤ kk ∧ kk < 2 ^ 63 ∧ R .non (e2.set 18 (some (.lst true (xs.take kk.toNat ++ [y.frz] ++ xs.drop kk.toNat)))) := by simp [wInsN, ownL]
@[simp ↓] theorem q_augN18 {a0 a1 a2 a3 a4 a5 a6 a7 a8 a9 a10 a11 a12 a13 a14 a15 a16 a17 : Option D} {rd : RD2} {wi we : WE} {RD : EN} : sAugNx rd 18 wi we (a0 :: a1 :: a2 :: a3 :: a4 :: a5 :: a6 :: a7 :: a8 :: a9 :: a10 :: a11 :: a12 :: a13 :: a14 :: a15 :: a16 :: a17 :: some d :: e) RD = wi (a0 :: a1 :: a2 :: a3 :: a4 :: a5 :: a6 :: a7 :: a8 :: a9 :: a10 :: a11 :: a12 :: a13 :: a14 :: a15 :: a16 :: a17 :: some d :: e) fun k e1 => asI k fun kk => ownL (e1[18]?) fun xs => ∃ j x, L2.ixN xs.length kk = some j ∧ xs[j]? = some x ∧ x.fz = true ∧ we e1 fun y e2 => ownL (e2[18]?) fun ys => ∃ j2, L2.ixN ys.length kk = some j2 ∧ rd x y fun z => RD.nx (e2.set 18 (some (.lst true (ys.set j2 z)))) := by simp [sAugNx]
@[simp ↓] theorem q_set18 {a0 a1 a2 a3 a4 a5 a6 a7 a8 a9 a10 a11 a12 a13 a14 a15 a16 a17 : Option D} {q : Option D} : List.set (a0 :: a1 :: a2 :: a3 :: a4 :: a5 :: a6 :: a7 :: a8 :: a9 :: a10 :: a11 :: a12 :: a13 :: a14 :: a15 :: a16 :: a17 :: o :: e) 18 q = (a0 :: a1 :: a2 :: a3 :: a4 :: a5 :: a6 :: a7 :: a8 :: a9 :: a10 :: a11 :: a12 :: a13 :: a14 :: a15 :: a16 :: a17 :: q :: e) := by simp
@[simp ↓] theorem q_get18 {a0 a1 a2 a3 a4 a5 a6 a7 a8 a9 a10 a11 a12 a13 a14 a15 a16 a17 : Option D} : ((a0 :: a1 :: a2 :: a3 :: a4 :: a5 :: a6 :: a7 :: a8 :: a9 :: a10 :: a11 :: a12 :: a13 :: a14 :: a15 :: a16 :: a17 :: o :: e) : En)[18]? = some o := by simp
@[simp ↓] theorem q_val19 {a0 a1 a2 a3 a4 a5 a6 a7 a8 a9 a10 a11 a12 a13 a14 a15 a16 a17 a18 : Option D} {R : D → En → Prop} : wVal 19 (a0 :: a1 :: a2 :: a3 :: a4 :: a5 :: a6 :: a7 :: a8 :: a9 :: a10 :: a11 :: a12 :: a13 :: a14 :: a15 :: a16 :: a17 :: a18 :: some d :: e) R = (d.fz = true ∧ R d (a0 :: a1 :: a2 :: a3 :: a4 :: a5 :: a6 :: a7 :: a8 :: a9 :: a10 :: a11 :: a12 :: a13 :: a14 :: a15 :: a16 :: a17 :: a18 :: some d :: e)) := by simp [wVal]
@[simp ↓ high] theorem q_valS19 {a0 a1 a2 a3 a4 a5 a6 a7 a8 a9 a10 a11 a12 a13 a14 a15 a16 a17 a18 : Option D} {R : D → En → Prop} : wVal 19 (a0 :: a1 :: a2 :: a3 :: a4 :: a5 :: a6 :: a7 :: a8 :: a9 :: a10 :: a11 :: a12 :: a13 :: a14 :: a15 :: a16 :: a17 :: a18 :: some (.sc v) :: e) R = R (.sc v) (a0 :: a1 :: a2 :: a3 :: a4 :: a5 :: a6 :: a7 :: a8 :: a9 :: a10 :: a11 :: a12 :: a13 :: a14 :: a15 :: a16 :: a17 :: a18 :: some (.sc v) :: e) := by simp [wVal]
@[simp ↓] theorem q_var19 {a0 a1 a2 a3 a4 a5 a6 a7 a8 a9 a10 a11 a12 a13 a14 a15 a16 a17 a18 : Option D} {R : D → En → Prop} : wVar 19 (a0 :: a1 :: a2 :: a3 :: a4 :: a5 :: a6 :: a7 :: a8 :: a9 :: a10 :: a11 :: a12 :: a13 :: a14 :: a15 :: a16 :: a17 :: a18 :: some d :: e) R = R d.frz (a0 :: a1 :: a2 :: a3 :: a4 :: a5 :: a6 :: a7 :: a8 :: a9 :: a10 :: a11 :: a12 :: a13 :: a14 :: a15 :: a16 :: a17 :: a18 :: some d.frz :: e) := by simp [wVar]
@[simp ↓ high] theorem q_varL19 {a0 a1 a2 a3 a4 a5 a6 a7 a8 a9 a10 a11 a12 a13 a14 a15 a16 a17 a18 : Option D} {R : D → En → Prop} {w : Bool} : wVar 19 (a0 :: a1 :: a2 :: a3 :: a4 :: a5 :: a6 :: a7 :: a8 :: a9 :: a10 :: a11 :: a12 :: a13 :: a14 :: a15 :: a16 :: a17 :: a18 :: some (.obj w .lst xs) :: e) R = R (.obj false .lst (D.frzL xs)) (a0 :: a1 :: a2 :: a3 :: a4 :: a5 :: a6 :: a7 :: a8 :: a9 :: a10 :: a11 :: a12 :: a13 :: a14 :: a15 :: a16 :: a17 :: a18 :: some (.obj false .lst (D.frzL xs)) :: e) := by simp [wVar]
@[simp ↓] theorem q_move19 {a0 a1 a2 a3 a4 a5 a6 a7 a8 a9 a10 a11 a12 a13 a14 a15 a16 a17 a18 : Option D} {R : D → En → Prop} : wMove 19 (a0 :: a1 :: a2 :: a3 :: a4 :: a5 :: a6 :: a7 :: a8 :: a9 :: a10 :: a11 :: a12 :: a13 :: a14 :: a15 :: a16 :: a17 :: a18 :: some d :: e) R = R d (a0 :: a1 :: a2 :: a3 :: a4 :: a5 :: a6 :: a7 :: a8 :: a9 :: a10 :: a11 :: a12 :: a13 :: a14 :: a15 :: a16 :: a17 :: a18 :: none :: e) := by simp [wMove]
@[simp ↓] theorem q_bn19 {a0 a1 a2 a3 a4 a5 a6 a7 a8 a9 a10 a11 a12 a13 a14 a15 a16 a17 a18 : Option D} {R : D → Prop} : bName 19 (a0 :: a1 :: a2 :: a3 :: a4 :: a5 :: a6 :: a7 :: a8 :: a9 :: a10 :: a11 :: a12 :: a13 :: a14 :: a15 :: a16 :: a17 :: a18 :: some d :: e) R = R d := by simp [bName]
@[simp ↓] theorem q_mn19 {a0 a1 a2 a3 a4 a5 a6 a7 a8 a9 a10 a11 a12 a13 a14 a15 a16 a17 a18 : Option D} {R : Nat → D → (D → D) → Prop} : mName 19 (a0 :: a1 :: a2 :: a3 :: a4 :: a5 :: a6 :: a7 :: a8 :: a9 :: a10 :: a11 :: a12 :: a13 :: a14 :: a15 :: a16 :: a17 :: a18 :: some d :: e) R = R 19 d id := by simp [mName]
@[simp ↓] theorem q_gn19 {a0 a1 a2 a3 a4 a5 a6 a7 a8 a9 a10 a11 a12 a13 a14 a15 a16 a17 a18 : Option D} {R : En → Prop} : gNm 19 d (a0 :: a1 :: a2 :: a3 :: a4 :: a5 :: a6 :: a7 :: a8 :: a9 :: a10 :: a11 :: a12 :: a13 :: a14 :: a15 :: a16 :: a17 :: a18 :: o :: e) R = R (a0 :: a1 :: a2 :: a3 :: a4 :: a5 :: a6 :: a7 :: a8 :: a9 :: a10 :: a11 :: a12 :: a13 :: a14 :: a15 :: a16 :: a17 :: a18 :: some d :: e) := by simp [gNm]
@[simp ↓] theorem q_gf19 {a0 a1 a2 a3 a4 a5 a6 a7 a8 a9 a10 a11 a12 a13 a14 a15 a16 a17 a18 : Option D} {R : En → Prop} : gFz 19 d (a0 :: a1 :: a2 :: a3 :: a4 :: a5 :: a6 :: a7 :: a8 :: a9 :: a10 :: a11 :: a12 :: a13 :: a14 :: a15 :: a16 :: a17 :: a18 :: o :: e) R = R (a0 :: a1 :: a2 :: a3 :: a4 :: a5 :: a6 :: a7 :: a8 :: a9 :: a10 :: a11 :: a12 :: a13 :: a14 :: a15 :: a16 :: a17 :: a18 :: some d.frz :: e) := by simp [gFz]
@[simp ↓ high] theorem q_gfS19 {a0 a1 a2 a3 a4 a5 a6 a7 a8 a9 a10 a11 a12 a13 a14 a15 a16 a17 a18 : Option D} {R : En → Prop} : gFz 19 (.sc v) (a0 :: a1 :: a2 :: a3 :: a4 :: a5 :: a6 :: a7 :: a8 :: a9 :: a10 :: a11 :: a12 :: a13 :: a14 :: a15 :: a16 :: a17 :: a18 :: o :: e) R = R (a0 :: a1 :: a2 :: a3 :: a4 :: a5 :: a6 :: a7 :: a8 :: a9 :: a10 :: a11 :: a12 :: a13 :: a14 :: a15 :: a16 :: a17 :: a18 :: some (.sc v) :: e) := by simp [gFz]
@[simp ↓ high] theorem q_gfT19 {a0 a1 a2 a3 a4 a5 a6 a7 a8 a9 a10 a11 a12 a13 a14 a15 a16 a17 a18 : Option D} {R : En → Prop} : gFz 19 (.tup xs) (a0 :: a1 :: a2 :: a3 :: a4 :: a5 :: a6 :: a7 :: a8 :: a9 :: a10 :: a11 :: a12 :: a13 :: a14 :: a15 :: a16 :: a17 :: a18 :: o :: e) R = R (a0 :: a1 :: a2 :: a3 :: a4 :: a5 :: a6 :: a7 :: a8 :: a9 :: a10 :: a11 :: a12 :: a13 :: a14 :: a15 :: a16 :: a17 :: a18 :: some (.tup (D.frzL xs)) :: e) := by simp [gFz]
@[simp ↓ high] theorem q_gfL19 {a0 a1 a2 a3 a4 a5 a6 a7 a8 a9 a10 a11 a12 a13 a14 a15 a16 a17 a18 : Option D} {R : En → Prop} {w : Bool} : gFz 19 (.obj w .lst xs) (a0 :: a1 :: a2 :: a3 :: a4 :: a5 :: a6 :: a7 :: a8 :: a9 :: a10 :: a11 :: a12 :: a13 :: a14 :: a15 :: a16 :: a17 :: a18 :: o :: e) R = R (a0 :: a1 :: a2 :: a3 :: a4 :: a5 :: a6 :: a7 :: a8 :: a9 :: a10 :: a11 :: a12 :: a13 :: a14 :: a15 :: a16 :: a17 :: a18 :: some (.obj false .lst (D.frzL xs)) :: e) := by simp [gFz]
@[simp ↓] theorem q_ref19 {a0 a1 a2 a3 a4 a5 a6 a7 a8 a9 a10 a11 a12 a13 a14 a15 a16 a17 a18 : Option D} {wc : WC} {R : List AV → En → Prop} : cRef 19 wc (a0 :: a1 :: a2 :: a3 :: a4 :: a5 :: a6 :: a7 :: a8 :: a9 :: a10 :: a11 :: a12 :: a13 :: a14 :: a15 :: a16 :: a17 :: a18 :: some d :: e) R = wc (a0 :: a1 :: a2 :: a3 :: a4 :: a5 :: a6 :: a7 :: a8 :: a9 :: a10 :: a11 :: a12 :: a13 :: a14 :: a15 :: a16 :: a17 :: a18 :: some d :: e) fun is e2 => R (.ref 19 :: is) e2 := by simp [cRef]
@[simp ↓] theorem q_aug19 {a0 a1 a2 a3 a4 a5 a6 a7 a8 a9 a10 a11 a12 a13 a14 a15 a16 a17 a18 : Option D} {rd : RD2} {we : WE} {RD : EN} : sAug 19 rd we (a0 :: a1 :: a2 :: a3 :: a4 :: a5 :: a6 :: a7 :: a8 :: a9 :: a10 :: a11 :: a12 :: a13 :: a14 :: a15 :: a16 :: a17 :: a18 :: some (.sc v) :: e) RD = we (a0 :: a1 :: a2 :: a3 :: a4 :: a5 :: a6 :: a7 :: a8 :: a9 :: a10 :: a11 :: a12 :: a13 :: a14 :: a15 :: a16 :: a17 :: a18 :: some (.sc v) :: e) fun y e1 => rd (.sc v) y fun z => RD.nx (e1.set 19 (some z)) := by simp [sAug]
@[simp ↓] theorem q_ne19 {a0 a1 a2 a3 a4 a5 a6 a7 a8 a9 a10 a11 a12 a13 a14 a15 a16 a17 a18 : Option D} {rd : RD2} {wb : WE} {R : D → En → Prop} : wBinNE rd 19 wb (a0 :: a1 :: a2 :: a3 :: a4 :: a5 :: a6 :: a7 :: a8 :: a9 :: a10 :: a11 :: a12 :: a13 :: a14 :: a15 :: a16 :: a17 :: a18 :: some d :: e) R = wb (a0 :: a1 :: a2 :: a3 :: a4 :: a5 :: a6 :: a7 :: a8 :: a9 :: a10 :: a11 :: a12 :: a13 :: a14 :: a15 :: a16 :: a17 :: a18 :: some d :: e) fun y e2 => ∃ x, e2[19]? = some (some x) ∧ rd x y fun z => R z e2 := by simp [wBinNE]
@[simp ↓ high] theorem q_neC19 {a0 a1 a2 a3 a4 a5 a6 a7 a8 a9 a10 a11 a12 a13 a14 a15 a16 a17 a18 : Option D} {rd : RD2} {R : D → En → Prop} {c : D} : wBinNE rd 19 (wC c) (a0 :: a1 :: a2 :: a3 :: a4 :: a5 :: a6 :: a7 :: a8 :: a9 :: a10 :: a11 :: a12 :: a13 :: a14 :: a15 :: a16 :: a17 :: a18 :: some d :: e) R = rd d c fun z => R z (a0 :: a1 :: a2 :: a3 :: a4 :: a5 :: a6 :: a7 :: a8 :: a9 :: a10 :: a11 :: a12 :: a13 :: a14 :: a15 :: a16 :: a17 :: a18 :: some d :: e) := by simp [wBinNE, wC]
@[simp ↓ high] theorem q_neV19 {a0 a1 a2 a3 a4 a5 a6 a7 a8 a9 a10 a11 a12 a13 a14 a15 a16 a17 a18 : Option D} {rd : RD2} {R : D → En → Prop} {j : Nat} : wBinNE rd 19 (wVal j) (a0 :: a1 :: a2 :: a3 :: a4 :: a5 :: a6 :: a7 :: a8 :: a9 :: a10 :: a11 :: a12 :: a13 :: a14 :: a15 :: a16 :: a17 :: a18 :: some d :: e) R = wVal j (a0 :: a1 :: a2 :: a3 :: a4 :: a5 :: a6 :: a7 :: a8 :: a9 :: a10 :: a11 :: a12 :: a13 :: a14 :: a15 :: a16 :: a17 :: a18 :: some d :: e) fun y e2 => rd d y fun z => R z e2 := by
  apply propext; simp only [wBinNE, wVal]; constructor
  · rintro ⟨_, y, h1, h2, x, h3, h4⟩; simp at h3; subst h3; exact ⟨y, h1, h2, h4⟩
  · rintro ⟨y, h1, h2, h4⟩; exact ⟨⟨d, by simp⟩, y, h1, h2, d, by simp, h4⟩
@[simp ↓] theorem q_app19 {a0 a1 a2 a3 a4 a5 a6 a7 a8 a9 a10 a11 a12 a13 a14 a15 a16 a17 a18 : Option D} {kf : Bool} {we : WE} {R : D → En → Prop} : wAppN kf 19 we (a0 :: a1 :: a2 :: a3 :: a4 :: a5 :: a6 :: a7 :: a8 :: a9 :: a10 :: a11 :: a12 :: a13 :: a14 :: a15 :: a16 :: a17 :: a18 :: some (.obj true .lst xs) :: e) R = we (a0 :: a1 :: a2 :: a3 :: a4 :: a5 :: a6 :: a7 :: a8 :: a9 :: a10 :: a11 :: a12 :: a13 :: a14 :: a15 :: a16 :: a17 :: a18 :: some (.obj true .lst xs) :: e) fun y e1 => ownL (e1[19]?) fun xs => xs.length < sizeLine ∧ R .non (e1.set 19 (some (.lst true (xs ++ [inK kf y])))) := by simp [wAppN, ownL]
@[simp ↓] theorem q_popN19 {a0 a1 a2 a3 a4 a5 a6 a7 a8 a9 a10 a11 a12 a13 a14 a15 a16 a17 a18 : Option D} {wi : WE} {R : D → En → Prop} : wPopAtN 19 wi (a0 :: a1 :: a2 :: a3 :: a4 :: a5 :: a6 :: a7 :: a8 :: a9 :: a10 :: a11 :: a12 :: a13 :: a14 :: a15 :: a16 :: a17 :: a18 :: some (.obj true .lst xs) :: e) R = wi (a0 :: a1 :: a2 :: a3 :: a4 :: a5 :: a6 :: a7 :: a8 :: a9 :: a10 :: a11 :: a12 :: a13 :: a14 :: a15 :: a16 :: a17 :: a18 :: some (.obj true .lst xs) :: e) fun k e1 => asI k fun kk => ownL (e1[19]?) fun xs => -(2 ^ 63) ≤ kk ∧ kk < 2 ^ 63 ∧ ∃ j x, L2.ixN xs.length kk = some j ∧ xs[j]? = some x ∧ x.fz = true ∧ R x (e1.set 19 (some (.lst true (xs.eraseIdx j)))) := by simp [wPopAtN, ownL]
@[simp ↓] theorem q_ins19 {a0 a1 a2 a3 a4 a5 a6 a7 a8 a9 a10 a11 a12 a13 a14 a15 a16 a17 a18 : Option D} {wi we : WE} {R : D → En → Prop} : wInsN 19 wi we (a0 :: a1 :: a2 :: a3 :: a4 :: a5 :: a6 :: a7 :: a8 :: a9 :: a10 :: a11 :: a12 :: a13 :: a14 :: a15 :: a16 :: a17 :: a18 :: some (.obj true .lst xs) :: e) R = wi (a0 :: a1 :: a2 :: a3 :: a4 :: a5 :: a6 :: a7 :: a8 :: a9 :: a10 :: a11 :: a12 :: a13 :: a14 :: a15 :: a16 :: a17 :: a18 :: some (.obj true .lst xs) :: e) fun k e1 => asI k fun kk => we e1 fun y e2 => ownL (e2[19]?) fun xs => D.fzL xs = true ∧ xs.length < sizeLine ∧ 0 ≤ kk ∧ kk < 2 ^ 63 ∧ R .non (e2.set 19 (some (.lst true (xs.take kk.toNat ++ [y.frz] ++ xs.drop kk.toNat)))) := by simp [wInsN, ownL]
@[simp ↓] theorem q_augN19 {a0 a1 a2 a3 a4 a5 a6 a7 a8 a9 a10 a11 a12 a13 a14 a15 a16 a17 a18 : Option D} {rd : RD2} {wi we : WE} {RD : EN} : sAugNx rd 19 wi we (a0 :: a1 :: a2 :: a3 :: a4 :: a5 :: a6 :: a7 :: a8 :: a9 :: a10 :: a11 :: a12 :: a13 :: a14 :: a15 :: a16 :: a17 :: a18 :: some d :: e) RD = wi (a0 :: a1 :: a2 :: a3 :: a4 :: a5 :: a6 :: a7 :: a8 :: a9 :: a10 :: a11 :: a12 :: a13 :: a14 :: a15 :: a16 :: a17 :: a18 :: some d :: e) fun k e1 => asI k fun kk => ownL (e1[19]?) fun xs => ∃ j x, L2.ixN xs.length kk = some j ∧ xs[j]? = some x ∧ x.fz = true ∧ we e1 fun y e2 => ownL (e2[19]?) fun ys => ∃ j2, L2.ixN ys.length kk = some j2 ∧ rd x y fun z => RD.nx (e2.set 19 (some (.lst true (ys.set j2 z)))) := by simp [sAugNx]
@[simp ↓] theorem q_set19 {a0 a1 a2 a3 a4 a5 a6 a7 a8 a9 a10 a11 a12 a13 a14 a15 a16 a17 a18 : Option D} {q : Option D} : List.set (a0 :: a1 :: a2 :: a3 :: a4 :: a5 :: a6 :: a7 :: a8 :: a9 :: a10 :: a11 :: a12 :: a13 :: a14 :: a15 :: a16 :: a17 :: a18 :: o :: e) 19 q = (a0 :: a1 :: a2 :: a3 :: a4 :: a5 :: a6 :: a7 :: a8 :: a9 :: a10 :: a11 :: a12 :: a13 :: a14 :: a15 :: a16 :: a17 :: a18 :: q :: e) := by simp
@[simp ↓] theorem q_get19 {a0 a1 a2 a3 a4 a5 a6 a7 a8 a9 a10 a11 a12 a13 a14 a15 a16 a17 a18 : Option D} : ((a0 :: a1 :: a2 :: a3 :: a4 :: a5 :: a6 :: a7 :: a8 :: a9 :: a10 :: a11 :: a12 :: a13 :: a14 :: a15 :: a16 :: a17 :: a18 :: o :: e) : En)[19]? = some o := by simp
@[simp] theorem q_at0 {α : Type} { x : α} {l : List α} : L2.atI (x :: l) 0 = some x := atI_of (by decide) (by simp)
@[simp] theorem q_ix0 {n : Nat} : L2.ixN (n + 1) 0 = some 0 := ixN_of (i := 0) (by decide) (by omega)
@[simp] theorem q_at1 {α : Type} {a0 x : α} {l : List α} : L2.atI (a0 :: x :: l) 1 = some x := atI_of (by decide) (by simp)
@[simp] theorem q_ix1 {n : Nat} : L2.ixN (n + 2) 1 = some 1 := ixN_of (i := 1) (by decide) (by omega)
@[simp] theorem q_at2 {α : Type} {a0 a1 x : α} {l : List α} : L2.atI (a0 :: a1 :: x :: l) 2 = some x := atI_of (by decide) (by simp)
@[simp] theorem q_ix2 {n : Nat} : L2.ixN (n + 3) 2 = some 2 := ixN_of (i := 2) (by decide) (by omega)
@[simp] theorem q_at3 {α : Type} {a0 a1 a2 x : α} {l : List α} : L2.atI (a0 :: a1 :: a2 :: x :: l) 3 = some x := atI_of (by decide) (by simp)
@[simp] theorem q_ix3 {n : Nat} : L2.ixN (n + 4) 3 = some 3 := ixN_of (i := 3) (by decide) (by omega)
@[simp] theorem q_at4 {α : Type} {a0 a1 a2 a3 x : α} {l : List α} : L2.atI (a0 :: a1 :: a2 :: a3 :: x :: l) 4 = some x := atI_of (by decide) (by simp)
@[simp] theorem q_ix4 {n : Nat} : L2.ixN (n + 5) 4 = some 4 := ixN_of (i := 4) (by decide) (by omega)
@[simp] theorem q_at5 {α : Type} {a0 a1 a2 a3 a4 x : α} {l : List α} : L2.atI (a0 :: a1 :: a2 :: a3 :: a4 :: x :: l) 5 = some x := atI_of (by decide) (by simp)
@[simp] theorem q_ix5 {n : Nat} : L2.ixN (n + 6) 5 = some 5 := ixN_of (i := 5) (by decide) (by omega)
@[simp] theorem q_at6 {α : Type} {a0 a1 a2 a3 a4 a5 x : α} {l : List α} : L2.atI (a0 :: a1 :: a2 :: a3 :: a4 :: a5 :: x :: l) 6 = some x := atI_of (by decide) (by simp)
@[simp] theorem q_ix6 {n : Nat} : L2.ixN (n + 7) 6 = some 6 := ixN_of (i := 6) (by decide) (by omega)
@[simp] theorem q_at7 {α : Type} {a0 a1 a2 a3 a4 a5 a6 x : α} {l : List α} : L2.atI (a0 :: a1 :: a2 :: a3 :: a4 :: a5 :: a6 :: x :: l) 7 = some x := atI_of (by decide) (by simp)
@[simp] theorem q_ix7 {n : Nat} : L2.ixN (n + 8) 7 = some 7 := ixN_of (i := 7) (by decide) (by omega)
@[simp] theorem q_at8 {α : Type} {a0 a1 a2 a3 a4 a5 a6 a7 x : α} {l : List α} : L2.atI (a0 :: a1 :: a2 :: a3 :: a4 :: a5 :: a6 :: a7 :: x :: l) 8 = some x := atI_of (by decide) (by simp)
@[simp] theorem q_ix8 {n : Nat} : L2.ixN (n + 9) 8 = some 8 := ixN_of (i := 8) (by decide) (by omega)
@[simp] theorem q_sz0 : 0 ≤ sizeLine := by show _ ≤ 16777216; decide
@[simp] theorem q_szl0 : 0 < sizeLine := by show _ < 16777216; decide
@[simp] theorem q_sz1 : 1 ≤ sizeLine := by show _ ≤ 16777216; decide
@[simp] theorem q_szl1 : 1 < sizeLine := by show _ < 16777216; decide
@[simp] theorem q_sz2 : 2 ≤ sizeLine := by show _ ≤ 16777216; decide
@[simp] theorem q_szl2 : 2 < sizeLine := by show _ < 16777216; decide
@[simp] theorem q_sz3 : 3 ≤ sizeLine := by show _ ≤ 16777216; decide
@[simp] theorem q_szl3 : 3 < sizeLine := by show _ < 16777216; decide
@[simp] theorem q_sz4 : 4 ≤ sizeLine := by show _ ≤ 16777216; decide
@[simp] theorem q_szl4 : 4 < sizeLine := by show _ < 16777216; decide
@[simp] theorem q_sz5 : 5 ≤ sizeLine := by show _ ≤ 16777216; decide
@[simp] theorem q_szl5 : 5 < sizeLine := by show _ < 16777216; decide
@[simp] theorem q_sz6 : 6 ≤ sizeLine := by show _ ≤ 16777216; decide
@[simp] theorem q_szl6 : 6 < sizeLine := by show _ < 16777216; decide
@[simp] theorem q_sz7 : 7 ≤ sizeLine := by show _ ≤ 16777216; decide
@[simp] theorem q_szl7 : 7 < sizeLine := by show _ < 16777216; decide
@[simp] theorem q_sz8 : 8 ≤ sizeLine := by show _ ≤ 16777216; decide
@[simp] theorem q_szl8 : 8 < sizeLine := by show _ < 16777216; decide
@[simp] theorem q_sz9 : 9 ≤ sizeLine := by show _ ≤ 16777216; decide
@[simp] theorem q_szl9 : 9 < sizeLine := by show _ < 16777216; decide
@[simp ↓] theorem q_is0list {R : D → Prop} : rdIsi [.sc .non, .sc (.ty "list")] R = R (.sc (.bl false)) := by simp [rdIsi, tyS, isTy]
@[simp ↓] theorem q_is0tuple {R : D → Prop} : rdIsi [.sc .non, .sc (.ty "tuple")] R = R (.sc (.bl false)) := by simp [rdIsi, tyS, isTy]
@[simp ↓] theorem q_is0bool {R : D → Prop} : rdIsi [.sc .non, .sc (.ty "bool")] R = R (.sc (.bl false)) := by simp [rdIsi, tyS, isTy]
@[simp ↓] theorem q_is0str {R : D → Prop} : rdIsi [.sc .non, .sc (.ty "str")] R = R (.sc (.bl false)) := by simp [rdIsi, tyS, isTy]
@[simp ↓] theorem q_is0int {R : D → Prop} : rdIsi [.sc .non, .sc (.ty "int")] R = R (.sc (.bl false)) := by simp [rdIsi, tyS, isTy]
@[simp ↓] theorem q_isLT0 {R : D → Prop} : rdIsi [.sc .non, .tup [.sc (.ty "list"), .sc (.ty "tuple")]] R = R (.sc (.bl false)) := by simp [rdIsi, tyS, isTy]
@[simp ↓] theorem q_is1list {c : Bool} {R : D → Prop} : rdIsi [.sc (.bl c), .sc (.ty "list")] R = R (.sc (.bl false)) := by simp [rdIsi, tyS, isTy]
@[simp ↓] theorem q_is1tuple {c : Bool} {R : D → Prop} : rdIsi [.sc (.bl c), .sc (.ty "tuple")] R = R (.sc (.bl false)) := by simp [rdIsi, tyS, isTy]
@[simp ↓] theorem q_is1bool {c : Bool} {R : D → Prop} : rdIsi [.sc (.bl c), .sc (.ty "bool")] R = R (.sc (.bl true)) := by simp [rdIsi, tyS, isTy]
@[simp ↓] theorem q_is1str {c : Bool} {R : D → Prop} : rdIsi [.sc (.bl c), .sc (.ty "str")] R = R (.sc (.bl false)) := by simp [rdIsi, tyS, isTy]
@[simp ↓] theorem q_is1int {c : Bool} {R : D → Prop} : rdIsi [.sc (.bl c), .sc (.ty "int")] R = R (.sc (.bl true)) := by simp [rdIsi, tyS, isTy]
@[simp ↓] theorem q_isLT1 {c : Bool} {R : D → Prop} : rdIsi [.sc (.bl c), .tup [.sc (.ty "list"), .sc (.ty "tuple")]] R = R (.sc (.bl false)) := by simp [rdIsi, tyS, isTy]
@[simp ↓] theorem q_is2list {c : Int} {R : D → Prop} : rdIsi [.sc (.int c), .sc (.ty "list")] R = R (.sc (.bl false)) := by simp [rdIsi, tyS, isTy]
@[simp ↓] theorem q_is2tuple {c : Int} {R : D → Prop} : rdIsi [.sc (.int c), .sc (.ty "tuple")] R = R (.sc (.bl false)) := by simp [rdIsi, tyS, isTy]
@[simp ↓] theorem q_is2bool {c : Int} {R : D → Prop} : rdIsi [.sc (.int c), .sc (.ty "bool")] R = R (.sc (.bl false)) := by simp [rdIsi, tyS, isTy]
@[simp ↓] theorem q_is2str {c : Int} {R : D → Prop} : rdIsi [.sc (.int c), .sc (.ty "str")] R = R (.sc (.bl false)) := by simp [rdIsi, tyS, isTy]
@[simp ↓] theorem q_is2int {c : Int} {R : D → Prop} : rdIsi [.sc (.int c), .sc (.ty "int")] R = R (.sc (.bl true)) := by simp [rdIsi, tyS, isTy]
@[simp ↓] theorem q_isLT2 {c : Int} {R : D → Prop} : rdIsi [.sc (.int c), .tup [.sc (.ty "list"), .sc (.ty "tuple")]] R = R (.sc (.bl false)) := by simp [rdIsi, tyS, isTy]
@[simp ↓] theorem q_is3list {c : Str} {R : D → Prop} : rdIsi [.sc (.str c), .sc (.ty "list")] R = R (.sc (.bl false)) := by simp [rdIsi, tyS, isTy]
@[simp ↓] theorem q_is3tuple {c : Str} {R : D → Prop} : rdIsi [.sc (.str c), .sc (.ty "tuple")] R = R (.sc (.bl false)) := by simp [rdIsi, tyS, isTy]
@[simp ↓] theorem q_is3bool {c : Str} {R : D → Prop} : rdIsi [.sc (.str c), .sc (.ty "bool")] R = R (.sc (.bl false)) := by simp [rdIsi, tyS, isTy]
@[simp ↓] theorem q_is3str {c : Str} {R : D → Prop} : rdIsi [.sc (.str c), .sc (.ty "str")] R = R (.sc (.bl true)) := by simp [rdIsi, tyS, isTy]
@[simp ↓] theorem q_is3int {c : Str} {R : D → Prop} : rdIsi [.sc (.str c), .sc (.ty "int")] R = R (.sc (.bl false)) := by simp [rdIsi, tyS, isTy]
@[simp ↓] theorem q_isLT3 {c : Str} {R : D → Prop} : rdIsi [.sc (.str c), .tup [.sc (.ty "list"), .sc (.ty "tuple")]] R = R (.sc (.bl false)) := by simp [rdIsi, tyS, isTy]
@[simp ↓] theorem q_is4list {R : D → Prop} : rdIsi [.tup xs, .sc (.ty "list")] R = R (.sc (.bl false)) := by simp [rdIsi, tyS, isTy]
@[simp ↓] theorem q_is4tuple {R : D → Prop} : rdIsi [.tup xs, .sc (.ty "tuple")] R = R (.sc (.bl true)) := by simp [rdIsi, tyS, isTy]
@[simp ↓] theorem q_is4bool {R : D → Prop} : rdIsi [.tup xs, .sc (.ty "bool")] R = R (.sc (.bl false)) := by simp [rdIsi, tyS, isTy]
@[simp ↓] theorem q_is4str {R : D → Prop} : rdIsi [.tup xs, .sc (.ty "str")] R = R (.sc (.bl false)) := by simp [rdIsi, tyS, isTy]
@[simp ↓] theorem q_is4int {R : D → Prop} : rdIsi [.tup xs, .sc (.ty "int")] R = R (.sc (.bl false)) := by simp [rdIsi, tyS, isTy]
@[simp ↓] theorem q_isLT4 {R : D → Prop} : rdIsi [.tup xs, .tup [.sc (.ty "list"), .sc (.ty "tuple")]] R = R (.sc (.bl true)) := by simp [rdIsi, tyS, isTy]
@[simp ↓] theorem q_is5list {c : Bool} {R : D → Prop} : rdIsi [.obj c .lst xs, .sc (.ty "list")] R = R (.sc (.bl true)) := by simp [rdIsi, tyS, isTy]
@[simp ↓] theorem q_is5tuple {c : Bool} {R : D → Prop} : rdIsi [.obj c .lst xs, .sc (.ty "tuple")] R = R (.sc (.bl false)) := by simp [rdIsi, tyS, isTy]
@[simp ↓] theorem q_is5bool {c : Bool} {R : D → Prop} : rdIsi [.obj c .lst xs, .sc (.ty "bool")] R = R (.sc (.bl false)) := by simp [rdIsi, tyS, isTy]
@[simp ↓] theorem q_is5str {c : Bool} {R : D → Prop} : rdIsi [.obj c .lst xs, .sc (.ty "str")] R = R (.sc (.bl false)) := by simp [rdIsi, tyS, isTy]
@[simp ↓] theorem q_is5int {c : Bool} {R : D → Prop} : rdIsi [.obj c .lst xs, .sc (.ty "int")] R = R (.sc (.bl false)) := by simp [rdIsi, tyS, isTy]
@[simp ↓] theorem q_isLT5 {c : Bool} {R : D → Prop} : rdIsi [.obj c .lst xs, .tup [.sc (.ty "list"), .sc (.ty "tuple")]] R = R (.sc (.bl true)) := by simp [rdIsi, tyS, isTy]
@[simp] theorem q_atN {α : Type} {x y : α} : L2.atI [x, y] (-1) = some y := rfl
end
end PL

/-! MA: the bag of laws k01 .. k05, k81 .. k86: what it holds, and that a draw is below its bound. -/
namespace BAGA
open PySem L2 PL
def wb_law_bag : WS :=
  (sSeq (sAsg (wC (.int 29)) (gFz 1))
    (sSeq (sFor (iSeq (wSl (wVal 0) oNo (oSo (wC (.int 60))))) (gFz 2) (sAsg (wBin rdMod (wBin rdAdd (wBin rdAdd (wBin rdMul (wVal 1) (wC (.int 69621))) (wBin rdMod (wVal 2) (wC (.int 2305843009213693921)))) (wC (.int 1))) (wBin rdSub (wBin rdPow (wC (.int 2)) (wC (.int 61))) (wC (.int 1)))) (gFz 1)))
    (sRet (wLstK (aCons (wComp false (iSeq (wSl (wVal 0) oNo (oSo (wC (.int 60))))) [2] (gNm 2) wYes (wBin rdMod (wCB rdAbs (aCons (wVal 2) aNil)) (wBin rdPow (wBin rdPow (wC (.int 10)) (wC (.int 60))) (wC (.int 10))))) (aCons (wC (.int 0)) (aCons (wVal 1) (aCons (wC (.int 0)) aNil))))))))
def F_law_bag : WF := fnW [true] 2 wb_law_bag
def wb_law_draw : WS :=
  (sSeq (sWhile (wAnd (wTst (wBinBE rdLt (bIx (bName 0) (wC (.int 1))) (wCBB rdLen (bCons (bIx (bName 0) (wC (.int 0))) bNil)))) (wTst (wBinBE rdEq (bIx (bIx (bName 0) (wC (.int 0))) (wBinNE rdIx 0 (wC (.int 1)))) (wC (.int 0))))) (sSetIx false (wBinBE rdAdd (bIx (bName 0) (wC (.int 1))) (wC (.int 1))) (mName 0) (wC (.int 1))))
    (sSeq (sIf (wTst (wBinBE rdLt (bIx (bName 0) (wC (.int 1))) (wCBB rdLen (bCons (bIx (bName 0) (wC (.int 0))) bNil)))) (sSeq (sAsg (wBinBB rdIx (bIx (bName 0) (wC (.int 0))) (bIx (bName 0) (wC (.int 1)))) (gFz 2))
    (sSeq (sSetIx false (wBin rdFdiv (wVal 2) (wVal 1)) (mIx (mName 0) (wC (.int 0))) (wBinNE rdIx 0 (wC (.int 1))))
    (sRet (wBin rdMod (wVal 2) (wVal 1))))) sNext)
    (sSeq (sSetIx false (wBinBE rdAdd (bIx (bName 0) (wC (.int 3))) (wC (.int 1))) (mName 0) (wC (.int 3)))
    (sSeq (sSetIx false (wBin rdMod (wBin rdAdd (wBin rdAdd (wBin rdAdd (wBinBE rdPow (bIx (bName 0) (wC (.int 2))) (wC (.int 3))) (wBinEB rdMul (wC (.int 48271)) (bIx (bName 0) (wC (.int 2))))) (wBinEB rdMul (wC (.int 2039)) (bIx (bName 0) (wC (.int 3))))) (wC (.int 7))) (wBin rdSub (wBin rdPow (wC (.int 2)) (wC (.int 61))) (wC (.int 1)))) (mName 0) (wC (.int 2)))
    (sRet (wBin rdMod (wBinBE rdFdiv (bIx (bName 0) (wC (.int 2))) (wC (.int 1024))) (wVal 1)))))))
def F_law_draw : WF := fnW [true, true] 1 wb_law_draw
/-- a bag -/
def bagD (cs : List Int) (a s n : Int) : D := .lst true [.lst true (dI cs), .int a, .int s, .int n]
structure BagI (cs : List Int) (a s n : Int) : Prop where
  hc : ∀ c ∈ cs, 0 ≤ c
  ha : 0 ≤ a
  hs : 0 ≤ s
  hs2 : s < 2 ^ 61
  hn : 0 ≤ n
def Bag (d : D) : Prop := ∃ cs a s n, d = bagD cs a s n ∧ BagI cs a s n
theorem draw_ok {b : D} {many : Int} {R : D → En → Prop} (h : Bag b) (hm : 0 < many) (hm2 : many < 2 ^ 80)
    (k : ∀ v b', Bag b' → 0 ≤ v → v < many → R (.int v) [some b', some (.int many)]) : F_law_draw [b, .int many] R := by
  obtain ⟨cs, a, s, n, rfl, hb⟩ := h
  refine ⟨rfl, ?_⟩
  show wb_law_draw [some (bagD cs a s n), some (.int many), none] _
  unfold wb_law_draw
  rw [e_sSeq]
  refine sWhile_of (fun m env => ∃ a, 0 ≤ a ∧ m = cs.length - a.toNat ∧ env = [some (bagD cs a s n), some (.int many), none]) _ ⟨a, hb.ha, rfl, rfl⟩ ?_
  rintro m env ⟨a, ha, rfl, rfl⟩
  by_cases hlt : a < cs.length
  · have h1 : L2.ixN cs.length a = some a.toNat := ixN_of ha hlt
    have h2 := dI_atI ha hlt
    have h3 := hb.hc _ (getD_mem (ns := cs) (i := a.toNat) (by omega))
    have h4 : many ≠ 0 := by omega
    generalize cs.getD a.toNat 0 = c at *
    by_cases hc : c = 0
    · simp [bagD, hlt, h1, h2, hc]
      omega
    · simp [bagD, hlt, h1, h2, hc, hm, divOk hm hm2]
      refine k _ _ ⟨cs.set a.toNat (c / many), a, s, n, by unfold bagD; rw [← dI_set], fun x hx => ?_, ha, hb.hs, hb.hs2, hb.hn⟩ (Int.emod_nonneg _ h4) (Int.emod_lt_of_pos _ hm)
      rcases List.mem_or_eq_of_mem_set hx with h | h
      · exact hb.hc x h
      · rw [h]; exact Int.ediv_nonneg h3 (by omega)
  · have h4 : many ≠ 0 := by omega
    simp [bagD, hlt]
    have hs := hb.hs
    have hs2 := hb.hs2
    refine ⟨powOk (n := 61) (by omega) (by decide) (by decide), mulOk_small (.inl (by decide)), mulOk_small (.inl (by decide)), powOk (n := 2) (by decide) (by decide) (by decide), divOk (by decide) (by decide), hm,
      k _ _ ⟨cs, a, _, n + 1, rfl, hb.hc, ha, ?_, ?_, ?_⟩ (Int.emod_nonneg _ h4) (Int.emod_lt_of_pos _ hm)⟩
    · exact Int.emod_nonneg _ (by decide)
    · have := Int.emod_lt_of_pos (s ^ 3 + 48271 * s + 2039 * (n + 1) + 7) (b := 2305843009213693951) (by decide)
      omega
    · have := hb.hn; omega
theorem bag_ok {ns : List Int} {R : D → En → Prop} (hl : ns.length ≤ 63) (k : ∀ b, Bag b → R b [some (.obj false .sq (dI ns))]) : F_law_bag [.obj false .sq (dI ns)] R := by
  refine ⟨rfl, ?_⟩
  show wb_law_bag [some (.obj false .sq (dI ns)), none, none] _
  unfold wb_law_bag
  simp
  rw [cutD_map, frzL_dI]
  refine loopD_all _ _ (fun _ env => ∃ s o, 0 ≤ s ∧ s < 2 ^ 61 ∧ env = [some (.obj false .sq (dI ns)), some (.sc (.int s)), o]) ⟨29, none, by decide, by decide, rfl⟩ ?_ ?_
  · rintro done x rest e env ⟨s, o, h0, h1, rfl⟩ K kk
    simp
    refine ⟨mulOk_small (.inr (by decide)), powOk (n := 2) (by decide) (by decide) (by decide), kk _ ⟨_, _, Int.emod_nonneg _ (by decide), ?_, rfl⟩⟩
    have := Int.emod_lt_of_pos (s * 69621 + x % 2305843009213693921 + 1) (b := 2305843009213693951) (by decide)
    omega
  · rintro env ⟨s, o, h0, h1, rfl⟩
    simp
    rw [cutD_map, frzL_dI]
    refine compD_map _ _ (fun env => ∃ o, env = [some (.obj false .sq (dI ns)), some (.sc (.int s)), o]) (fun x => .sc (.int ((if x < 0 then -x else x) % (10 ^ 60) ^ 10))) ?_ ⟨_, rfl⟩ ?_ ?_
    · have := cutD_len ns none (some 60)
      show _ ≤ 16777216
      omega
    · rintro x hx env ⟨o, rfl⟩ K kk
      simp
      refine ⟨powOk (n := 4) (by decide) (by decide) (by decide), powOk (n := 200) (by decide) (by decide) (by decide), ?_⟩
      exact kk _ ⟨_, rfl⟩
    · rintro env ⟨o, rfl⟩
      simp
      refine (k _ ⟨(cutD ns none (some 60)).map fun x => (if x < 0 then -x else x) % (10 ^ 60) ^ 10, 0, s, 0, ?_, ?_, by omega, h0, h1, by omega⟩)
      · unfold bagD dI; rw [List.map_map]; rfl
      · intro c hc
        obtain ⟨x, _, rfl⟩ := List.mem_map.mp hc
        exact Int.emod_nonneg _ (by decide)
end BAGA

/-! MC: houses of the bag (laws k01 .. k05): what _law_ground gives. -/
namespace BAGA
open PySem L2 PL
def wb_law_ground : WS :=
  (sSeq (sAsg (wBin rdAdd (wC (.int 1)) (wCall F_law_draw (cRef 0 (cValF (wBin rdIx (wLst (aCons (wC (.int 4)) (aCons (wVal 1) aNil))) (wCall F_law_draw (cRef 0 (cValF (wC (.int 2)) cNil)))) cNil)))) (gFz 3))
    (sSeq (sAsg (wLst aNil) (gNm 4))
    (sSeq (sFor (iRng (aCons (wBin rdMul (wBin rdIx (wLst (aCons (wCall F_law_draw (cRef 0 (cValF (wC (.int 6)) cNil))) (aCons (wCall F_law_draw (cRef 0 (cValF (wBin rdAdd (wVal 2) (wC (.int 1))) cNil))) aNil))) (wCall F_law_draw (cRef 0 (cValF (wC (.int 2)) cNil)))) (wCB rdInt1 (aCons (wBin rdGt (wVal 3) (wC (.int 1))) aNil))) aNil)) (gFz 5) (sSeq (sAsg (wCall F_law_draw (cRef 0 (cValF (wVal 3) cNil))) (gFz 6))
    (sSeq (sAsg (wTup (aCons (wVal 6) (aCons (wBin rdMod (wBin rdAdd (wBin rdAdd (wVal 6) (wC (.int 1))) (wCall F_law_draw (cRef 0 (cValF (wBin rdSub (wVal 3) (wC (.int 1))) cNil)))) (wVal 3)) aNil))) (gFz 7))
    (sSeq (sIf (wAnd (wTst (wBinNE rdNe 4 (wLst aNil))) (wTst (wBin rdEq (wCall F_law_draw (cRef 0 (cValF (wC (.int 5)) cNil))) (wC (.int 0))))) (sAsg (wRev (wBinNE rdIx 4 (wCall F_law_draw (cRef 0 (cValF (wCBB rdLen (bCons (bName 4) bNil)) cNil))))) (gFz 7)) sNext)
    (sDrop (wAppN false 4 (wVal 7)))))))
    (sRet (wTup (aCons (wVal 3) (aCons (wVar 4) aNil)))))))
def F_law_ground : WF := fnW [true, true, true] 5 wb_law_ground

def pairD (p : Int × Int) : D := .tup [.int p.1, .int p.2]
@[simp] theorem fz_pair (p : Int × Int) : (pairD p).fz = true := rfl
@[simp] theorem frz_pair (p : Int × Int) : (pairD p).frz = pairD p := rfl
def doorsD (ds : List (Int × Int)) : List D := ds.map pairD
@[simp] theorem fzL_doors (ds : List (Int × Int)) : D.fzL (doorsD ds) = true := fzL_map fz_pair ds
@[simp] theorem frzL_doors (ds : List (Int × Int)) : D.frzL (doorsD ds) = doorsD ds := frzL_mapE fz_pair ds
@[simp] theorem len_doors (ds : List (Int × Int)) : (doorsD ds).length = ds.length := List.length_map ..
def houseD (r : Int) (ds : List (Int × Int)) : D := .tup [.int r, .lst false (doorsD ds)]
theorem ly_pair (p : Int × Int) : Ly (pairD p) 1 := .tup (.cons .int (.cons .int .nil))
theorem ly_doors (ds : List (Int × Int)) {o : Bool} : Ly (.obj o .lst (doorsD ds)) 2 := .lst (.map ly_pair ds)
theorem pl_pair {p : Int × Int} (h : p.1.natAbs < 10 ^ 60 ∧ p.2.natAbs < 10 ^ 60) : Pl (pairD p) 1 3 := .tup (.cons (.int h.1) (.cons (.int h.2) .nil))
theorem house_def (r ds) : houseD r ds = .tup [.int r, .lst false (doorsD ds)] := rfl
@[simp] theorem fz_house (r ds) : (houseD r ds).fz = true := by simp [houseD]
@[simp] theorem frz_house (r ds) : (houseD r ds).frz = houseD r ds := by simp [houseD]
@[simp ↓] theorem house_0 {r ds} {R : D → Prop} : rdIx (houseD r ds) (.sc (.int 0)) R = R (.int r) := by simp [houseD]
@[simp ↓] theorem house_1 {r ds} {R : D → Prop} : rdIx (houseD r ds) (.sc (.int 1)) R = R (.lst false (doorsD ds)) := by simp [houseD]
@[simp ↓] theorem in_pair {neg : Bool} {a : Int} {p : Int × Int} {R : D → Prop} : rdIn neg (.sc (.int a)) (pairD p) R = R (.bl (if neg then !decide (a = p.1 ∨ a = p.2) else decide (a = p.1 ∨ a = p.2))) := by
  show dIn (.sc (.int a)) (dI [p.1, p.2]) (fun c => R (.bl (if neg then !c else c))) = _
  rw [e_dIn]; simp
@[simp ↓] theorem seq_pair {p : Int × Int} {K : List D → Prop} : seqOf (pairD p) K = K [.int p.1, .int p.2] := rfl
theorem doors_get {ds : List (Int × Int)} {i : Nat} (h : i < ds.length) : L2.atI (doorsD ds) (i : Int) = some (pairD (ds.getD i (0, 0))) := by
  refine atI_of (by omega) ?_
  simp [doorsD, List.getD_eq_getElem?_getD, List.getElem?_eq_getElem h]
structure HouseI (r : Int) (ds : List (Int × Int)) (most wide : Int) : Prop where
  r1 : 1 ≤ r
  r2 : r ≤ most
  len : (ds.length : Int) ≤ wide
  ok : ∀ p ∈ ds, 0 ≤ p.1 ∧ p.1 < r ∧ 0 ≤ p.2 ∧ p.2 < r ∧ p.1 ≠ p.2
theorem ground_ok {b : D} {R : D → En → Prop} (h : Bag b) (k : ∀ r ds b', Bag b' → HouseI r ds 10 24 → R (houseD r ds) [some b', some (.int 10), some (.int 24)]) : F_law_ground [b, .int 10, .int 24] R := by
  refine ⟨rfl, ?_⟩
  show wb_law_ground [some b, some (.int 10), some (.int 24), none, none, none, none, none] _
  unfold wb_law_ground
  simp
  refine draw_ok h (by decide) (by decide) fun v b h h0 h1 => ?_
  simp
  refine atI_exI (ns := [4, 10]) rfl h0 h1 fun m _ hm => ?_
  replace hm : 4 ≤ m ∧ m ≤ 10 := by simp at hm; omega
  simp
  refine draw_ok h (by omega) (by omega) fun v b h h0 h1 => ?_
  have hr : 1 ≤ 1 + v ∧ 1 + v ≤ 10 := by omega
  simp
  generalize 1 + v = r at *
  refine draw_ok h (by decide) (by decide) fun v1 b h h0 h1 => ?_
  simp
  refine draw_ok h (by decide) (by decide) fun v2 b h h2 h3 => ?_
  simp
  refine draw_ok h (by decide) (by decide) fun v3 b h h4 h5 => ?_
  simp
  refine atI_exI (ns := [v1, v2]) rfl h4 h5 fun m _ hm => ?_
  replace hm : 0 ≤ m ∧ m ≤ 24 := by simp at hm; omega
  simp
  have hn : ∃ n : Nat, (m * if 1 < r then 1 else 0) = n ∧ n ≤ 24 ∧ (0 < n → 1 < r) := by
    split
    · exact ⟨m.toNat, by omega, by omega, fun _ => by omega⟩
    · exact ⟨0, by omega, by omega, fun z => by omega⟩
  obtain ⟨n, hn, hn1, hn2⟩ := hn
  rw [hn]
  refine ⟨mulOk_small (.inl (by omega)), by omega, by omega, ?_⟩
  unfold rng
  refine loopD_all _ _ (fun done env => ∃ b ds o5 o6 o7, Bag b ∧ ds.length = done.length ∧ (∀ p ∈ ds, 0 ≤ p.1 ∧ p.1 < r ∧ 0 ≤ p.2 ∧ p.2 < r ∧ p.1 ≠ p.2) ∧ env = [some b, some (.int 10), some (.int 24), some (.int r), some (.lst true (doorsD ds)), o5, o6, o7]) ⟨b, [], none, none, none, h, rfl, by simp, rfl⟩ ?_ ?_
  · rintro done x rest e env ⟨b, ds, o5, o6, o7, h, hl, hds, rfl⟩ K kk
    have hx : done.length < n := by
      have := congrArg List.length e
      simp at this
      omega
    have hr2 := hn2 (by omega)
    simp
    refine draw_ok h (by omega) (by omega) fun one b h h0 h1 => ?_
    simp
    refine draw_ok h (by omega) (by omega) fun v b h h2 h3 => ?_
    simp
    have hp : ∃ p : Int × Int, D.tup [D.sc (V.int one), D.sc (V.int ((one + 1 + v) % r))] = pairD p ∧ 0 ≤ p.1 ∧ p.1 < r ∧ 0 ≤ p.2 ∧ p.2 < r ∧ p.1 ≠ p.2 :=
      ⟨(one, (one + 1 + v) % r), rfl, h0, h1, Int.emod_nonneg _ (by omega), Int.emod_lt_of_pos _ (by omega), by
        show one ≠ (one + 1 + v) % r
        by_cases hh : one + 1 + v < r
        · rw [Int.emod_eq_of_lt (by omega) hh]; omega
        · have e : (one + 1 + v) % r = one + 1 + v - r := by
            rw [← Int.sub_emod_right, Int.emod_eq_of_lt (by omega) (by omega)]
          rw [e]; omega⟩
    obtain ⟨p, ep, hp⟩ := hp
    rw [ep]
    have hsz : ds.length < sizeLine := by
      show _ < 16777216
      omega
    have fin : ∀ (q : Int × Int) b o5 o6 o7, Bag b → 0 ≤ q.1 ∧ q.1 < r ∧ 0 ≤ q.2 ∧ q.2 < r ∧ q.1 ≠ q.2 → K [some b, some (D.int 10), some (D.int 24), some (D.sc (V.int r)), some (D.lst true (doorsD ds ++ [pairD q])), o5, o6, o7] := by
      intro q b o5 o6 o7 h hq
      refine kk _ ⟨b, ds ++ [q], o5, o6, o7, h, by simp [hl], ?_, ?_⟩
      · intro z hz
        rcases List.mem_append.mp hz with hz | hz
        · exact hds z hz
        · rw [List.mem_singleton.mp hz]; exact hq
      · simp [doorsD]
    have hshp := (ly_doors ds (o := true)).shp (by decide)
    refine ⟨by omega, hshp, ?_⟩
    split
    · simp [hsz]; exact fin p _ _ _ _ h hp
    · rename_i hne
      refine draw_ok h (by decide) (by decide) fun v b h h4 h5 => ?_
      simp
      split
      · refine draw_ok h ?_ (by omega) fun v b h h6 h7 => ?_
        · cases ds with
          | nil => simp [doorsD] at hne
          | cons _ _ => simp
        simp
        refine atI_exM (f := pairD) rfl h6 h7 fun q _ hq => ?_
        simp [pairD, hsz]
        refine fin (q.2, q.1) _ _ _ _ h ?_
        have := hds q hq
        exact ⟨this.2.2.1, this.2.2.2.1, this.1, this.2.1, fun z => this.2.2.2.2 z.symm⟩
      · simp [hsz]; exact fin p _ _ _ _ h hp
  · rintro env ⟨b, ds, o5, o6, o7, h, hl, hds, rfl⟩
    simp
    refine k r ds b h ⟨by omega, by omega, ?_, hds⟩
    simp at hl
    omega
end BAGA

/-! PO2: reckoning with written texts. -/
namespace PL
open PySem L2
@[simp] theorem shp_lit (x : String) : (D.sc (.str (Str.ofString x))).shp = true := by
  show (PyData.strOk _ && decide (0 ≤ 64)) = true
  rw [strOk_lit]; rfl
theorem lit_inj {a b : String} (h : Str.ofString a = Str.ofString b) : a = b := by
  rw [Str.ofString_eq_toList, Str.ofString_eq_toList] at h
  injection h with h
  have h : a.toList.map Char.toNat = b.toList.map Char.toNat := by simpa using h
  have : a.toList = b.toList := by
    refine PL.map_inj (f := Char.toNat) (fun x y e => ?_) h
    exact Char.toNat_inj.mp e
  exact String.toList_inj.mp this
@[simp] theorem lit_beq (a b : String) : (Str.ofString a == Str.ofString b) = decide (a = b) := by
  by_cases h : a = b
  · subst h; simp
  · have : Str.ofString a ≠ Str.ofString b := fun z => h (lit_inj z)
    simp [this, h]
theorem flat_str (a : Str) : flatV (.str a) = true := rfl
theorem dIn_str {a : Str} {ns : List Str} {K : Bool → Prop} : dIn (.sc (.str a)) (ns.map fun s => D.sc (.str s)) K = K (ns.any fun s => s == a) := by
  have e : inV (V.str a) (ns.map V.str) = ns.any fun s => s == a := by
    unfold inV
    rw [List.any_map]; rfl
  apply propext
  constructor
  · rintro ⟨v, ws, e1, e2, _, _, k⟩
    cases e1
    have : ws = ns.map V.str := by
      refine map_inj (f := D.sc) (fun x y e => by injection e) ?_
      rw [← e2, List.map_map]; rfl
    subst this
    rw [e] at k; exact k
  · intro k
    refine ⟨.str a, ns.map V.str, rfl, by rw [List.map_map]; rfl, rfl, ?_, by rw [e]; exact k⟩
    rw [List.all_map]
    exact List.all_eq_true.mpr fun _ _ => rfl
@[simp ↓] theorem e_dInS1 {a b : Str} {K : Bool → Prop} : dIn (.sc (.str a)) [.sc (.str b)] K = K (b == a) := by
  have := dIn_str (a := a) (ns := [b]) (K := K)
  simpa using this
@[simp ↓] theorem e_dInS2 {a b c : Str} {K : Bool → Prop} : dIn (.sc (.str a)) [.sc (.str b), .sc (.str c)] K = K (b == a || c == a) := by
  have := dIn_str (a := a) (ns := [b, c]) (K := K)
  simpa using this
@[simp ↓] theorem e_dInS3 {a b c d : Str} {K : Bool → Prop} : dIn (.sc (.str a)) [.sc (.str b), .sc (.str c), .sc (.str d)] K = K (b == a || (c == a || d == a)) := by
  have := dIn_str (a := a) (ns := [b, c, d]) (K := K)
  simpa using this
@[simp ↓] theorem e_wViewT {w : WT} {env : En} {R : Bool → En → Prop} : wViewT w env R = w (seeE env) fun b _ => R b env := rfl
theorem e_sumT {ns : List Int} {R : D → Prop} : rdSumT [.tup (dI ns)] R = R (.int ns.sum) := by
  apply propext
  constructor
  · rintro ⟨ms, e, r⟩
    rw [map_int_inj e]; exact r
  · intro r; exact ⟨ns, rfl, r⟩
@[simp ↓] theorem e_sumT2 {a b : Int} {R : D → Prop} : rdSumT [.tup [.sc (.int a), .sc (.int b)]] R = R (.int (a + b)) := by
  have := e_sumT (ns := [a, b]) (R := R)
  simpa using this
theorem Pl.strD {x : D} {k n : Nat} {R : D → Prop} (h : Pl x k n) (hb : isBox x = true) (hk : k ≤ 61) (hn : n ≤ 250000) (r : R (.str x.py.shown)) : rdStrD [x] R := by
  refine ⟨hb, h.sho, h.lay, by have := h.dep; omega, ?_, r⟩
  have e := PyData.shown_le_bulk 61 (by decide) _ h.lea
  have := h.blk
  show _ ≤ 16777216
  omega
end PL

/-! PO9: reckoning with texts: the combinators' equations. -/
namespace PL
open PySem L2
section
variable {R : D → En → Prop} {env : En} {RD : EN} {i n : Nat} {d x y : D} {xs ys : List D} {o : Bool} {a b : Str}
@[simp ↓] theorem e_strD {K : Str → Prop} : strD (.sc (.str a)) K = K a := rfl
@[simp ↓] theorem e_fmtS {K : D → Prop} : fmtD (.sc (.str a)) K = (a.length ≤ sizeLine ∧ K (.str a)) := rfl
@[simp ↓] theorem e_fmtI {k : Int} {K : D → Prop} : fmtD (.sc (.int k)) K = (k.natAbs.log2 < 1920 ∧ K (.str (toString k))) := rfl
@[simp ↓] theorem e_wFmt {w : WE} : wFmt w env R = w env fun d e1 => fmtD d fun z => R z e1 := rfl
@[simp ↓] theorem e_wJs0 {acc : Str} : wJs [] acc env R = R (.str acc) env := rfl
@[simp ↓] theorem e_wJs1 {w : WE} {ws : List WE} {acc : Str} : wJs (w :: ws) acc env R = w env fun d e1 => strD d fun y => (acc ++ y).length ≤ sizeLine ∧ wJs ws (acc ++ y) e1 R := rfl
@[simp ↓] theorem e_wSplit {w w2 : WE} : wSplit w w2 env R = w env fun d e1 => strD d fun x => w2 e1 fun d2 e2 => strD d2 fun y => (y.length == 0) = false ∧ x.length + 2 ≤ sizeLine ∧ R (.lst true ((Txt.split x y).map D.str)) e2 := rfl
@[simp ↓] theorem e_wJoin {w w2 : WE} : wJoin w w2 env R = w env fun d e1 => strD d fun x => w2 e1 fun d2 e2 => ∃ (o : Bool) (sh : Sh) (ys : List Str), d2 = .obj o sh (ys.map D.str) ∧ isSeq sh = true ∧ (ys.map (·.length)).sum + ys.length * x.length ≤ 16777216 ∧ R (.str (Txt.join x ys)) e2 := rfl
@[simp ↓] theorem e_gStD {gs : WGs} {K : En → Prop} : gStD gs d env K = ∃ (o : Bool) (sh : Sh) (x : V) (ws : List V), d = .obj o sh (.sc x :: ws.map D.sc) ∧ isSeq sh = true ∧ gs [.sc x, .lst true (ws.map D.sc)] env K := rfl
@[simp ↓] theorem e_intS {K : D → Prop} : rdIntS [.sc (.str a)] K = ∃ n, PySem.intText? a = some n ∧ a.length ≤ 640 ∧ K (.int n) := rfl
@[simp ↓] theorem e_strI {k : Int} {K : D → Prop} : rdStr [.sc (.int k)] K = (k.natAbs.log2 < 1920 ∧ K (.str (toString k))) := rfl
@[simp ↓] theorem e_iSigns {w : WE} {K : List D → En → Prop} : iSigns w env K = w env fun d e1 => strD d fun x => K ((TL.tl x).map fun c => D.str ⟨#[c]⟩) e1 := rfl
@[simp ↓] theorem e_addS {K : D → Prop} : rdAdd (.sc (.str a)) (.sc (.str b)) K = (a.length + b.length ≤ sizeLine ∧ K (.str (a ++ b))) := rfl
theorem niS_of {c : Nat} {K : D → Prop} (h : K (.bl (!decide (c ∈ TL.tl a)))) : rdNiS (.sc (.str ⟨#[c]⟩)) (.sc (.str a)) K := ⟨c, a, rfl, rfl, h⟩
@[simp ↓] theorem e_ixS {k : Int} {K : D → Prop} : rdIx (.sc (.str a)) (.sc (.int k)) K = (a.length ≤ sizeLine ∧ ∃ c, L2.atI a.cps.toList k = some c ∧ K (.str ⟨#[c]⟩)) := rfl
@[simp ↓] theorem e_lenS {K : D → Prop} : rdLen [.sc (.str a)] K = (a.length ≤ sizeLine ∧ K (.int a.length)) := rfl
theorem shpS (h : PyData.strOk a = true) : (D.sc (.str a)).shp = true := by
  show (PyData.strOk _ && decide (0 ≤ 64)) = true
  rw [h]; rfl
theorem strOk_joinS {y : Str} (hy : PyData.strOk y = true) : ∀ (ts : List Str), (∀ t ∈ ts, PyData.strOk t = true) → PyData.strOk (Str.join y ts) = true
  | [], h => strOk_lit ""
  | [x], h => h x (List.mem_cons_self ..)
  | x :: z :: r, h => strOk_app (strOk_app (h x (List.mem_cons_self ..)) hy) (strOk_joinS hy (z :: r) fun t ht => h t (List.mem_cons_of_mem _ ht))
end
end PL

/-! MV1: houses' texts (laws k01, k02, k81-86), plain. -/
namespace TXTS
open PySem L2 PL BAGA TL
def num (i : Int) : Str := Str.ofString i.repr
def lineR (r : Int) : Str := Str.ofString "rooms " ++ num r
def row (p : Int × Int) : Str := Str.ofString "door " ++ num p.1 ++ Str.ofString " " ++ num p.2
def rows (r : Int) (ds : List (Int × Int)) : List Str := lineR r :: ds.map row
abbrev nl : Str := Str.ofString "\n"
abbrev sp : Str := Str.ofString " "
def text (r : Int) (ds : List (Int × Int)) : Str := Txt.join nl (rows r ds)
theorem tl_nl : tl nl = [10] := by rw [tl_ofString]; rfl
theorem tl_sp : tl sp = [32] := by rw [tl_ofString]; rfl
theorem tl_rooms : tl (Str.ofString "rooms ") = [114, 111, 111, 109, 115] ++ [32] := by rw [tl_ofString]; rfl
theorem tl_rooms0 : tl (Str.ofString "rooms") = [114, 111, 111, 109, 115] := by rw [tl_ofString]; rfl
theorem tl_door : tl (Str.ofString "door ") = [100, 111, 111, 114] ++ [32] := by rw [tl_ofString]; rfl
theorem tl_door0 : tl (Str.ofString "door") = [100, 111, 111, 114] := by rw [tl_ofString]; rfl
theorem tl_num {i : Int} (h : 0 ≤ i) : tl (num i) = numL i.toNat := by
  have := TL.tl_num i.toNat
  rw [show ((i.toNat : Nat) : Int) = i by omega] at this
  exact this
theorem tl_numS {i : Int} (h : 0 ≤ i) (h2 : i ≤ 10) : tl (num i) = if i = 10 then [49, 48] else [48 + i.toNat] := by
  rw [tl_num h]
  split
  · rename_i e; subst e
    rw [show (10 : Int).toNat = 10 from rfl, numL_step (by decide), numL_lt (by decide)]
    rfl
  · exact numL_lt (by omega)
theorem len_num {i : Int} (h : 0 ≤ i) (h2 : i ≤ 10) : 1 ≤ (num i).length ∧ (num i).length ≤ 2 := by
  rw [len_tl, tl_numS h h2]; split <;> simp
theorem len_app (x y : Str) : (x ++ y).length = x.length + y.length := by rw [len_tl, tl_append, List.length_append, ← len_tl, ← len_tl]
theorem emp_app (x : Str) : Str.empty ++ x = x := ext_tl (by rw [tl_append]; rfl)
theorem app_assoc (x y z : Str) : x ++ y ++ z = x ++ (y ++ z) := ext_tl (by simp only [tl_append, List.append_assoc])
theorem num_inj {i j : Int} (hi : 0 ≤ i) (hj : 0 ≤ j) (h : num i = num j) : i = j := by
  have := congrArg tl h
  rw [tl_num hi, tl_num hj] at this
  have := numL_inj this
  omega
theorem num_free {i : Int} (h : 0 ≤ i) {s : Nat} (hs : s < 48 ∨ 57 < s) : s ∉ tl (num i) := by rw [tl_num h]; exact numL_free hs
theorem len_rooms : (Str.ofString "rooms ").length = 6 := by rw [len_tl, tl_rooms]; rfl
theorem len_door : (Str.ofString "door ").length = 5 := by rw [len_tl, tl_door]; rfl
theorem len_sp : sp.length = 1 := by rw [len_tl, tl_sp]; rfl
theorem len_nl : nl.length = 1 := by rw [len_tl, tl_nl]; rfl
/-- houses that a text may write -/
structure HsI (r : Int) (ds : List (Int × Int)) : Prop where
  r1 : 1 ≤ r
  r2 : r ≤ 10
  len : ds.length ≤ 24
  ok : ∀ p ∈ ds, 0 ≤ p.1 ∧ p.1 < r ∧ 0 ≤ p.2 ∧ p.2 < r ∧ p.1 ≠ p.2
section
variable {r : Int} {ds : List (Int × Int)}
theorem len_lineR (h1 : 0 ≤ r) (h2 : r ≤ 10) : (lineR r).length ≤ 12 := by
  have := len_num h1 h2
  unfold lineR; rw [len_app, len_rooms]; omega
theorem len_row {p : Int × Int} (h : (0 ≤ p.1 ∧ p.1 ≤ 10) ∧ 0 ≤ p.2 ∧ p.2 ≤ 10) : (row p).length ≤ 12 := by
  have h1 := len_num h.1.1 h.1.2
  have h2 := len_num h.2.1 h.2.2
  unfold row; rw [len_app, len_app, len_app, len_door, len_sp]; omega
theorem rows_len (h : HsI r ds) : ∀ x ∈ rows r ds, x.length ≤ 12 := by
  have := h.r1
  have := h.r2
  intro x hx
  rcases List.mem_cons.mp hx with rfl | hx
  · exact len_lineR (by omega) (by omega)
  · obtain ⟨p, hp, rfl⟩ := List.mem_map.mp hx
    have := h.ok p hp
    exact len_row (by omega)
theorem join_len {y : Str} {m : Nat} : ∀ (ts : List Str), (∀ t ∈ ts, t.length ≤ m) → (Str.join y ts).length ≤ ts.length * (m + y.length)
  | [], h => Nat.zero_le _
  | [x], h => by
    have := h x (by simp)
    show x.length ≤ 1 * _; omega
  | x :: z :: t, h => by
    have h1 := h x (by simp)
    have h2 := join_len (y := y) (z :: t) fun u hu => h u (List.mem_cons_of_mem _ hu)
    show (x ++ y ++ Str.join y (z :: t)).length ≤ _
    rw [len_app, len_app, List.length_cons, Nat.add_one_mul]
    omega
theorem text_len (h : HsI r ds) : (text r ds).length ≤ 325 := by
  unfold text
  rw [join_eq]
  have := join_len (y := nl) _ (rows_len h)
  rw [len_nl] at this
  have h2 : (rows r ds).length ≤ 25 := by have := h.len; simp [rows]; omega
  have := Nat.mul_le_mul_right 13 h2
  omega
theorem join_snoc (y : Str) : ∀ (x : Str) (ts : List Str) (q : Str), Str.join y (x :: (ts ++ [q])) = Str.join y (x :: ts) ++ y ++ q
  | x, [], q => rfl
  | x, z :: t, q => by
    show x ++ y ++ Str.join y (z :: (t ++ [q])) = x ++ y ++ Str.join y (z :: t) ++ y ++ q
    rw [join_snoc y z t q]
    simp only [app_assoc]
theorem text_nil : text r [] = lineR r := by unfold text; rw [join_eq]; rfl
theorem text_snoc (p : Int × Int) : text r (ds ++ [p]) = text r ds ++ nl ++ row p := by
  unfold text
  rw [join_eq, join_eq]
  unfold rows
  rw [List.map_append]
  exact join_snoc nl (lineR r) (ds.map row) (row p)
theorem lineR_join : lineR r = Txt.join sp [Str.ofString "rooms", num r] := by
  rw [join_eq]
  refine ext_tl ?_
  rw [tl_join]
  simp only [lineR, tl_append, tl_rooms, tl_rooms0, tl_sp, List.map_cons, List.map_nil, joinL, List.append_assoc]
theorem row_join (p : Int × Int) : row p = Txt.join sp [Str.ofString "door", num p.1, num p.2] := by
  rw [join_eq]
  refine ext_tl ?_
  rw [tl_join]
  simp only [row, tl_append, tl_door, tl_door0, tl_sp, List.map_cons, List.map_nil, joinL, List.append_assoc]
theorem split_lineR (h : 0 ≤ r) : Txt.split (lineR r) sp = [Str.ofString "rooms", num r] := by
  rw [lineR_join]
  refine split_join tl_sp (by rw [← Array.all_toList]; show (tl sp).all _ = true; rw [tl_sp]; rfl) (by simp) ?_
  intro p hp
  simp at hp
  rcases hp with rfl | rfl
  · rw [tl_rooms0]; decide
  · exact num_free h (by decide)
theorem split_row {p : Int × Int} (h : 0 ≤ p.1) (h2 : 0 ≤ p.2) : Txt.split (row p) sp = [Str.ofString "door", num p.1, num p.2] := by
  rw [row_join]
  refine split_join tl_sp (by rw [← Array.all_toList]; show (tl sp).all _ = true; rw [tl_sp]; rfl) (by simp) ?_
  intro q hq
  simp at hq
  rcases hq with rfl | rfl | rfl
  · rw [tl_door0]; decide
  · exact num_free h (by decide)
  · exact num_free h2 (by decide)
theorem split_text (h : HsI r ds) : Txt.split (text r ds) nl = rows r ds := by
  have := h.r1
  unfold text
  refine split_join tl_nl (by rw [← Array.all_toList]; show (tl nl).all _ = true; rw [tl_nl]; rfl) (by simp [rows]) ?_
  intro q hq
  rcases List.mem_cons.mp hq with rfl | hq
  · have := num_free (i := r) (by omega) (s := 10) (by decide)
    simp only [lineR, tl_append, tl_rooms, List.mem_append]; rintro ((h | h) | h)
    · revert h; decide
    · revert h; decide
    · exact this h
  · obtain ⟨p, hp, rfl⟩ := List.mem_map.mp hq
    have hp := h.ok p hp
    have h1 := num_free (i := p.1) (by omega) (s := 10) (by decide)
    have h2 := num_free (i := p.2) (by omega) (s := 10) (by decide)
    simp only [row, tl_append, tl_door, tl_sp, List.mem_append]; rintro ((((h | h) | h) | h) | h)
    · revert h; decide
    · revert h; decide
    · exact h1 h
    · revert h; decide
    · exact h2 h
theorem row_inj {p q : Int × Int} (hp : 0 ≤ p.1 ∧ 0 ≤ p.2) (hq : 0 ≤ q.1 ∧ 0 ≤ q.2) (h : row p = row q) : p = q := by
  have e := split_row hp.1 hp.2
  rw [h, split_row hq.1 hq.2] at e
  simp at e
  exact Prod.ext (num_inj hq.1 hp.1 e.1).symm (num_inj hq.2 hp.2 e.2).symm
theorem lineR_inj {r s : Int} (hr : 0 ≤ r) (hs : 0 ≤ s) (h : lineR r = lineR s) : r = s := by
  have e := split_lineR hr
  rw [h, split_lineR hs] at e
  simp at e
  exact (num_inj hs hr e).symm
theorem map_row_inj : ∀ {a b : List (Int × Int)}, (∀ p ∈ a, 0 ≤ p.1 ∧ 0 ≤ p.2) → (∀ p ∈ b, 0 ≤ p.1 ∧ 0 ≤ p.2) → a.map row = b.map row → a = b
  | [], [], _, _, _ => rfl
  | [], _ :: _, _, _, h => by simp at h
  | _ :: _, [], _, _, h => by simp at h
  | p :: a, q :: b, h1, h2, h => by
    simp only [List.map_cons, List.cons.injEq] at h
    rw [row_inj (h1 p (by simp)) (h2 q (by simp)) h.1, map_row_inj (fun p hp => h1 p (List.mem_cons_of_mem _ hp)) (fun p hp => h2 p (List.mem_cons_of_mem _ hp)) h.2]
theorem text_inj {s : Int} {es : List (Int × Int)} (h : HsI r ds) (g : HsI s es) (e : text r ds = text s es) : r = s ∧ ds = es := by
  have := h.r1
  have := g.r1
  have e1 := split_text h
  rw [e, split_text g] at e1
  unfold rows at e1
  simp only [List.cons.injEq] at e1
  refine ⟨(lineR_inj (by omega) (by omega) e1.1).symm, (map_row_inj (fun p hp => ?_) (fun p hp => ?_) e1.2).symm⟩
  · have := g.ok p hp; omega
  · have := h.ok p hp; omega
theorem strOk_num (i : Int) : PyData.strOk (num i) = true := strOk_lit _
theorem strOk_lineR : PyData.strOk (lineR r) = true := strOk_app (strOk_lit _) (strOk_num _)
theorem strOk_row (p : Int × Int) : PyData.strOk (row p) = true := strOk_app (strOk_app (strOk_app (strOk_lit _) (strOk_num _)) (strOk_lit _)) (strOk_num _)
theorem strOk_text : PyData.strOk (text r ds) = true := by
  unfold text
  rw [join_eq]
  refine strOk_joinS (strOk_lit _) _ fun t ht => ?_
  rcases List.mem_cons.mp ht with rfl | ht
  · exact strOk_lineR
  · obtain ⟨p, _, rfl⟩ := List.mem_map.mp ht
    exact strOk_row p
@[simp] theorem shp_text : (D.sc (.str (text r ds))).shp = true := shpS strOk_text
theorem int_num {i : Int} (h : 0 ≤ i) (h2 : i ≤ 10) : PySem.intText? (num i) = some i := by
  have := TL.int_num (n := i.toNat) (by rw [← tl_num h, ← len_tl]; have := len_num h h2; omega)
  rw [show ((i.toNat : Nat) : Int) = i by omega] at this
  exact this
theorem bits_small {i : Int} (h : 0 ≤ i) (h2 : i ≤ 10) : i.natAbs.log2 < 1920 := by
  by_cases e : i.natAbs = 0
  · rw [e]; decide
  · have := (Nat.log2_lt (n := i.natAbs) (k := 4) e).mpr (by omega)
    omega
end
end TXTS

/-! PO3: equations of PLx; dicts by tuples, made and read. -/
namespace PL
open PySem L2
section
variable {env : En} {R : D → En → Prop}
@[simp ↓] theorem e_wChain3 {r1 r2 r3 : RD2} {wa wb wc wd : WE} : wChain3 r1 r2 r3 wa wb wc wd env R = wa env fun x e1 => wb e1 fun y e2 => y.fz = true ∧ r1 x y fun z => asB z fun c => if c = true then wc e2 fun u e3 => u.fz = true ∧ r2 y u fun z => asB z fun c =>
  if c = true then wd e3 fun t e4 => r3 u t fun z => R z e4 else R (.bl false) e3 else R (.bl false) e2 := rfl
@[simp ↓] theorem e_wDcT {wi : WI} {vs : List Nat} {g : WG} {wt : WT} {wk : WA} {wv : WE} : wDcT wi vs g wt wk wv env R = wi env fun items e1 => dcompT vs g wt wk wv items [] e1 fun acc e2 => R (dctD true acc) (restE e1 vs (wipeE none vs e2)) := rfl
end
@[simp] theorem fz_dct (kvs : List (List Key × V)) : (dctD false kvs).fz = true := by
  show D.fzL _ = true
  exact D.fzL_of fun x hx => by
    obtain ⟨p, _, rfl⟩ := List.mem_map.mp hx
    rfl
@[simp] theorem frz_dct (o : Bool) (kvs : List (List Key × V)) : (dctD o kvs).frz = dctD false kvs := by
  show D.obj false _ (D.frzL _) = _
  rw [D.frzL_of_fzL (D.fzL_of fun x hx => by
    obtain ⟨p, _, rfl⟩ := List.mem_map.mp hx
    rfl)]
  rfl
theorem ixDT_of {o : Bool} {kvs : List (List Key × V)} {k : List Key} {v : V} {R : D → Prop} (h : valV kvs k = some v) (r : R (.sc v)) : rdIxDT (dctD o kvs) (.tup (k.map keyD)) R := ⟨o, kvs, k, v, rfl, rfl, h, r⟩
/-- what a comprehension leaves, by its keys and values -/
def putAll {α : Type} (kf : α → List Key) (vf : α → V) : List α → List (List Key × V) → List (List Key × V)
  | [], acc => acc
  | x :: xs, acc => putAll kf vf xs (putK acc (kf x) (vf x))
theorem dcompT_all {α : Type} {vs : List Nat} {g : WG} {wt : WT} {wk : WA} {wv : WE} (enc : α → D) (I : En → Prop) (kf : α → List Key) (vf : α → V) {R : List (List Key × V) → En → Prop} : ∀ (xs : List α) (acc : List (List Key × V)) (env : En), acc.length + xs.length ≤ sizeLine → I env →
    (∀ x ∈ xs, ∀ env, I env → ∀ (Kc : List Key → V → En → Prop) (Kn : En → Prop), (∀ env', I env' → Kc (kf x) (vf x) env') → g (enc x) (wipeE none vs env) fun e1 => wt e1 fun b e2 => if b = true then wk e2 fun ds e3 => ∃ k, ds = k.map keyD ∧ k.length ≤ sizeLine ∧ wv e3 fun y e4 => ∃ v, y = .sc v ∧ Kc k v e4 else Kn e2) →
    (∀ env', I env' → R (putAll kf vf xs acc) env') → dcompT vs g wt wk wv (xs.map enc) acc env R := by
  intro xs
  induction xs with
  | nil => intro acc env _ h _ fin; exact fin env h
  | cons x xs ih =>
    intro acc env hl h step fin
    simp only [List.length_cons] at hl
    refine step x (List.mem_cons_self ..) env h (fun k v e4 => acc.length < sizeLine ∧ dcompT vs g wt wk wv (xs.map enc) (putK acc k v) e4 R) (fun e2 => dcompT vs g wt wk wv (xs.map enc) acc e2 R) fun env' h' => ⟨by omega, ?_⟩
    exact ih _ env' (by have := length_putK acc (kf x) (vf x); omega) h' (fun y hy => step y (List.mem_cons_of_mem _ hy)) fin
theorem putAll_keep {α : Type} {kf : α → List Key} {vf : α → V} {G : List Key → V} : ∀ {xs : List α} {acc : List (List Key × V)} {k : List Key}, (∀ x ∈ xs, vf x = G (kf x)) → valV acc k = some (G k) → valV (putAll kf vf xs acc) k = some (G k)
  | [], _, _, _, h => h
  | x :: xs, acc, k, hg, h => by
    refine putAll_keep (xs := xs) (acc := putK acc (kf x) (vf x)) (fun y hy => hg y (List.mem_cons_of_mem _ hy)) ?_
    rw [valV_put]
    by_cases e : k = kf x
    · rw [if_pos e, hg x (List.mem_cons_self ..), e]
    · rw [if_neg e]; exact h
theorem putAll_get {α : Type} {kf : α → List Key} {vf : α → V} {G : List Key → V} : ∀ {xs : List α} {acc : List (List Key × V)} {x : α}, (∀ x ∈ xs, vf x = G (kf x)) → x ∈ xs → valV (putAll kf vf xs acc) (kf x) = some (G (kf x))
  | y :: xs, acc, x, hg, hx => by
    rcases List.mem_cons.mp hx with rfl | hx
    · refine putAll_keep (xs := xs) (acc := putK acc (kf x) (vf x)) (fun y hy => hg y (List.mem_cons_of_mem _ hy)) ?_
      rw [valV_put, if_pos rfl, hg x (List.mem_cons_self ..)]
    · exact putAll_get (xs := xs) (acc := putK acc (kf y) (vf y)) (fun z hz => hg z (List.mem_cons_of_mem _ hz)) hx
end PL

/-! PO4: equations of PLy and PLz. -/
namespace PL
open PySem L2
section
variable {env : En} {R : D → En → Prop} {C0 : Addr} {f m : Str} {i : Nat}
@[simp ↓] theorem e_wBv {wb : WB} : wBv wb env R = wb env fun d => d.fz = true ∧ R d env := rfl
@[simp ↓] theorem e_bFld {wb : WB} {R : D → Prop} : bFld C0 f wb env R = wb env fun d => insD C0 d fun ns xs => ∃ j x, fIx f ns = some j ∧ xs[j]? = some x ∧ R x := rfl
@[simp ↓] theorem e_mFld {wm : WM} {R : Nat → D → (D → D) → Prop} : mFld C0 f wm env R = wm env fun i d u => insO C0 d fun ns xs => ∃ j x, fIx f ns = some j ∧ xs[j]? = some x ∧ R i x fun y => u (.obj true (.ins C0 ns) (xs.set j y)) := rfl
@[simp ↓] theorem e_insD {o : Bool} {ns : List Str} {xs : List D} {k : List Str → List D → Prop} : insD C0 (.obj o (.ins C0 ns) xs) k = k ns xs := by
  show (C0 = C0 ∧ k ns xs) = k ns xs
  simp
@[simp ↓] theorem e_insO {ns : List Str} {xs : List D} {k : List Str → List D → Prop} : insO C0 (.obj true (.ins C0 ns) xs) k = k ns xs := by
  show (C0 = C0 ∧ k ns xs) = k ns xs
  simp
@[simp ↓] theorem e_wMeth {F : WF} {wc : WC} : wMeth C0 m F i wc env R = ((∃ d, env[i]? = some (some d) ∧ insD C0 d fun ns _ => fIx m ns = none) ∧ wc env fun is e1 => match takeA e1 (.ref i :: is) with
  | some (ds, e2) => F ds fun r ds' => R r (putA e2 (.ref i :: is) ds')
  | none => False) := rfl
@[simp ↓] theorem e_wMake {F : WF} {wc : WC} : wMake C0 F wc env R = wc env fun is e1 => match takeA (e1 ++ [some (.obj true (.ins C0 []) [])]) (.ref e1.length :: is) with
  | some (ds, e2) => F ds fun r ds' => r = .sc .non ∧ ∃ d, (putA e2 (.ref e1.length :: is) ds')[e1.length]? = some (some d) ∧ R d ((putA e2 (.ref e1.length :: is) ds').take e1.length)
  | none => False := rfl
@[simp ↓] theorem e_wFldF : wFldF C0 i f env R = ∃ ns xs j x, env[i]? = some (some (.obj true (.ins C0 ns) xs)) ∧ fIx f ns = some j ∧ xs[j]? = some x ∧ R x.frz (env.set i none) := rfl
@[simp ↓] theorem e_sFldN {kf : Bool} {we : WE} {RD : EN} : sFldN kf C0 i f we env RD = we env fun y e1 => ∃ ns xs, e1[i]? = some (some (.obj true (.ins C0 ns) xs)) ∧ fIx f ns = none ∧ ns.length < 1000 ∧ RD.nx (e1.set i (some (.obj true (.ins C0 (ns ++ [f])) (xs ++ [inK kf y])))) := rfl
@[simp ↓] theorem e_wDNewK : wDNewK env R = R (dctK true []) env := rfl
@[simp ↓] theorem e_wDNewT : wDNewT env R = R (dctD true []) env := rfl
@[simp ↓] theorem e_wDD1 {wk wv : WE} : wDD1 wk wv env R = wk env fun x e1 => wv e1 fun y e2 => ∃ key v, x = keyD key ∧ y = .sc v ∧ R (dctK true [(key, v)]) e2 := rfl
@[simp ↓] theorem e_sDPutK {we wi : WE} {RD : EN} : sDPutK i we wi env RD = we env fun y e1 => (∃ d, e1[i]? = some (some d)) ∧ wi e1 fun x e2 => ∃ kvs key v, e2[i]? = some (some (dctK true kvs)) ∧ x = keyD key ∧ y = .sc v ∧ kvs.length < sizeLine ∧ RD.nx (e2.set i (some (dctK true (putK kvs key v)))) := rfl
@[simp ↓] theorem e_sDPutT {we wi : WE} {RD : EN} : sDPutT i we wi env RD = we env fun y e1 => (∃ d, e1[i]? = some (some d)) ∧ wi e1 fun x e2 => ∃ kvs key v, e2[i]? = some (some (dctD true kvs)) ∧ x = keyT key ∧ y = .sc v ∧ kvs.length < sizeLine ∧ RD.nx (e2.set i (some (dctD true (putK kvs key v)))) := rfl
@[simp ↓] theorem e_wDcN {wi : WI} {vs : List Nat} {g : WG} {wt : WT} {wk wv : WE} : wDcN wi vs g wt wk wv env R = wi env fun items e1 => dcompN vs g wt wk wv items [] e1 fun acc e2 => R (dctD true acc) (restE e1 vs (wipeE none vs e2)) := rfl
@[simp ↓] theorem e_sForEn {g : WG} {wb : WS} {RD : EN} : sForEn C0 i f g wb env RD = ∃ ns xs j ds, env[i]? = some (some (.obj true (.ins C0 ns) xs)) ∧ fIx f ns = some j ∧ xs[j]? = some (.lst true ds) ∧ D.fzL ds = true ∧
  ∀ q, loopD g wb (enumD 0 ds) (env.set i (some (.obj true (.ins C0 ns) (xs.set j (.sc (.ref q)))))) { nx := backF C0 i f q ds RD.nx, rt := fun _ _ => False } := rfl
end
@[simp] theorem fz_dck (kvs : List (Key × V)) : (dctK false kvs).fz = true := by
  show D.fzL _ = true
  exact D.fzL_of fun x hx => by
    obtain ⟨p, _, rfl⟩ := List.mem_map.mp hx
    rfl
@[simp] theorem frz_dck (o : Bool) (kvs : List (Key × V)) : (dctK o kvs).frz = dctK false kvs := by
  show D.obj false _ (D.frzL _) = _
  rw [D.frzL_of_fzL (D.fzL_of fun x hx => by
    obtain ⟨p, _, rfl⟩ := List.mem_map.mp hx
    rfl)]
  rfl
@[simp] theorem isNon_dck (o : Bool) (kvs : List (Key × V)) : (dctK o kvs).isNon = false := rfl
theorem ixK_of {o : Bool} {kvs : List (Key × V)} {i : Int} {v : V} {R : D → Prop} (h : valV kvs (.inl i) = some v) (r : R (.sc v)) : rdIxK (dctK o kvs) (.sc (.int i)) R := ⟨o, kvs, .inl i, v, rfl, rfl, h, r⟩
theorem inK_of {neg o : Bool} {kvs : List (Key × V)} {i : Int} {R : D → Prop} (r : R (.bl (if neg = true then !(valV kvs (.inl i)).isSome else (valV kvs (.inl i)).isSome))) : rdInK neg (.sc (.int i)) (dctK o kvs) R := ⟨o, kvs, .inl i, rfl, rfl, r⟩
theorem dcompN_all {α : Type} {vs : List Nat} {g : WG} {wt : WT} {wk wv : WE} (enc : α → D) (I : En → Prop) (kf : α → List Key) (vf : α → V) {R : List (List Key × V) → En → Prop} : ∀ (xs : List α) (acc : List (List Key × V)) (env : En), acc.length + xs.length ≤ sizeLine → I env →
    (∀ x ∈ xs, ∀ env, I env → ∀ (Kc : List Key → V → En → Prop) (Kn : En → Prop), (∀ env', I env' → Kc (kf x) (vf x) env') → g (enc x) (wipeE none vs env) fun e1 => wt e1 fun b e2 => if b = true then wk e2 fun d e3 => ∃ k, d = keyT k ∧ wv e3 fun y e4 => ∃ v, y = .sc v ∧ Kc k v e4 else Kn e2) →
    (∀ env', I env' → R (putAll kf vf xs acc) env') → dcompN vs g wt wk wv (xs.map enc) acc env R := by
  intro xs
  induction xs with
  | nil => intro acc env _ h _ fin; exact fin env h
  | cons x xs ih =>
    intro acc env hl h step fin
    simp only [List.length_cons] at hl
    refine step x (List.mem_cons_self ..) env h (fun k v e4 => acc.length < sizeLine ∧ dcompN vs g wt wk wv (xs.map enc) (putK acc k v) e4 R) (fun e2 => dcompN vs g wt wk wv (xs.map enc) acc e2 R) fun env' h' => ⟨by omega, ?_⟩
    exact ih _ env' (by have := length_putK acc (kf x) (vf x); omega) h' (fun y hy => step y (List.mem_cons_of_mem _ hy)) fin
end PL

/-! PO5: equations of PL1. -/
namespace PL
open PySem L2
section
variable {env : En} {R : D → En → Prop}
@[simp ↓] theorem e_wTupK {wa : WA} : wTupK wa env R = wa env fun ds e1 => ds.length ≤ sizeLine ∧ R (.tup ds) e1 := rfl
@[simp ↓] theorem e_wMv {wm : WM} : wMv wm env R = wm env fun i d _ => R d (env.set i none) := rfl
@[simp ↓] theorem e_wClr {wm : WM} : wClr wm env R = wm env fun i d u => ownD d fun xs => R .non (env.set i (some (u (.lst true [])))) := rfl
@[simp ↓] theorem e_iRvd {wa : WA} {R : List D → En → Prop} : iRvd wa env R = wa env fun ds e1 => match ds with
  | [.obj _ sh xs] => isSeq sh = true ∧ R (D.frzL xs).reverse e1
  | _ => False := rfl
@[simp ↓] theorem e_mIx2 {wm : WM} {wi : WE} {R : Nat → D → (D → D) → Prop} : mIx2 wm wi env R = wm env fun i d' u => wi env fun k _ => asI k fun kk => match d' with
  | .obj true .lst xs => ∃ j x, L2.ixN xs.length kk = some j ∧ xs[j]? = some x ∧ R i x fun y => u (.lst true (xs.set j y))
  | .tup xs => ∃ j x, L2.ixN xs.length kk = some j ∧ xs[j]? = some x ∧ R i x fun y => u (.tup (xs.set j y))
  | _ => False := rfl
theorem listT_of {o : Bool} {kvs : List (List Key × V)} {R : D → Prop} (h : R (.lst true (kvs.map fun p => keyT p.1))) : rdListT [dctD o kvs] R := ⟨o, kvs, rfl, h⟩
end
end PL

namespace LAW_K01
open PySem L2 PL BAGA TXTS TL
theorem draw_ok {b : D} {many : Int} {R : D → En → Prop} (h : Bag b) (hm : 0 < many) (hm2 : many < 2 ^ 80)
    (k : ∀ v b', Bag b' → 0 ≤ v → v < many → R (.int v) [some b', some (.int many)]) : F_law_draw [b, .int many] R := BAGA.draw_ok h hm hm2 k
theorem bag_ok {ns : List Int} {R : D → En → Prop} (hl : ns.length ≤ 63) (k : ∀ b, Bag b → R b [some (.obj false .sq (dI ns))]) : F_law_bag [.obj false .sq (dI ns)] R := BAGA.bag_ok hl k
theorem ground_ok {b : D} {R : D → En → Prop} (h : Bag b) (k : ∀ r ds b', Bag b' → HouseI r ds 10 24 → R (houseD r ds) [some b', some (.int 10), some (.int 24)]) : F_law_ground [b, .int 10, .int 24] R := BAGA.ground_ok h k
theorem fold_num (i : Int) : Str.ofString i.repr = num i := rfl
theorem number_ok {i : Int} {R : D → En → Prop} (h0 : 0 ≤ i) (h1 : i ≤ 10) (k : R (.int i) [some (.str (num i))]) : F_number_written [.str (num i)] R := by
  refine ⟨rfl, ?_⟩
  show wb_number_written [some (.str (num i)), none] _
  unfold wb_number_written
  have hl := len_num h0 h1
  have ht := tl_numS h0 h1
  have hd : ∀ c ∈ tl (num i), c ∈ tl (Str.ofString "0123456789") := by
    have : tl (Str.ofString "0123456789") = [48, 49, 50, 51, 52, 53, 54, 55, 56, 57] := by rw [tl_ofString]; rfl
    rw [ht, this]
    intro c hc
    split at hc <;> simp at hc ⊢ <;> omega
  simp
  refine ⟨by show _ ≤ 16777216; omega, ?_⟩
  have c1 : (num i).length ≠ 0 := by omega
  have c2 : ¬ 9 < ((num i).length : Int) := by omega
  have c3 : (1 : Int) ≤ ((num i).length : Int) := by omega
  simp [c1, c2]
  rw [if_pos c3]
  refine compD_ind (fun c => D.str ⟨#[c]⟩) (fun env => ∃ q, env = [some (.str (num i)), q]) (fun _ => none) (tl (num i)) [] _ (by show _ ≤ 16777216; rw [ht]; split <;> simp) ⟨none, rfl⟩ ?_ ?_
  · rintro c hc env ⟨q, rfl⟩ K kk
    simp
    refine niS_of ?_
    simp [hd c hc]
    exact kk _ ⟨_, rfl⟩
  · rintro env ⟨q, rfl⟩
    have e0 : tl (Str.ofString "0") = [48] := by rw [tl_ofString]; rfl
    have fin : rdIntS [D.sc (V.str (num i))] fun z => R z [some (.str (num i))] := by
      simp
      exact ⟨i, TXTS.int_num h0 h1, by omega, k⟩
    rw [show (tl (num i)).filterMap (fun _ => (none : Option D)) = [] from List.filterMap_eq_nil_iff.mpr fun _ _ => rfl]
    simp
    obtain ⟨c, hc, hc2⟩ : ∃ c, L2.atI (num i).cps.toList (0 : Int) = some c ∧ (c < 100) ∧ (c = 48 → i = 0) := by
      show ∃ c, L2.atI (tl (num i)) (0 : Int) = some c ∧ _
      rw [ht]
      by_cases e : i = 10
      · subst e; exact ⟨49, rfl, by decide, by decide⟩
      · rw [if_neg e]; exact ⟨48 + i.toNat, rfl, by omega, by omega⟩
    refine ⟨by show _ ≤ 16777216; omega, c, hc, ?_, ?_⟩
    · refine shpS (strOk_of _ fun x hx => ?_)
      have : x = c := by simpa using hx
      omega
    by_cases e : i = 0
    · subst e
      have ez : num 0 = Str.ofString "0" := rfl
      rw [ez] at fin ⊢
      split
      · refine ⟨shp_lit _, ?_⟩
        simp
        simpa using fin
      · simpa using fin
    · have : ¬ ((⟨#[c]⟩ : Str) = Str.ofString "0") := fun z => by
        have z := congrArg tl z
        rw [e0] at z
        have z : [c] = [48] := z
        simp at z
        exact e (hc2.2 z)
      rw [if_neg this]
      simpa using fin
theorem written_ok {r : Int} {ds : List (Int × Int)} {R : D → En → Prop} (h : HsI r ds) (k : R (.str (text r ds)) [some (houseD r ds)]) : F_written [houseD r ds] R := by
  refine ⟨rfl, ?_⟩
  show wb_written [some (houseD r ds), none, none, none, none] _
  unfold wb_written
  have h1 := h.r1
  have h2 := h.r2
  have l0 := len_num (i := r) (by omega) h2
  have l1 : (num r).length ≤ 2 := l0.2
  simp [houseD, emp_app, fold_num]
  refine ⟨by rw [len_rooms]; show 6 ≤ 16777216; omega, bits_small (by omega) h2, by rw [len_app, len_rooms]; show _ ≤ 16777216; omega, ?_⟩
  refine compD_map pairD ds (fun env => ∃ q3 q4, env = [some (D.tup [D.int r, D.lst false (doorsD ds)]), some (D.sc (V.int r)), some (D.obj false Sh.lst (doorsD ds)), q3, q4]) (fun p => D.str (row p)) (by have := h.len; show _ ≤ 16777216; omega) ⟨none, none, rfl⟩ ?_ ?_
  · rintro x hx env ⟨q3, q4, rfl⟩ K kk
    have hx := h.ok x hx
    have la := len_num (i := x.1) (by omega) (by omega)
    have lb := len_num (i := x.2) (by omega) (by omega)
    simp [pairD, emp_app, fold_num]
    refine ⟨?_, bits_small (by omega) (by omega), ?_, ?_, bits_small (by omega) (by omega), ?_, ?_⟩
    · rw [len_door]; show 5 ≤ 16777216; omega
    · rw [len_app, len_door]; show _ ≤ 16777216; omega
    · rw [len_app, len_app, len_door, len_sp]; show _ ≤ 16777216; omega
    · rw [len_app, len_app, len_app, len_door, len_sp]; show _ ≤ 16777216; omega
    · exact kk _ ⟨_, _, rfl⟩
  · rintro env ⟨q3, q4, rfl⟩
    have hl := h.len
    refine ⟨fzL_map (fun _ => rfl) ds, by rw [List.length_map]; show _ ≤ 16777216; omega, .lst, rows r ds, ⟨rfl, ?_⟩, rfl, ?_, ?_⟩
    · show _ = D.str (lineR r) :: (ds.map row).map D.str
      rw [List.map_map]; rfl
    · have hs : ∀ (l : List Str), (∀ x ∈ l, x.length ≤ 12) → (l.map (·.length)).sum ≤ 12 * l.length := by
        intro l
        induction l with
        | nil => intro _; simp
        | cons a l ih => intro hh; have := hh a (by simp); have := ih fun x hx => hh x (List.mem_cons_of_mem _ hx); simp; omega
      have := hs _ (rows_len h)
      have h3 : (rows r ds).length ≤ 25 := by simp [rows]; omega
      have := len_nl
      rw [len_nl]; omega
    · simp
      exact k
theorem spelt_ok {r : Int} {ds : List (Int × Int)} {R : D → En → Prop} (h : HsI r ds) (k : R (.str (text r ds)) [some (.int r), some (.lst false (doorsD ds))]) : F_law_spelt [.int r, .lst false (doorsD ds)] R := by
  refine ⟨rfl, ?_⟩
  show wb_law_spelt [some (.int r), some (.lst false (doorsD ds)), none, none, none] _
  unfold wb_law_spelt
  have h1 := h.r1
  have h2 := h.r2
  have l0 := len_num (i := r) (by omega) h2
  have e1 : Str.ofString "rooms " ++ Str.ofString r.repr = text r [] := text_nil.symm
  simp
  rw [e1]
  refine ⟨bits_small (by omega) h2, by rw [len_rooms]; show 6 + (num r).length ≤ 16777216; omega, ?_⟩
  refine loopD_all pairD ds (fun done env => ∃ q3 q4, env = [some (.int r), some (.lst false (doorsD ds)), some (.str (text r done)), q3, q4]) ⟨none, none, rfl⟩ ?_ ?_
  · rintro done x rest e env ⟨q3, q4, rfl⟩ K kk
    have hx := h.ok x (by rw [← e]; simp)
    have hl := text_len (r := r) (ds := done) ⟨h1, h2, by have := h.len; rw [← e] at this; simp at this; omega, fun p hp => h.ok p (by rw [← e]; simp [hp])⟩
    have la := len_num (i := x.1) (by omega) (by omega)
    have lb := len_num (i := x.2) (by omega) (by omega)
    simp [pairD, fold_num]
    refine ⟨?_, ?_, bits_small (by omega) (by omega), ?_, ?_, bits_small (by omega) (by omega), ?_, ?_⟩
    · rw [len_nl]; show _ ≤ 16777216; omega
    · rw [len_app, len_nl, len_door]; show _ ≤ 16777216; omega
    · rw [len_app, len_app, len_nl, len_door]; show _ ≤ 16777216; omega
    · rw [len_app, len_app, len_app, len_nl, len_door, len_sp]; show _ ≤ 16777216; omega
    · rw [len_app, len_app, len_app, len_app, len_nl, len_door, len_sp]; show _ ≤ 16777216; omega
    · have e2 : text r (done ++ [x]) = text r done ++ Str.ofString "\n" ++ Str.ofString "door " ++ num x.1 ++ Str.ofString " " ++ num x.2 := by
        rw [text_snoc]; simp only [row, app_assoc]
      rw [← e2]
      exact kk _ ⟨_, _, rfl⟩
  · rintro env ⟨q3, q4, rfl⟩
    simp
    exact k
theorem dIn_non {ns : List Int} {K : Bool → Prop} (k : K false) : dIn D.non (dI ns) K := by
  refine ⟨.non, ns.map V.int, rfl, by rw [List.map_map]; rfl, rfl, ?_, ?_⟩
  · rw [List.all_map]; exact List.all_eq_true.mpr fun _ _ => rfl
  · have : inV V.non (ns.map V.int) = false := by
      unfold inV
      rw [List.any_map, List.any_eq_false]
      intro x _
      show ¬ (_ = true)
      exact fun z => nomatch z
    rw [this]; exact k
theorem row_ok {x : Str} {w : String} {ns : List Int} {R : D → En → Prop} (hx : x.length ≤ 100) (e : Txt.split x sp = Str.ofString w :: ns.map num) (hn : ∀ n ∈ ns, 0 ≤ n ∧ n ≤ 10) (hl : ns.length ≤ 10)
    (k : R (.lst false (dI ns)) [some (.str x), some (.str (Str.ofString w))]) : F_row_read [.str x, .str (Str.ofString w)] R := by
  refine ⟨rfl, ?_⟩
  show wb_row_read [some (.str x), some (.str (Str.ofString w)), none, none, none, none] _
  unfold wb_row_read
  simp
  refine ⟨by rw [show Str.ofString " " = sp from rfl, len_sp]; decide, by show _ ≤ 16777216; omega, .lst, .str (Str.ofString w), ns.map fun n => V.str (num n), ⟨rfl, ?_⟩, rfl, ?_⟩
  · rw [show Str.ofString " " = sp from rfl, e, List.map_cons, List.map_map, List.map_map]; rfl
  have ez : (ns.map fun n => V.str (num n)).map D.sc = ns.map fun n => D.str (num n) := by rw [List.map_map]; rfl
  rw [ez, frzL_mapE (fun _ => rfl) ns, frzL_mapE (fun _ => rfl) ns]
  refine ⟨fzL_map (fun _ => rfl) ns, ?_⟩
  refine compD_map (fun n => D.str (num n)) ns (fun env => ∃ q, env = [some (.str x), some (.str (Str.ofString w)), some (.str (Str.ofString w)), some (.lst false (ns.map fun n => D.str (num n))), none, q]) (fun n => D.int n) (by show _ ≤ 16777216; omega) ⟨none, rfl⟩ ?_ ?_
  · rintro n hm env ⟨q, rfl⟩ K kk
    have := hn n hm
    simp
    refine number_ok this.1 this.2 ?_
    simp
    exact kk _ ⟨_, rfl⟩
  · rintro env ⟨q, rfl⟩
    rw [show ns.map (fun n => D.int n) = dI ns from rfl]
    simp
    exact dIn_non ⟨rfl, k⟩
theorem door_ok {r : Int} {p : Int × Int} {R : D → En → Prop} (h : 0 ≤ p.1 ∧ p.1 < r ∧ 0 ≤ p.2 ∧ p.2 < r ∧ p.1 ≠ p.2) (hr : r ≤ 10) (k : R (pairD p) [some (.str (row p)), some (.int r)]) : F_door_read [.str (row p), .int r] R := by
  refine ⟨rfl, ?_⟩
  show wb_door_read [some (.str (row p)), some (.int r), none] _
  unfold wb_door_read
  have hl := len_row (p := p) (by omega)
  simp
  refine row_ok (ns := [p.1, p.2]) (by omega) (split_row (by omega) (by omega)) (by simp; omega) (by simp) ?_
  simp
  refine ⟨h.2.2.2.2, rfl, [p.1, p.2], rfl, by simp, fun m hm _ => ?_⟩
  have : m < r := by
    simp at hm
    rcases hm with rfl | rfl <;> omega
  simp
  exact ⟨this, k⟩
theorem read_ok {r : Int} {ds : List (Int × Int)} {R : D → En → Prop} (h : HsI r ds) (k : R (.tup [.int r, .lst true (doorsD ds)]) [some (.str (text r ds))]) : F_read [.str (text r ds)] R := by
  refine ⟨rfl, ?_⟩
  show wb_read [some (.str (text r ds)), none, none, none, none] _
  unfold wb_read
  have h1 := h.r1
  have h2 := h.r2
  have hl := text_len h
  have hd := h.len
  simp
  refine ⟨by rw [show Str.ofString "\n" = nl from rfl, len_nl]; decide, by show _ ≤ 16777216; omega, .lst, .str (lineR r), ds.map fun p => V.str (row p), ⟨rfl, ?_⟩, rfl, ?_⟩
  · rw [show Str.ofString "\n" = nl from rfl, split_text h]
    unfold rows
    rw [List.map_cons, List.map_map, List.map_map]; rfl
  have ez : (ds.map fun p => V.str (row p)).map D.sc = ds.map fun p => D.str (row p) := by rw [List.map_map]; rfl
  rw [ez, frzL_mapE (fun _ => rfl) ds]
  have hlr := len_lineR (r := r) (by omega) h2
  refine row_ok (ns := [r]) (by omega) (split_lineR (by omega)) (by simp; omega) (by simp) ?_
  simp
  refine ⟨h1, h2, fzL_map (fun _ => rfl) ds, by omega, ?_⟩
  refine ⟨fzL_map (fun _ => rfl) ds, ?_⟩
  rw [frzL_mapE (fun _ => rfl) ds]
  refine compD_map (fun p => D.str (row p)) ds (fun env => ∃ q, env = [some (.str (text r ds)), some (.str (lineR r)), some (.lst false (ds.map fun p => D.str (row p))), some (.lst false [.int r]), q]) pairD (by show _ ≤ 16777216; omega) ⟨none, rfl⟩ ?_ ?_
  · rintro p hp env ⟨q, rfl⟩ K kk
    simp
    refine door_ok (h.ok p hp) h2 ?_
    simp
    exact kk _ ⟨_, rfl⟩
  · rintro env ⟨q, rfl⟩
    simp
    exact k
/-! alike -/
theorem alikeI {n : Nat} {x : Int} {R : D → En → Prop} (k : R (.bl true) [some (.int x), some (.int x)]) : F_law_alike (n + 1) [.int x, .int x] R := by
  refine ⟨rfl, ?_⟩
  show wb_law_alike _ n [some (.int x), some (.int x), none] _
  unfold wb_law_alike
  simp
  exact k
theorem alikeS {n : Nat} {x : Str} {R : D → En → Prop} (hx : PyData.strOk x = true) (k : R (.bl true) [some (.str x), some (.str x)]) : F_law_alike (n + 1) [.str x, .str x] R := by
  refine ⟨rfl, ?_⟩
  show wb_law_alike _ n [some (.str x), some (.str x), none] _
  unfold wb_law_alike
  have h := shpS hx
  simp [h]
  exact k
theorem alikeP {n : Nat} {p : Int × Int} {R : D → En → Prop} (k : R (.bl true) [some (pairD p), some (pairD p)]) : F_law_alike (n + 2) [pairD p, pairD p] R := by
  refine ⟨rfl, ?_⟩
  show wb_law_alike _ (n + 1) [some (.tup [.int p.1, .int p.2]), some (.tup [.int p.1, .int p.2]), none] _
  unfold wb_law_alike
  simp [rng, List.range_succ, compD]
  refine alikeI ?_
  simp
  refine alikeI ?_
  simp
  show rdAll [.obj true .lst ([true, true].map fun n => D.sc (V.bl n))] _
  rw [e_all]
  simp
  exact k
theorem alikeD {n : Nat} {ds : List (Int × Int)} {R : D → En → Prop} (hl : ds.length ≤ 1000) (k : R (.bl true) [some (.lst false (doorsD ds)), some (.lst false (doorsD ds))]) : F_law_alike (n + 3) [.lst false (doorsD ds), .lst false (doorsD ds)] R := by
  refine ⟨rfl, ?_⟩
  show wb_law_alike _ (n + 2) [some (.lst false (doorsD ds)), some (.lst false (doorsD ds)), none] _
  unfold wb_law_alike
  simp
  refine ⟨by omega, ?_⟩
  unfold rng
  refine compD_map _ (List.range ds.length) (fun env => ∃ q, env = [some (.lst false (doorsD ds)), some (.lst false (doorsD ds)), q]) (fun _ => .sc (.bl true)) (by show _ ≤ 16777216; simp; omega) ⟨none, rfl⟩ ?_ ?_
  · rintro i hi env ⟨q, rfl⟩ K kk
    have hi : i < ds.length := by simpa using hi
    have e := doors_get hi
    simp [e]
    refine alikeP ?_
    simp
    exact kk _ ⟨_, rfl⟩
  · rintro env ⟨q, rfl⟩
    rw [show (List.range ds.length).map (fun _ => D.sc (V.bl true)) = ((List.range ds.length).map fun _ => true).map fun n => D.sc (V.bl n) by rw [List.map_map]; rfl, e_all]
    simp
    rw [show ((List.range ds.length).all fun _ => true) = true from List.all_eq_true.mpr fun _ _ => rfl]
    exact k
theorem alikeH {n : Nat} {r : Int} {ds : List (Int × Int)} {R : D → En → Prop} (hl : ds.length ≤ 1000) (k : R (.bl true) [some (houseD r ds), some (houseD r ds)]) : F_law_alike (n + 4) [houseD r ds, houseD r ds] R := by
  refine ⟨rfl, ?_⟩
  show wb_law_alike _ (n + 3) [some (.tup [.int r, .lst false (doorsD ds)]), some (.tup [.int r, .lst false (doorsD ds)]), none] _
  unfold wb_law_alike
  simp [rng, List.range_succ, compD]
  refine alikeI ?_
  simp
  refine alikeD hl ?_
  simp
  show rdAll [.obj true .lst ([true, true].map fun n => D.sc (V.bl n))] _
  rw [e_all]
  simp
  exact k
/-! a house near another one -/
theorem otherwise_ok {b : D} {r : Int} {ds : List (Int × Int)} {R : D → En → Prop} (h : Bag b) (hh : HsI r ds) (k : ∀ s es b', Bag b' → HsI s es → R (houseD s es) [some b', some (houseD r ds)]) : F_law_otherwise [b, houseD r ds] R := by
  refine ⟨rfl, ?_⟩
  show wb_law_otherwise [some b, some (houseD r ds), none, none, none, none, none] _
  unfold wb_law_otherwise
  have h1 := hh.r1
  have h2 := hh.r2
  have hl := hh.len
  have hok := hh.ok
  simp [houseD]
  refine draw_ok h (by decide) (by decide) fun w b h w0 w1 => ?_
  simp
  refine draw_ok h (by omega) (by omega) fun at_ b h a0 a1 => ?_
  simp
  have dapp : ∀ a b : List (Int × Int), doorsD a ++ doorsD b = doorsD (a ++ b) := fun a b => (List.map_append ..).symm
  have cd : ∀ lo hi, cutD (doorsD ds) lo hi = doorsD (cutD ds lo hi) := fun lo hi => cutD_map pairD ds lo hi
  have cl : ∀ lo hi, (cutD ds lo hi).length ≤ ds.length := fun lo hi => cutD_len ds lo hi
  have cm : ∀ lo hi p, p ∈ cutD ds lo hi → p ∈ ds := fun lo hi p hp => cutD_mem hp
  have ch1 : (at_ = 0 ∧ ds.length = 0) ∨ at_ < ds.length := by omega
  have sI : ∀ k : Nat, HT.sIx ds.length k (some at_) = min at_.toNat ds.length := fun k => by
    unfold HT.sIx; simp; omega
  have l1 : (cutD ds none (some at_)).length ≤ at_.toNat := by
    unfold cutD; rw [List.length_take]; rw [sI]; omega
  have l2 : (cutD ds (some at_) none).length ≤ ds.length - at_.toNat := by
    unfold cutD; rw [List.length_take, List.length_drop, sI]; omega
  have sI2 : ∀ k : Nat, HT.sIx ds.length k (some (at_ + 1)) = min (at_.toNat + 1) ds.length := fun k => by
    show (if at_ + 1 < 0 then _ else _) = _
    rw [if_neg (by omega)]; omega
  have l3 : (cutD ds (some (at_ + 1)) none).length ≤ ds.length - at_.toNat - 1 := by
    unfold cutD; rw [List.length_take, List.length_drop, sI2]; omega
  have l4 : (cutD ds (some at_) (some (at_ + 1))).length ≤ min 1 ds.length := by
    unfold cutD; rw [List.length_take, List.length_drop, sI, sI2]; omega
  rw [cd, cd]
  split
  · simp [dapp]
    refine ⟨by show _ ≤ 16777216; omega, k r _ b h ⟨h1, h2, by simp; omega, fun p hp => ?_⟩⟩
    rcases List.mem_append.mp hp with hp | hp <;> exact hok p (cm _ _ p hp)
  split
  · rw [cd, frzL_doors]
    refine compD_map pairD _ (fun env => ∃ q, env = [some b, some (D.tup [D.int r, D.lst false (doorsD ds)]), some (D.sc (V.int r)),
          some (D.obj false Sh.lst (doorsD ds)), some (D.sc (V.int w)), some (D.sc (V.int at_)), q]) (fun p => pairD (p.2, p.1)) (by have := cl (some at_) (some (at_ + 1)); show _ ≤ 16777216; omega) ⟨none, rfl⟩ ?_ ?_
    · rintro p hp env ⟨q, rfl⟩ K kk
      simp [pairD]
      exact kk _ ⟨_, rfl⟩
    · rintro env ⟨q, rfl⟩
      rw [show (cutD ds (some at_) (some (at_ + 1))).map (fun p => pairD (p.2, p.1)) = doorsD ((cutD ds (some at_) (some (at_ + 1))).map fun p => (p.2, p.1)) by unfold doorsD; rw [List.map_map]; rfl]
      simp [cd, dapp]
      refine ⟨by show _ ≤ 16777216; omega, by show _ ≤ 16777216; omega, k r _ b h ⟨h1, h2, by simp; omega, fun p hp => ?_⟩⟩
      rcases List.mem_append.mp hp with hp | hp
      · exact hok p (cm _ _ p hp)
      · rcases List.mem_append.mp hp with hp | hp
        · obtain ⟨q, hq, rfl⟩ := List.mem_map.mp hp
          have := hok q (cm _ _ q hq)
          exact ⟨this.2.2.1, this.2.2.2.1, this.1, this.2.1, fun z => this.2.2.2.2 z.symm⟩
        · exact hok p (cm _ _ p hp)
  split
  · simp [cd, dapp]
    refine ⟨by show _ ≤ 16777216; omega, k r _ b h ⟨h1, h2, by simp; omega, fun p hp => ?_⟩⟩
    rcases List.mem_append.mp hp with hp | hp <;> exact hok p (cm _ _ p hp)
  · refine k _ ds b h ⟨by split <;> omega, by split <;> omega, hl, fun p hp => ?_⟩
    have := hok p hp
    split <;> refine ⟨?_, ?_, ?_, ?_, ?_⟩ <;> omega
/-! what the law asks -/
theorem eqv_pair (p q : Int × Int) : PyData.eqv (pairD p).py (pairD q).py = decide (p = q) := by
  show (PyData.eqv (.int p.1) (.int q.1) && (PyData.eqv (.int p.2) (.int q.2) && true)) = _
  rw [show PyData.eqv (.int p.1) (.int q.1) = decide (p.1 = q.1) from Bool.beq_eq_decide_eq .., show PyData.eqv (.int p.2) (.int q.2) = decide (p.2 = q.2) from Bool.beq_eq_decide_eq ..]
  rw [show (decide (p = q)) = decide (p.1 = q.1 ∧ p.2 = q.2) from decide_eq_decide.mpr Prod.ext_iff]
  by_cases h1 : p.1 = q.1 <;> by_cases h2 : p.2 = q.2 <;> simp [h1, h2]
theorem eqv_pairs : ∀ ds es : List (Int × Int), PyData.eqvAll (D.pyL (doorsD ds)) (D.pyL (doorsD es)) = decide (ds = es)
  | [], [] => rfl
  | [], _ :: _ => rfl
  | _ :: _, [] => rfl
  | p :: ds, q :: es => by
    show (PyData.eqv (pairD p).py (pairD q).py && PyData.eqvAll (D.pyL (doorsD ds)) (D.pyL (doorsD es))) = _
    rw [eqv_pair, eqv_pairs ds es]
    by_cases h1 : p = q <;> by_cases h2 : ds = es <;> simp [h1, h2]
theorem deq_house (r s : Int) (ds es : List (Int × Int)) : deq (houseD r ds) (houseD s es) = decide (r = s ∧ ds = es) := by
  show (PyData.eqv (.int r) (.int s) && (PyData.eqvAll (D.pyL (doorsD ds)) (D.pyL (doorsD es)) && true)) = _
  rw [show PyData.eqv (.int r) (.int s) = decide (r = s) from Bool.beq_eq_decide_eq .., eqv_pairs]
  by_cases h1 : r = s <;> by_cases h2 : ds = es <;> simp [h1, h2]
theorem ly_house (r : Int) (ds : List (Int × Int)) : Ly (houseD r ds) 3 := .tup (.cons .int (.cons (ly_doors ds) .nil))
theorem shp_house (r : Int) (ds : List (Int × Int)) : (houseD r ds).shp = true := (ly_house r ds).shp (by decide)
theorem right_ok {r : Int} {ds : List (Int × Int)} {R : D → En → Prop} (h : HsI r ds) (k : R (.bl true) [some (houseD r ds)]) : F_law_right [houseD r ds] R := by
  refine ⟨rfl, ?_⟩
  show wb_law_right [some (houseD r ds), none, none, none, none, none] _
  unfold wb_law_right
  have hl := h.len
  simp [houseD]
  refine spelt_ok h ?_
  simp
  refine written_ok h ?_
  simp
  refine alikeS strOk_text ?_
  simp
  refine written_ok h ?_
  simp
  refine alikeS strOk_text ?_
  simp
  refine ⟨shp_house r ds, ?_⟩
  rw [show deq (D.tup [D.sc (V.int r), D.obj false Sh.lst (doorsD ds)]) (D.tup [D.int r, D.lst false (doorsD ds)]) = true from (ly_house r ds).deq_self, if_pos rfl]
  refine read_ok h ?_
  simp
  refine alikeH (by omega) ?_
  simp
  refine ⟨by show _ < 16777216; omega, ?_⟩
  refine read_ok h ?_
  simp
  refine alikeH (by omega) ?_
  simp
  refine read_ok h ?_
  simp
  refine written_ok h ?_
  simp
  exact k
theorem law_ok : LawOk 63 F_law := by
  intro ns hl
  refine ⟨rfl, ?_⟩
  show wb_law [some (.obj false .sq (dI ns)), none, none, none, none] _
  unfold wb_law
  simp
  refine bag_ok hl fun b h => ?_
  simp
  unfold rng
  refine loopD_all _ _ (fun _ env => ∃ b q2 q3 q4, Bag b ∧ env = [some (.obj false .sq (dI ns)), some b, q2, q3, q4]) ⟨b, _, _, _, h, rfl⟩ ?_ ?_
  · rintro done x rest e env ⟨b, q2, q3, q4, h, rfl⟩ K kk
    simp
    refine ground_ok h fun r ds b h hh => ?_
    have hs : HsI r ds := ⟨hh.r1, hh.r2, by have := hh.len; omega, hh.ok⟩
    simp
    refine otherwise_ok h hs fun s es b h hs2 => ?_
    simp
    refine right_ok hs ?_
    simp
    refine right_ok hs2 ?_
    simp
    refine written_ok hs ?_
    simp
    refine written_ok hs2 ?_
    simp
    refine ⟨shp_house r ds, shp_house s es, ?_, kk _ ⟨_, _, _, _, h, rfl⟩⟩
    rw [deq_house]
    by_cases e : r = s ∧ ds = es
    · obtain ⟨rfl, rfl⟩ := e; simp
    · have : ¬ text r ds = text s es := fun z => e (text_inj hs hs2 z)
      simp [this, e]
  · rintro env ⟨b, q2, q3, q4, h, rfl⟩
    simp
end LAW_K01


open PySem PySem.W PyProof.Rows in
set_option maxRecDepth 100000 in
set_option maxHeartbeats 0 in
theorem PySem.Challenge.cw_bothdoors_k01_houses_as_texts_holds : PySem.Challenge.rw_bothdoors_k01_houses_as_texts.Holds := by
  w_on; o_law; k_head; (case hw => w_witness2)
  k_fill
  refine LAW_K01.walk (l := PySem.Challenge.rw_bothdoors_k01_houses_as_texts) rfl rfl (fun w h Y => PySem.W.kIn_of Y) ?F LAW_K01.law_ok
  case F =>
    intro w mg fa h KX G hmg
    refine' LAW_K01.all_mk KX G hmg ?a1 ?l1 ?c1 ?k1 ?a2 ?l2 ?c2 ?k2 ?a3 ?l3 ?c3 ?k3 ?a4 ?l4 ?c4 ?k4 ?a5 ?l5 ?c5 ?k5 ?a6 ?l6 ?c6 ?k6 ?a7 ?l7 ?c7 ?k7 ?a8 ?l8 ?c8 ?k8 ?a9 ?l9 ?c9 ?k9 ?a10 ?l10 ?c10 ?k10 ?a11 ?l11 ?c11 ?k11 ?a12 ?l12 ?c12 ?k12 ?a13 ?l13 ?c13 ?k13 ?z_abs ?z_all ?z_bool ?z_int ?z_isinstance ?z_len ?z_list ?z_max ?z_min ?z_range ?z_str ?z_tuple ?d_MOST_ROOMS ?d_MOST_DOORS ?d_MOST_FIGURES
    (case a1 => k_is)
    (case l1 => k_is)
    (case c1 => k_is)
    (case k1 => k_is)
    (case a2 => k_is)
    (case l2 => k_is)
    (case c2 => k_is)
    (case k2 => k_is)
    (case a3 => k_is)
    (case l3 => k_is)
    (case c3 => k_is)
    (case k3 => k_is)
    (case a4 => k_is)
    (case l4 => k_is)
    (case c4 => k_is)
    (case k4 => k_is)
    (case a5 => k_is)
    (case l5 => k_is)
    (case c5 => k_is)
    (case k5 => k_is)
    (case a6 => k_is)
    (case l6 => k_is)
    (case c6 => k_is)
    (case k6 => k_is)
    (case a7 => k_is)
    (case l7 => k_is)
    (case c7 => k_is)
    (case k7 => k_is)
    (case a8 => k_is)
    (case l8 => k_is)
    (case c8 => k_is)
    (case k8 => k_is)
    (case a9 => k_is)
    (case l9 => k_is)
    (case c9 => k_is)
    (case k9 => k_is)
    (case a10 => k_is)
    (case l10 => k_is)
    (case c10 => k_is)
    (case k10 => k_is)
    (case a11 => k_is)
    (case l11 => k_is)
    (case c11 => k_is)
    (case k11 => k_is)
    (case a12 => k_is)
    (case l12 => k_is)
    (case c12 => k_is)
    (case k12 => k_is)
    (case a13 => k_is)
    (case l13 => k_is)
    (case c13 => k_is)
    (case k13 => k_is)
    (case z_abs => k_is)
    (case z_all => k_is)
    (case z_bool => k_is)
    (case z_int => k_is)
    (case z_isinstance => k_is)
    (case z_len => k_is)
    (case z_list => k_is)
    (case z_max => k_is)
    (case z_min => k_is)
    (case z_range => k_is)
    (case z_str => k_is)
    (case z_tuple => k_is)
    (case d_MOST_ROOMS => k_is)
    (case d_MOST_DOORS => k_is)
    (case d_MOST_FIGURES => k_is)

