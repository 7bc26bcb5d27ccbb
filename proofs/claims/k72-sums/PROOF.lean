import PyProof.Rows.All
import Wide.All
import OpenK.AllK
import Wide.FinOn
import HandS.ForMost
import HandS.ForExc
import HandS.SortInts
import HandS.Conv
import HandS.DictComp
import HandS.IsInst
import HandS.Gcd
import PySem.Builtin._heapq.W4All
import PySem.Challenge.RW_likemakeslike_k72_sums
set_option Elab.async false
set_option linter.all false
set_option maxRecDepth 100000
namespace Gx
open PySem L2

/-! ### heaps that grow -/
def Ex (H H' : Hp) : Prop := ∀ a o, H a = some o → H' a = some o
theorem Ex.refl (H : Hp) : Ex H H := fun _ _ h => h
theorem Ex.trans {H H1 H2 : Hp} (a : Ex H H1) (b : Ex H1 H2) : Ex H H2 := fun x o h => b x o (a x o h)
theorem Ex.new {H : Hp} {p : Addr} {o : HO} (h : H p = none) : Ex H (upd H p o) := fun a u e => by
  rw [upd_ne (ne_of_none e h)]
  exact e
/-- what F does not know may change -/
theorem Ex.mut {F H : Hp} {p : Addr} {o : HO} (e : Ex F H) (h : F p = none) : Ex F (upd H p o) := fun a u ha => by
  rw [upd_ne (ne_of_none ha h)]
  exact e a u ha
theorem Ex.free {F H : Hp} {p : Addr} (e : Ex F H) (h : H p = none) : F p = none := by
  cases q : F p with
  | none => rfl
  | some o =>
    rw [e p o q] at h
    cases h
theorem Ex.both {F H : Hp} {p : Addr} {o : HO} (e : Ex F H) (h : F p = none) : Ex (upd F p o) (upd H p o) := fun a u ha => by
  by_cases hb : a = p
  · subst hb
    rw [upd_same] at ha ⊢
    exact ha
  · rw [upd_ne hb] at ha ⊢
    exact e a u ha
/-- what stands at p is written down -/
theorem Ex.note {F H : Hp} {p : Addr} {o : HO} (e : Ex F H) (h : H p = some o) : Ex (upd F p o) H := fun a u ha => by
  by_cases hb : a = p
  · subst hb
    rw [upd_same] at ha
    rw [h]
    exact ha
  · rw [upd_ne hb] at ha
    exact e a u ha
/-- F is what is frozen, H what stands; both grow, and F by new things alone -/
structure Gr (F H F' H' : Hp) : Prop where
  f : Ex F F'
  fh : Ex F' H'
  h : Ex H H'
  nw : ∀ p o, F' p = some o → F p = none → H p = none
theorem Gr.refl {F H : Hp} (e : Ex F H) : Gr F H F H := ⟨Ex.refl F, e, Ex.refl H, fun p o h n => by rw [h] at n; cases n⟩
theorem Gr.trans {F H F1 H1 F2 H2 : Hp} (a : Gr F H F1 H1) (b : Gr F1 H1 F2 H2) : Gr F H F2 H2 := by
  refine ⟨a.f.trans b.f, b.fh, a.h.trans b.h, fun p o h n => ?_⟩
  cases q : F1 p with
  | none => exact a.h.free (b.nw p o h q)
  | some u => exact a.nw p u q n
theorem Gr.new {F H : Hp} {p : Addr} {o : HO} (e : Ex F H) (h : H p = none) : Gr F H (upd F p o) (upd H p o) := by
  refine ⟨Ex.new (e.free h), e.both (e.free h), Ex.new h, fun q u hq n => ?_⟩
  by_cases hb : q = p
  · subst hb
    exact h
  · rw [upd_ne hb, n] at hq
    cases hq
/-- new things that are not told -/
theorem Gr.hid {F H H' : Hp} (e : Ex F H) (h : Ex H H') : Gr F H F H' := ⟨Ex.refl F, e.trans h, h, fun p o hp n => by rw [hp] at n; cases n⟩
theorem Gr.own {F H F' H' : Hp} (g : Gr F H F' H') {p : Addr} {o : HO} (hp : H p = some o) (n : F p = none) : F' p = none := by
  cases q : F' p with
  | none => rfl
  | some u =>
    have := g.nw p u q n
    rw [hp] at this
    cases this

/-! ### data -/
inductive D where
  | non | bl (b : Bool) | int (i : Int) | str (x : Str) | scr (ns : List Int)
  | lst (ds : List D) | tup (ds : List D) | obj (c : Addr) (fs : List (Str × D)) | dic (kvs : List (Key × D)) | dit (kvs : List (List Key × D))
mutual
inductive Rp (K : PySem.W.Frag) (H : Hp) : V → D → Prop
  | non : Rp K H .non .non
  | bl (b : Bool) : Rp K H (.bl b) (.bl b)
  | int (i : Int) : Rp K H (.int i) (.int i)
  | str (x : Str) : Rp K H (.str x) (.str x)
  | scr {a : Addr} {ns : List Int} : SqL K H a (ns.map V.int) → ns.length ≤ sizeLine → Rp K H (.ref a) (.scr ns)
  | lst {a : Addr} {vs : List V} {ds : List D} : H a = some (.lst vs) → RpL K H vs ds → ds.length ≤ sizeLine → Rp K H (.ref a) (.lst ds)
  | tup {a : Addr} {vs : List V} {ds : List D} : SqT K H a vs → RpL K H vs ds → ds.length ≤ sizeLine → Rp K H (.ref a) (.tup ds)
  | obj {a dx c : Addr} {fs : List (Str × V)} {ds : List (Str × D)} : H a = some (.ins c dx fs) → RpF K H fs ds → Rp K H (.ref a) (.obj c ds)
  | dic {a : Addr} {vs : List (Key × V)} {ds : List (Key × D)} : H a = some (.dK vs) → RpK K H vs ds → Rp K H (.ref a) (.dic ds)
  | dit {a : Addr} {vs : List (List Key × V)} {ds : List (List Key × D)} : H a = some (.dT vs) → RpT K H vs ds → Rp K H (.ref a) (.dit ds)
inductive RpL (K : PySem.W.Frag) (H : Hp) : List V → List D → Prop
  | nil : RpL K H [] []
  | cons {v : V} {vs : List V} {d : D} {ds : List D} : Rp K H v d → RpL K H vs ds → RpL K H (v :: vs) (d :: ds)
inductive RpF (K : PySem.W.Frag) (H : Hp) : List (Str × V) → List (Str × D) → Prop
  | nil : RpF K H [] []
  | cons {f : Str} {v : V} {vs : List (Str × V)} {d : D} {ds : List (Str × D)} : Rp K H v d → RpF K H vs ds → RpF K H ((f, v) :: vs) ((f, d) :: ds)
inductive RpK (K : PySem.W.Frag) (H : Hp) : List (Key × V) → List (Key × D) → Prop
  | nil : RpK K H [] []
  | cons {f : Key} {v : V} {vs : List (Key × V)} {d : D} {ds : List (Key × D)} : Rp K H v d → RpK K H vs ds → RpK K H ((f, v) :: vs) ((f, d) :: ds)
inductive RpT (K : PySem.W.Frag) (H : Hp) : List (List Key × V) → List (List Key × D) → Prop
  | nil : RpT K H [] []
  | cons {f : List Key} {v : V} {vs : List (List Key × V)} {d : D} {ds : List (List Key × D)} : Rp K H v d → RpT K H vs ds → RpT K H ((f, v) :: vs) ((f, d) :: ds)
end
theorem sqL_ex {K : PySem.W.Frag} {H H' : Hp} {a : Addr} {xs : List V} (e : Ex H H') (h : SqL K H a xs) : SqL K H' a xs := by
  rcases h with (h | ⟨o, h⟩) | h
  · exact .inl (.inl (e _ _ h))
  · exact .inl (.inr ⟨o, e _ _ h⟩)
  · exact .inr h
theorem sqT_ex {K : PySem.W.Frag} {H H' : Hp} {a : Addr} {xs : List V} (e : Ex H H') (h : SqT K H a xs) : SqT K H' a xs := by
  rcases h with (h | ⟨o, h⟩) | h
  · exact .inl (.inl (e _ _ h))
  · exact .inl (.inr ⟨o, e _ _ h⟩)
  · exact .inr h
section
variable {K : PySem.W.Frag} {H H' : Hp}
mutual
theorem Rp.mono (e : Ex H H') : ∀ (d : D) (v : V), Rp K H v d → Rp K H' v d
  | .non, _, h => by cases h; exact .non
  | .bl b, _, h => by cases h; exact .bl b
  | .int i, _, h => by cases h; exact .int i
  | .str x, _, h => by cases h; exact .str x
  | .scr ns, _, h => by
    cases h with
    | scr q z => exact .scr (sqL_ex e q) z
  | .lst ds, _, h => by
    cases h with
    | lst q r z => exact .lst (e _ _ q) (RpL.mono e ds _ r) z
  | .tup ds, _, h => by
    cases h with
    | tup q r z => exact .tup (sqT_ex e q) (RpL.mono e ds _ r) z
  | .obj c fs, _, h => by
    cases h with
    | obj q r => exact .obj (e _ _ q) (RpF.mono e fs _ r)
  | .dic fs, _, h => by
    cases h with
    | dic q r => exact .dic (e _ _ q) (RpK.mono e fs _ r)
  | .dit fs, _, h => by
    cases h with
    | dit q r => exact .dit (e _ _ q) (RpT.mono e fs _ r)
theorem RpL.mono (e : Ex H H') : ∀ (ds : List D) (vs : List V), RpL K H vs ds → RpL K H' vs ds
  | [], _, h => by cases h; exact .nil
  | d :: ds, _, h => by
    cases h with
    | cons a b => exact .cons (Rp.mono e d _ a) (RpL.mono e ds _ b)
theorem RpF.mono (e : Ex H H') : ∀ (ds : List (Str × D)) (vs : List (Str × V)), RpF K H vs ds → RpF K H' vs ds
  | [], _, h => by cases h; exact .nil
  | (f, d) :: ds, _, h => by
    cases h with
    | cons a b => exact .cons (Rp.mono e d _ a) (RpF.mono e ds _ b)
theorem RpK.mono (e : Ex H H') : ∀ (ds : List (Key × D)) (vs : List (Key × V)), RpK K H vs ds → RpK K H' vs ds
  | [], _, h => by cases h; exact .nil
  | (f, d) :: ds, _, h => by
    cases h with
    | cons a b => exact .cons (Rp.mono e d _ a) (RpK.mono e ds _ b)
theorem RpT.mono (e : Ex H H') : ∀ (ds : List (List Key × D)) (vs : List (List Key × V)), RpT K H vs ds → RpT K H' vs ds
  | [], _, h => by cases h; exact .nil
  | (f, d) :: ds, _, h => by
    cases h with
    | cons a b => exact .cons (Rp.mono e d _ a) (RpT.mono e ds _ b)
end
theorem Rp.up {v : V} {d : D} (h : Rp K H v d) (e : Ex H H') : Rp K H' v d := Rp.mono e d v h
theorem RpL.up {vs : List V} {ds : List D} (h : RpL K H vs ds) (e : Ex H H') : RpL K H' vs ds := RpL.mono e ds vs h
theorem RpF.up {vs : List (Str × V)} {ds : List (Str × D)} (h : RpF K H vs ds) (e : Ex H H') : RpF K H' vs ds := RpF.mono e ds vs h
theorem RpK.up {vs : List (Key × V)} {ds : List (Key × D)} (h : RpK K H vs ds) (e : Ex H H') : RpK K H' vs ds := RpK.mono e ds vs h
theorem RpT.up {vs : List (List Key × V)} {ds : List (List Key × D)} (h : RpT K H vs ds) (e : Ex H H') : RpT K H' vs ds := RpT.mono e ds vs h
theorem Rp.int_ {v : V} {i : Int} (h : Rp K H v (.int i)) : v = .int i := by cases h; rfl
theorem Rp.bl_ {v : V} {i : Bool} (h : Rp K H v (.bl i)) : v = .bl i := by cases h; rfl
theorem Rp.str_ {v : V} {i : Str} (h : Rp K H v (.str i)) : v = .str i := by cases h; rfl
theorem Rp.non_ {v : V} (h : Rp K H v .non) : v = .non := by cases h; rfl
theorem Rp.scr_ {v : V} {ns : List Int} (h : Rp K H v (.scr ns)) : ∃ a, v = .ref a ∧ SqL K H a (ns.map V.int) ∧ ns.length ≤ sizeLine := by
  cases h with
  | scr q z => exact ⟨_, rfl, q, z⟩
theorem Rp.lst_ {v : V} {ds : List D} (h : Rp K H v (.lst ds)) : ∃ a vs, v = .ref a ∧ H a = some (.lst vs) ∧ RpL K H vs ds ∧ ds.length ≤ sizeLine := by
  cases h with
  | lst q r z => exact ⟨_, _, rfl, q, r, z⟩
theorem Rp.tup_ {v : V} {ds : List D} (h : Rp K H v (.tup ds)) : ∃ a vs, v = .ref a ∧ SqT K H a vs ∧ RpL K H vs ds ∧ ds.length ≤ sizeLine := by
  cases h with
  | tup q r z => exact ⟨_, _, rfl, q, r, z⟩
theorem RpL.len {vs : List V} {ds : List D} (h : RpL K H vs ds) : vs.length = ds.length := by
  induction ds generalizing vs with
  | nil => cases h; rfl
  | cons d ds ih =>
    cases h with
    | cons a b => simp [ih b]
theorem RpL.get {vs : List V} {ds : List D} {i : Nat} {v : V} (h : RpL K H vs ds) (e : vs[i]? = some v) : ∃ d, ds[i]? = some d ∧ Rp K H v d := by
  induction ds generalizing vs i with
  | nil => cases h; simp at e
  | cons d ds ih =>
    cases h with
    | cons a b =>
      cases i with
      | zero =>
        simp at e
        subst e
        exact ⟨d, rfl, a⟩
      | succ i =>
        obtain ⟨w, h1, h2⟩ := ih (i := i) b (by simpa using e)
        exact ⟨w, by simpa using h1, h2⟩
theorem RpL.got {vs : List V} {ds : List D} {i : Nat} {d : D} (h : RpL K H vs ds) (e : ds[i]? = some d) : ∃ v, vs[i]? = some v ∧ Rp K H v d := by
  induction ds generalizing vs i with
  | nil => simp at e
  | cons c ds ih =>
    cases h with
    | cons a b =>
      cases i with
      | zero =>
        simp at e
        subst e
        exact ⟨_, rfl, a⟩
      | succ i =>
        obtain ⟨w, h1, h2⟩ := ih (i := i) b (by simpa using e)
        exact ⟨w, by simpa using h1, h2⟩
theorem RpL.app {vs ws : List V} {ds es : List D} (h : RpL K H vs ds) (k : RpL K H ws es) : RpL K H (vs ++ ws) (ds ++ es) := by
  induction ds generalizing vs with
  | nil => cases h; exact k
  | cons d ds ih =>
    cases h with
    | cons a b => exact .cons a (ih b)
theorem RpL.snoc {vs : List V} {ds : List D} {v : V} {d : D} (h : RpL K H vs ds) (k : Rp K H v d) : RpL K H (vs ++ [v]) (ds ++ [d]) := h.app (.cons k .nil)
theorem RpL.set {vs : List V} {ds : List D} {v : V} {d : D} (h : RpL K H vs ds) (k : Rp K H v d) (j : Nat) : RpL K H (vs.set j v) (ds.set j d) := by
  induction ds generalizing vs j with
  | nil => cases h; exact .nil
  | cons c ds ih =>
    cases h with
    | cons a b =>
      cases j with
      | zero => exact .cons k b
      | succ j => exact .cons a (ih b j)
theorem RpL.drop {vs : List V} {ds : List D} (h : RpL K H vs ds) (n : Nat) : RpL K H (vs.drop n) (ds.drop n) := by
  induction ds generalizing vs n with
  | nil => cases h; simpa using RpL.nil
  | cons c ds ih =>
    cases h with
    | cons a b =>
      cases n with
      | zero => exact .cons a b
      | succ j => exact ih b j
theorem RpL.take {vs : List V} {ds : List D} (h : RpL K H vs ds) (n : Nat) : RpL K H (vs.take n) (ds.take n) := by
  induction ds generalizing vs n with
  | nil => cases h; simpa using RpL.nil
  | cons c ds ih =>
    cases h with
    | cons a b =>
      cases n with
      | zero => exact .nil
      | succ j => exact .cons a (ih b j)
theorem RpL.ints {ns : List Int} {vs : List V} (h : RpL K H vs (ns.map D.int)) : vs = ns.map V.int := by
  induction ns generalizing vs with
  | nil => cases h; rfl
  | cons n ns ih =>
    cases h with
    | cons a b => rw [a.int_, ih b]; rfl
theorem RpL.of_ints (ns : List Int) : RpL K H (ns.map V.int) (ns.map D.int) := by
  induction ns with
  | nil => exact .nil
  | cons n ns ih => exact .cons (.int n) ih
theorem RpL.strs {ns : List Str} {vs : List V} (h : RpL K H vs (ns.map D.str)) : vs = ns.map V.str := by
  induction ns generalizing vs with
  | nil => cases h; rfl
  | cons n ns ih =>
    cases h with
    | cons a b => rw [a.str_, ih b]; rfl
theorem RpL.of_strs (ns : List Str) : RpL K H (ns.map V.str) (ns.map D.str) := by
  induction ns with
  | nil => exact .nil
  | cons n ns ih => exact .cons (.str n) ih
end

/-! ### what evaluates to what -/
/-- the weakest readings -/
structure wE (X : Cx) (e : Expr) (σ : L2.St) (H : Hp) (Q : VK) : Prop where
  run : ∀ pins s, Inv X pins σ H s → wpAny (model X.prog X.w) X.A (eval e X.env) (EP X pins σ Q) X.xe s
structure wT (X : Cx) (e : Expr) (σ : L2.St) (H : Hp) (Q : Bool → Hp → Prop) : Prop where
  run : ∀ pins s, Inv X pins σ H s → wpAny (model X.prog X.w) X.A (isTrue e X.env (eval e X.env)) (TP X pins σ Q) X.xe s
structure wA (X : Cx) (es : List Expr) (σ : L2.St) (H : Hp) (Q : List V → Hp → Prop) : Prop where
  run : ∀ pos pins s, Inv X pins σ H s → wpAny (model X.prog X.w) X.A (spliced (backTo pos (starEach es X.env))) (AP X pins σ Q) X.xe s
structure wSs (X : Cx) (st : List Stmt) (D : Ends) (σ : L2.St) (H : Hp) : Prop where
  run : ∀ pins s, Inv X pins σ H s → wpAny (model X.prog X.w) X.A (execs st X.env) (SP X pins D) X.xe s
section
variable {X : Cx} {e : Expr} {es : List Expr} {st : List Stmt}
theorem pe (X : Cx) (e : Expr) : PE X e (wE X e) := ⟨fun pins s _ _ _ I h => h.run pins s I⟩
theorem pt (X : Cx) (e : Expr) : PT X e (wT X e) := ⟨fun pins s _ _ _ I h => h.run pins s I⟩
theorem pa (X : Cx) (es : List Expr) : PA X es (wA X es) := ⟨fun pos pins s _ _ _ I h => h.run pos pins s I⟩
theorem pss (X : Cx) (st : List Stmt) : PSs X st (wSs X st) := ⟨fun pins s _ _ _ I h => h.run pins s I⟩
theorem wE_of {t : TE} (p : PE X e t) {σ : L2.St} {H : Hp} {Q : VK} (h : t σ H Q) : wE X e σ H Q := ⟨fun pins s I => p.run pins s σ H Q I h⟩
theorem wT_of {t : TT} (p : PT X e t) {σ : L2.St} {H : Hp} {Q : Bool → Hp → Prop} (h : t σ H Q) : wT X e σ H Q := ⟨fun pins s I => p.run pins s σ H Q I h⟩
theorem wA_of {t : TA} (p : PA X es t) {σ : L2.St} {H : Hp} {Q : List V → Hp → Prop} (h : t σ H Q) : wA X es σ H Q := ⟨fun pos pins s I => p.run pos pins s σ H Q I h⟩
theorem wSs_of {t : TS} (p : PSs X st t) {σ : L2.St} {H : Hp} {D : Ends} (h : t D σ H) : wSs X st D σ H := ⟨fun pins s I => p.run pins s σ H D I h⟩
end
/-- te gives a value that stands for d, over what F knows; G: what may be read on the way -/
def EvR (K : PySem.W.Frag) (te : TE) (σ : L2.St) (F G : Hp) (d : D) : Prop :=
  ∀ F1 H1, Ex F F1 → Ex F1 H1 → Ex G H1 → ∀ Q : VK, (∀ v F2 H2, Gr F1 H1 F2 H2 → Rp K F2 v d → Q v H2) → te σ H1 Q
/-- te gives a list whose items stand for ds (the list itself need not be known to F) -/
def EvS (K : PySem.W.Frag) (te : TE) (σ : L2.St) (F G : Hp) (ds : List D) : Prop :=
  ∀ F1 H1, Ex F F1 → Ex F1 H1 → Ex G H1 → ∀ Q : VK, (∀ p vs F2 H2, Gr F1 H1 F2 H2 → H2 p = some (.lst vs) → RpL K F2 vs ds → ds.length ≤ sizeLine → Q (.ref p) H2) → te σ H1 Q
/-- te gives a new list, not yet known to F -/
def EvN (K : PySem.W.Frag) (te : TE) (σ : L2.St) (F G : Hp) (ds : List D) : Prop :=
  ∀ F1 H1, Ex F F1 → Ex F1 H1 → Ex G H1 → ∀ Q : VK, (∀ p vs F2 H2, Gr F1 H1 F2 H2 → H1 p = none → F2 p = none → H2 p = some (.lst vs) → RpL K F2 vs ds → ds.length ≤ sizeLine → Q (.ref p) H2) → te σ H1 Q
def EvB (tt : TT) (σ : L2.St) (F G : Hp) (b : Bool) : Prop :=
  ∀ F1 H1, Ex F F1 → Ex F1 H1 → Ex G H1 → ∀ Q : Bool → Hp → Prop, (∀ H2, Ex H1 H2 → Q b H2) → tt σ H1 Q
def EvA (K : PySem.W.Frag) (ta : TA) (σ : L2.St) (F G : Hp) (ds : List D) : Prop :=
  ∀ F1 H1, Ex F F1 → Ex F1 H1 → Ex G H1 → ∀ Q : List V → Hp → Prop, (∀ vs F2 H2, Gr F1 H1 F2 H2 → RpL K F2 vs ds → Q vs H2) → ta σ H1 Q
/-- an operation on values -/
def RvR (K : PySem.W.Frag) (r : R2) (da db d : D) : Prop :=
  ∀ F1 H1, Ex F1 H1 → ∀ x y, Rp K F1 x da → Rp K F1 y db → ∀ Q : VK, (∀ v F2 H2, Gr F1 H1 F2 H2 → Rp K F2 v d → Q v H2) → r x y H1 Q
abbrev EvX (X : Cx) (e : Expr) (σ : L2.St) (F G : Hp) (d : D) : Prop := EvR X.K (wE X e) σ F G d
abbrev EvXS (X : Cx) (e : Expr) (σ : L2.St) (F G : Hp) (ds : List D) : Prop := EvS X.K (wE X e) σ F G ds
abbrev EvXN (X : Cx) (e : Expr) (σ : L2.St) (F G : Hp) (ds : List D) : Prop := EvN X.K (wE X e) σ F G ds
abbrev EvXB (X : Cx) (e : Expr) (σ : L2.St) (F G : Hp) (b : Bool) : Prop := EvB (wT X e) σ F G b
abbrev EvXA (X : Cx) (es : List Expr) (σ : L2.St) (F G : Hp) (ds : List D) : Prop := EvA X.K (wA X es) σ F G ds
section
variable {K : PySem.W.Frag} {σ : L2.St} {F G : Hp} {ta tb te : TE} {tt uu : TT} {r : R2} {d da db : D} {ds : List D}
theorem EvR.to {d' : D} (h : EvR K te σ F G d) (e : d = d') : EvR K te σ F G d' := e ▸ h
theorem EvB.to {b b' : Bool} (h : EvB tt σ F G b) (e : b = b') : EvB tt σ F G b' := e ▸ h
theorem er_op (ha : EvR K ta σ F G da) (hb : EvR K tb σ F G db) (hr : RvR K r da db d) : EvR K (tOp r ta tb) σ F G d := fun F1 H1 e1 e2 e3 Q q =>
  ha F1 H1 e1 e2 e3 _ fun x F2 H2 g2 r2 => hb F2 H2 (e1.trans g2.f) g2.fh (e3.trans g2.h) _ fun y F3 H3 g3 r3 =>
    hr F3 H3 g3.fh x y (r2.up g3.f) r3 _ fun v F4 H4 g4 r4 => q v F4 H4 ((g2.trans g3).trans g4) r4
theorem er_var {i : Nat} {v : V} (h : σ[i]? = some (some v)) (r : Rp K F v d) : EvR K (tVar i) σ F G d := fun F1 H1 e1 e2 _ _ q => ⟨v, h, q v F1 H1 (Gr.refl e2) (r.up e1)⟩
theorem er_con {v : V} (r : Rp K (fun _ => none) v d) : EvR K (tC v) σ F G d := fun F1 H1 e1 e2 _ _ q => q v F1 H1 (Gr.refl e2) (r.up fun _ _ z => by cases z)
theorem rv_I0 {g : Int → Int → V} {i j : Int} (hd : Rp K (fun _ => none) (g i j) d) : RvR K (rI0 g) (.int i) (.int j) d := fun F1 H1 e x y rx ry Q q =>
  ⟨i, j, rx.int_, ry.int_, q _ F1 H1 (Gr.refl e) (hd.up fun _ _ z => by cases z)⟩
theorem rv_I {C : Int → Int → Prop} {g : Int → Int → V} {i j : Int} (hc : C i j) (hd : Rp K (fun _ => none) (g i j) d) : RvR K (rI C g) (.int i) (.int j) d := fun F1 H1 e x y rx ry Q q =>
  ⟨i, j, rx.int_, ry.int_, hc, q _ F1 H1 (Gr.refl e) (hd.up fun _ _ z => by cases z)⟩
theorem EvR.s (h : EvR K te σ F G (.lst ds)) : EvS K te σ F G ds := fun F1 H1 e1 e2 e3 Q q => h F1 H1 e1 e2 e3 _ fun v F2 H2 g r => by
  obtain ⟨a, vs, rfl, q1, q2, z⟩ := r.lst_
  exact q a vs F2 H2 g (g.fh _ _ q1) q2 z
theorem es_own {i : Nat} {p : Addr} {vs : List V} (h : σ[i]? = some (some (.ref p))) (hp : G p = some (.lst vs)) (r : RpL K F vs ds) (z : ds.length ≤ sizeLine) : EvS K (tVar i) σ F G ds := fun F1 H1 e1 e2 e3 _ q =>
  ⟨_, h, q p vs F1 H1 (Gr.refl e2) (e3 _ _ hp) (r.up e1) z⟩
/-- an owned object is frozen -/
theorem Gr.frz {F0 H0 F H : Hp} (g : Gr F0 H0 F H) {p : Addr} {o : HO} (h0 : H0 p = none) (n : F p = none) (hp : H p = some o) : Gr F0 H0 (upd F p o) H := by
  refine ⟨g.f.trans (Ex.new n), g.fh.note hp, g.h, fun q u hq z => ?_⟩
  by_cases hb : q = p
  · subst hb; exact h0
  · rw [upd_ne hb] at hq
    exact g.nw q u hq z
theorem EvN.toR (h : EvN K te σ F G ds) : EvR K te σ F G (.lst ds) := fun F1 H1 e1 e2 e3 Q q => h F1 H1 e1 e2 e3 _ fun p vs F2 H2 g n1 n2 hp r z =>
  q _ _ _ (g.frz n1 n2 hp) (.lst upd_same (r.up (Ex.new n2)) z)
theorem EvN.s (h : EvN K te σ F G ds) : EvS K te σ F G ds := h.toR.s
end
section
variable {X : Cx} {σ : L2.St} {F G : Hp} {e a b : Expr} {d da db : D} {ds : List D} {pos p : Pos}
theorem EvX.of {t : TE} (p : PE X e t) (h : EvR X.K t σ F G d) : EvX X e σ F G d := fun F1 H1 a b c Q q => wE_of p (h F1 H1 a b c Q q)
theorem EvXS.of {t : TE} (p : PE X e t) (h : EvS X.K t σ F G ds) : EvXS X e σ F G ds := fun F1 H1 a b c Q q => wE_of p (h F1 H1 a b c Q q)
theorem EvXN.of {t : TE} (p : PE X e t) (h : EvN X.K t σ F G ds) : EvXN X e σ F G ds := fun F1 H1 a b c Q q => wE_of p (h F1 H1 a b c Q q)
theorem EvXB.of {t : TT} {c : Bool} (p : PT X e t) (h : EvB t σ F G c) : EvXB X e σ F G c := fun F1 H1 a b c Q q => wT_of p (h F1 H1 a b c Q q)
theorem EvXA.of {t : TA} {es : List Expr} (p : PA X es t) (h : EvA X.K t σ F G ds) : EvXA X es σ F G ds := fun F1 H1 a b c Q q => wA_of p (h F1 H1 a b c Q q)

/-! ### names, constants, whole numbers -/
theorem x_var (i : Nat) {x : Str} {v : V} (r : Rp X.K F v d) (h : σ[i]? = some (some v) := by rfl) (hN : X.N[i]? = some x := by rfl) (hv : Vis X.env.scope x := by first | exact Or.inl rfl | exact Or.inr (Or.inl rfl) | exact Or.inr (Or.inr rfl))
    (hd : (x == ("__debug__" : Str)) = false := by decide) (hcd : (x == ("__classdict__" : Str)) = false := by decide) : EvX X (.Name x pos) σ F G d := EvX.of (pe_var hN hv hd hcd) (er_var h r)
theorem x_int {i : Int} {j} : EvX X (.Constant (.int i) j pos) σ F G (.int i) := EvX.of pe_int (er_con (.int i))
theorem x_bl {i : Bool} {j} : EvX X (.Constant (.bool i) j pos) σ F G (.bl i) := EvX.of pe_bl (er_con (.bl i))
theorem x_str {i : Str} {j} : EvX X (.Constant (.str i) j pos) σ F G (.str i) := EvX.of pe_str (er_con (.str i))
theorem x_non {j} : EvX X (.Constant .none j pos) σ F G .non := EvX.of pe_non (er_con .non)
theorem x_add {i j : Int} (ha : EvX X a σ F G (.int i)) (hb : EvX X b σ F G (.int j)) : EvX X (.BinOp a .Add b pos) σ F G (.int (i + j)) := EvX.of (pe_op op_add (pe X a) (pe X b)) (er_op ha hb (rv_I0 (.int _)))
theorem x_sub {i j : Int} (ha : EvX X a σ F G (.int i)) (hb : EvX X b σ F G (.int j)) : EvX X (.BinOp a .Sub b pos) σ F G (.int (i - j)) := EvX.of (pe_op op_sub (pe X a) (pe X b)) (er_op ha hb (rv_I0 (.int _)))
/-- a product, one side small -/
def mulO (i j : Int) : Option Int := if (-(2 ^ 64) < i ∧ i < 2 ^ 64) ∨ (-(2 ^ 64) < j ∧ j < 2 ^ 64) then some (i * j) else none
theorem mulO_eq {i j k : Int} (h : mulO i j = some k) : ((-(2 ^ 64) < i ∧ i < 2 ^ 64) ∨ (-(2 ^ 64) < j ∧ j < 2 ^ 64)) ∧ i * j = k := by
  unfold mulO at h
  split at h
  · exact ⟨by assumption, Option.some.inj h⟩
  · cases h
theorem x_mul {i j k : Int} (ha : EvX X a σ F G (.int i)) (hb : EvX X b σ F G (.int j)) (h : mulO i j = some k) : EvX X (.BinOp a .Mult b pos) σ F G (.int k) := by
  obtain ⟨h1, h2⟩ := mulO_eq h
  subst h2
  exact EvX.of (pe_op op_mul (pe X a) (pe X b)) (er_op ha hb (rv_I h1 (.int _)))
def modO (i j : Int) : Option Int := if j ≠ 0 then some (i.fmod j) else none
theorem x_mod {i j k : Int} (ha : EvX X a σ F G (.int i)) (hb : EvX X b σ F G (.int j)) (h : modO i j = some k) : EvX X (.BinOp a .Mod b pos) σ F G (.int k) := by
  unfold modO at h
  split at h
  · cases h
    exact EvX.of (pe_op op_modN (pe X a) (pe X b)) (er_op ha hb (rv_I (by assumption) (.int _)))
  · cases h
def divO (i j : Int) : Option Int := if j ≠ 0 ∧ j.natAbs < 1073741824 then some (i.fdiv j) else none
theorem x_div {i j k : Int} (ha : EvX X a σ F G (.int i)) (hb : EvX X b σ F G (.int j)) (h : divO i j = some k) : EvX X (.BinOp a .FloorDiv b pos) σ F G (.int k) := by
  unfold divO at h
  split at h
  · cases h
    exact EvX.of (pe_op op_fdivN (pe X a) (pe X b)) (er_op ha hb (rv_I (by assumption) (.int _)))
  · cases h
end
end Gx

namespace Gx
open PySem L2
section
variable {K : PySem.W.Frag} {σ : L2.St} {F G : Hp} {ta tb te : TE} {tt uu : TT} {r : R2} {d da db : D} {ds es : List D} {tr t : TA}
def tyD : D → Option String
  | .non => some "NoneType" | .bl _ => some "bool" | .int _ => some "int" | .str _ => some "str" | .scr _ => some "list"
  | .lst _ => some "list" | .tup _ => some "tuple" | .obj _ _ => none | .dic _ => some "dict" | .dit _ => some "dict"
theorem Rp.ty {H : Hp} {v : V} {T : String} (h : Rp K H v d) (e : tyD d = some T) : TyX K H v (.type T) := by
  cases h with
  | non => cases e; exact .base .non
  | bl b => cases e; exact .base (.bl b)
  | int b => cases e; exact .base (.int b)
  | str b => cases e; exact .base (.str b)
  | scr q _ =>
    cases e
    rcases q with (q | ⟨o, q⟩) | ⟨o, its, n, hk, hc, _⟩
    · exact .base (.lst q)
    · exact .base (.frz q)
    · exact .kList hk hc
  | lst q _ _ => cases e; exact .base (.lst q)
  | tup q _ _ =>
    cases e
    rcases q with (q | ⟨o, q⟩) | ⟨o, its, n, hk, hc, _⟩
    · exact .base (.tup q)
    · exact .fTuple q
    · exact .kTuple hk hc
  | obj q _ => cases e
  | dic q _ => cases e; exact .base (.dK q)
  | dit q _ => cases e; exact .base (.dT q)
/-! ### rows of expressions -/
theorem ea_nil : EvA K tNil σ F G [] := fun F1 H1 _ e2 _ _ q => q [] F1 H1 (Gr.refl e2) .nil
theorem ea_cons (h : EvR K te σ F G d) (hr : EvA K tr σ F G ds) : EvA K (tCons te tr) σ F G (d :: ds) := fun F1 H1 e1 e2 e3 _ q =>
  h F1 H1 e1 e2 e3 _ fun v F2 H2 g2 r2 => hr F2 H2 (e1.trans g2.f) g2.fh (e3.trans g2.h) _ fun vs F3 H3 g3 r3 => q _ F3 H3 (g2.trans g3) (.cons (r2.up g3.f) r3)
theorem er_tup (h : EvA K t σ F G ds) (hl : ds.length ≤ sizeLine) : EvR K (tTup t) σ F G (.tup ds) := fun F1 H1 e1 e2 e3 _ q =>
  h F1 H1 e1 e2 e3 _ fun vs F2 H2 g r => ⟨by rw [r.len]; exact hl, fun p hp => q _ _ _ (g.trans (Gr.new g.fh hp)) (.tup (SqT.of upd_same) (r.up (Ex.new (g.fh.free hp))) hl)⟩
theorem en_lst (h : EvA K t σ F G ds) (hl : ds.length ≤ sizeLine) : EvN K (tLst t) σ F G ds := fun F1 H1 e1 e2 e3 _ q =>
  h F1 H1 e1 e2 e3 _ fun vs F2 H2 g r => ⟨by rw [r.len]; exact hl, fun p hp => q p vs F2 _ (g.trans (Gr.hid g.fh (Ex.new hp))) (g.h.free hp) (g.fh.free hp) upd_same r hl⟩
/-- a call on values: what it gives -/
theorem er_cb {rr : List V → Hp → VK → Prop} (h : EvA K t σ F G ds) (hr : ∀ F1 H1, Ex F1 H1 → ∀ vs, RpL K F1 vs ds → ∀ Q : VK, (∀ v F2 H2, Gr F1 H1 F2 H2 → Rp K F2 v d → Q v H2) → rr vs H1 Q) : EvR K (tCB rr t) σ F G d := fun F1 H1 e1 e2 e3 Q q =>
  h F1 H1 e1 e2 e3 _ fun vs F2 H2 g r => hr F2 H2 g.fh vs r Q fun v F3 H3 g3 r3 => q v F3 H3 (g.trans g3) r3
/-- .. on one list -/
theorem er_cbS {rr : List V → Hp → VK → Prop} (h : EvS K te σ F G ds) (hr : ∀ F1 H1, Ex F1 H1 → ∀ p vs, H1 p = some (.lst vs) → RpL K F1 vs ds → ds.length ≤ sizeLine → ∀ Q : VK, (∀ v F2 H2, Gr F1 H1 F2 H2 → Rp K F2 v d → Q v H2) → rr [.ref p] H1 Q) : EvR K (tCB rr (tCons te tNil)) σ F G d := fun F1 H1 e1 e2 e3 Q q =>
  h F1 H1 e1 e2 e3 _ fun p vs F2 H2 g hp r z => hr F2 H2 g.fh p vs hp r z Q fun v F3 H3 g3 r3 => q v F3 H3 (g.trans g3) r3
/-- .. that gives a new list -/
theorem en_cbS {rr : List V → Hp → VK → Prop} {es : List D} (h : EvS K te σ F G ds) (hr : ∀ F1 H1, Ex F1 H1 → ∀ p vs, H1 p = some (.lst vs) → RpL K F1 vs ds → ds.length ≤ sizeLine → ∀ Q : VK, (∀ p vs, H1 p = none → RpL K F1 vs es → es.length ≤ sizeLine → Q (.ref p) (upd H1 p (.lst vs))) → rr [.ref p] H1 Q) : EvN K (tCB rr (tCons te tNil)) σ F G es := fun F1 H1 e1 e2 e3 Q q =>
  h F1 H1 e1 e2 e3 _ fun p vs F2 H2 g hp r z => hr F2 H2 g.fh p vs hp r z Q fun p' vs' hp' r' z' => q p' vs' F2 _ (g.trans (Gr.hid g.fh (Ex.new hp'))) (g.h.free hp') (g.fh.free hp') upd_same r' z'
theorem en_cb {rr : List V → Hp → VK → Prop} {es : List D} (h : EvA K t σ F G ds) (hr : ∀ F1 H1, Ex F1 H1 → ∀ vs, RpL K F1 vs ds → ∀ Q : VK, (∀ p vs, H1 p = none → RpL K F1 vs es → es.length ≤ sizeLine → Q (.ref p) (upd H1 p (.lst vs))) → rr vs H1 Q) : EvN K (tCB rr t) σ F G es := fun F1 H1 e1 e2 e3 Q q =>
  h F1 H1 e1 e2 e3 _ fun vs F2 H2 g r => hr F2 H2 g.fh vs r Q fun p' vs' hp' r' z' => q p' vs' F2 _ (g.trans (Gr.hid g.fh (Ex.new hp'))) (g.h.free hp') (g.fh.free hp') upd_same r' z'
theorem RpL.one {H : Hp} {vs : List V} (h : RpL K H vs [d]) : ∃ v, vs = [v] ∧ Rp K H v d := by
  cases h with
  | cons a b => cases b; exact ⟨_, rfl, a⟩
theorem RpL.two {H : Hp} {vs : List V} (h : RpL K H vs [da, db]) : ∃ v w, vs = [v, w] ∧ Rp K H v da ∧ Rp K H w db := by
  cases h with
  | cons a b =>
    obtain ⟨w, rfl, b1⟩ := b.one
    exact ⟨_, _, rfl, a, b1⟩
theorem er_len (h : EvS K te σ F G ds) : EvR K (tCB (fun xs H Q => ∃ p ys, xs = [.ref p] ∧ (SqL K H p ys ∨ SqT K H p ys) ∧ Q (.int ys.length) H) (tCons te tNil)) σ F G (.int (ds.length : Int)) :=
  er_cbS h fun F1 H1 e p vs hp r z Q q => ⟨p, vs, rfl, .inl (.of hp), by rw [r.len]; exact q _ F1 H1 (Gr.refl e) (.int _)⟩
theorem er_lenT (h : EvR K te σ F G (.tup ds)) : EvR K (tCB (fun xs H Q => ∃ p ys, xs = [.ref p] ∧ (SqL K H p ys ∨ SqT K H p ys) ∧ Q (.int ys.length) H) (tCons te tNil)) σ F G (.int (ds.length : Int)) :=
  er_cb (ea_cons h ea_nil) fun F1 H1 e vs r Q q => by
    obtain ⟨v, rfl, r1⟩ := r.one
    obtain ⟨a, ws, rfl, q1, q2, z⟩ := r1.tup_
    exact ⟨a, ws, rfl, .inr (sqT_ex e q1), by rw [q2.len]; exact q _ F1 H1 (Gr.refl e) (.int _)⟩
theorem er_lenC {ns : List Int} (h : EvR K te σ F G (.scr ns)) : EvR K (tCB (fun xs H Q => ∃ p ys, xs = [.ref p] ∧ (SqL K H p ys ∨ SqT K H p ys) ∧ Q (.int ys.length) H) (tCons te tNil)) σ F G (.int (ns.length : Int)) :=
  er_cb (ea_cons h ea_nil) fun F1 H1 e vs r Q q => by
    obtain ⟨v, rfl, r1⟩ := r.one
    obtain ⟨a, rfl, q1, z⟩ := r1.scr_
    exact ⟨a, _, rfl, .inl (sqL_ex e q1), by rw [List.length_map]; exact q _ F1 H1 (Gr.refl e) (.int _)⟩
theorem atI_rp {H : Hp} {vs : List V} {i : Int} (r : RpL K H vs ds) (h : atI ds i = some d) : ∃ v, atI vs i = some v ∧ Rp K H v d := by
  unfold atI at h ⊢
  rw [r.len]
  cases e : ixN ds.length i with
  | none => rw [e] at h; cases h
  | some j =>
    rw [e] at h
    obtain ⟨v, h1, h2⟩ := r.got (i := j) (by simpa using h)
    exact ⟨v, by simpa using h1, h2⟩
theorem er_ix {i : Int} (ha : EvS K ta σ F G ds) (hb : EvR K tb σ F G (.int i)) (h : atI ds i = some d) : EvR K (tOp (rIxL K) ta tb) σ F G d := fun F1 H1 e1 e2 e3 Q q =>
  ha F1 H1 e1 e2 e3 _ fun p vs F2 H2 g2 hp r2 z2 => hb F2 H2 (e1.trans g2.f) g2.fh (e3.trans g2.h) _ fun y F3 H3 g3 r3 => by
    obtain ⟨v, h1, h2⟩ := atI_rp (r2.up g3.f) h
    exact ⟨p, vs, i, v, rfl, r3.int_, .of (g3.h _ _ hp), h1, q v F3 H3 (g2.trans g3) h2⟩
theorem er_ixT {i : Int} (ha : EvR K ta σ F G (.tup ds)) (hb : EvR K tb σ F G (.int i)) (h : atI ds i = some d) : EvR K (tOp (rIxT K) ta tb) σ F G d :=
  er_op ha hb fun F1 H1 e x y rx ry Q q => by
    obtain ⟨a, ws, rfl, q1, q2, z⟩ := rx.tup_
    obtain ⟨v, h1, h2⟩ := atI_rp q2 h
    exact ⟨a, ws, i, v, rfl, ry.int_, sqT_ex e q1, h1, q v F1 H1 (Gr.refl e) h2⟩
theorem er_ixC {i k : Int} {ns : List Int} (ha : EvR K ta σ F G (.scr ns)) (hb : EvR K tb σ F G (.int i)) (h : atI ns i = some k) : EvR K (tOp (rIxL K) ta tb) σ F G (.int k) :=
  er_op ha hb fun F1 H1 e x y rx ry Q q => by
    obtain ⟨a, rfl, q1, z⟩ := rx.scr_
    have h2 : atI (ns.map V.int) i = some (.int k) := by
      unfold atI at h ⊢
      rw [List.length_map]
      cases e : ixN ns.length i with
      | none => rw [e] at h; cases h
      | some j =>
        rw [e] at h
        have h : ns[j]? = some k := h
        show (ns.map V.int)[j]? = _
        rw [List.getElem?_map, h]
        rfl
    exact ⟨a, _, i, _, rfl, ry.int_, sqL_ex e q1, h2, q _ F1 H1 (Gr.refl e) (.int _)⟩
/-! ### tests -/
theorem eb_val {b : Bool} (h : EvR K te σ F G (.bl b)) : EvB (tB te) σ F G b := fun F1 H1 e1 e2 e3 Q q => h F1 H1 e1 e2 e3 _ fun v F2 H2 g r => ⟨b, r.bl_, q H2 g.h⟩
theorem eb_test {b : Bool} (h : EvR K te σ F G (.bl b)) : EvB (tTest te) σ F G b := fun F1 H1 e1 e2 e3 Q q => h F1 H1 e1 e2 e3 _ fun v F2 H2 g r => ⟨b, r.bl_, q H2 g.h⟩
theorem eb_and {a b : Bool} (h1 : EvB tt σ F G a) (h2 : a = true → EvB uu σ F G b) (h3 : a = false → b = false) : EvB (tAnd tt uu) σ F G b := fun F1 H1 e1 e2 e3 Q q => h1 F1 H1 e1 e2 e3 _ fun H2 g => by
  cases a with
  | true => exact h2 rfl F1 H2 e1 (e2.trans g) (e3.trans g) Q fun H3 g3 => q H3 (g.trans g3)
  | false =>
    rw [h3 rfl] at q
    exact q H2 g
theorem eb_or {a b : Bool} (h1 : EvB tt σ F G a) (h2 : a = false → EvB uu σ F G b) (h3 : a = true → b = true) : EvB (tOr tt uu) σ F G b := fun F1 H1 e1 e2 e3 Q q => h1 F1 H1 e1 e2 e3 _ fun H2 g => by
  cases a with
  | true =>
    rw [h3 rfl] at q
    exact q H2 g
  | false => exact h2 rfl F1 H2 e1 (e2.trans g) (e3.trans g) Q fun H3 g3 => q H3 (g.trans g3)
theorem eb_not {a : Bool} (h1 : EvB tt σ F G a) : EvB (tNot tt) σ F G (!a) := fun F1 H1 e1 e2 e3 Q q => h1 F1 H1 e1 e2 e3 _ q
theorem er_if {b : Bool} (hc : EvB tt σ F G b) (h1 : b = true → EvR K ta σ F G d) (h2 : b = false → EvR K tb σ F G d) : EvR K (tIf tt ta tb) σ F G d := fun F1 H1 e1 e2 e3 Q q => hc F1 H1 e1 e2 e3 _ fun H2 g => by
  cases b with
  | true => exact h1 rfl F1 H2 e1 (e2.trans g) (e3.trans g) Q fun v F3 H3 g3 r => q v F3 H3 ⟨g3.f, g3.fh, g.trans g3.h, fun p o hp n => g.free (g3.nw p o hp n)⟩ r
  | false => exact h2 rfl F1 H2 e1 (e2.trans g) (e3.trans g) Q fun v F3 H3 g3 r => q v F3 H3 ⟨g3.f, g3.fh, g.trans g3.h, fun p o hp n => g.free (g3.nw p o hp n)⟩ r
theorem er_andV {a b : Bool} (h1 : EvR K ta σ F G (.bl a)) (h2 : a = true → EvR K tb σ F G (.bl b)) (h3 : a = false → b = false) : EvR K (tAndV ta tb) σ F G (.bl b) := fun F1 H1 e1 e2 e3 Q q => h1 F1 H1 e1 e2 e3 _ fun v F2 H2 g r => ⟨a, r.bl_, by
  cases a with
  | true => exact h2 rfl F2 H2 (e1.trans g.f) g.fh (e3.trans g.h) Q fun v F3 H3 g3 r => q v F3 H3 (g.trans g3) r
  | false =>
    rw [h3 rfl] at q
    exact q _ F2 H2 g (.bl false)⟩
theorem er_orV {a b : Bool} (h1 : EvR K ta σ F G (.bl a)) (h2 : a = false → EvR K tb σ F G (.bl b)) (h3 : a = true → b = true) : EvR K (tOrV ta tb) σ F G (.bl b) := fun F1 H1 e1 e2 e3 Q q => h1 F1 H1 e1 e2 e3 _ fun v F2 H2 g r => ⟨a, r.bl_, by
  cases a with
  | false => exact h2 rfl F2 H2 (e1.trans g.f) g.fh (e3.trans g.h) Q fun v F3 H3 g3 r => q v F3 H3 (g.trans g3) r
  | true =>
    rw [h3 rfl] at q
    exact q _ F2 H2 g (.bl true)⟩
theorem er_notV {a : Bool} (h1 : EvR K ta σ F G (.bl a)) : EvR K (tNotV ta) σ F G (.bl (!a)) := fun F1 H1 e1 e2 e3 Q q => h1 F1 H1 e1 e2 e3 _ fun v F2 H2 g r => ⟨a, r.bl_, q _ F2 H2 g (.bl _)⟩
end

/-! ### the same over the text -/
section
variable {X : Cx} {σ : L2.St} {F G : Hp} {e a b c : Expr} {es : List Expr} {d da db : D} {ds : List D} {pos p : Pos}
theorem xa_nil : EvXA X [] σ F G [] := EvXA.of pa_nil ea_nil
theorem xa_cons (h : EvX X e σ F G d) (hr : EvXA X es σ F G ds) (hs : starEach (e :: es) X.env = (false, eval e X.env) :: starEach es X.env := by rfl) : EvXA X (e :: es) σ F G (d :: ds) :=
  EvXA.of (pa_cons (pe X e) (pa X es) hs) (ea_cons h hr)
theorem x_tup {k} (h : EvXA X es σ F G ds) (hl : ds.length ≤ sizeLine := by (simp only [List.length_map, List.length_cons, List.length_nil]; decide)) : EvX X (.Tuple es k pos) σ F G (.tup ds) := EvX.of (pe_tup (pa X es)) (er_tup h hl)
theorem n_lst (h : EvXA X es σ F G ds) (hl : ds.length ≤ sizeLine := by (simp only [List.length_map, List.length_cons, List.length_nil]; decide)) : EvXN X (.List es pos) σ F G ds := EvXN.of (pe_lst (pa X es)) (en_lst h hl)
def powO (i j : Int) : Option Int := if 0 ≤ j ∧ j ≤ 1000000 ∧ i.natAbs < 2 ^ 64 then some (i ^ j.toNat) else none
theorem x_pow {i j k : Int} (ha : EvX X a σ F G (.int i)) (hb : EvX X b σ F G (.int j)) (h : powO i j = some k) : EvX X (.BinOp a .Pow b pos) σ F G (.int k) := by
  unfold powO at h
  split at h
  · cases h
    exact EvX.of (pe_op op_pow (pe X a) (pe X b)) (er_op ha hb (rv_I (by assumption) (.int _)))
  · cases h
theorem x_neg {i : Int} (ha : EvX X a σ F G (.int i)) : EvX X (.UnaryOp .USub a pos) σ F G (.int (-i)) := EvX.of (pe_un un_neg (pe X a)) fun F1 H1 e1 e2 e3 Q q =>
  ha F1 H1 e1 e2 e3 _ fun v F2 H2 g r => ⟨i, r.int_, q _ F2 H2 g (.int _)⟩
section
variable {i j : Int}
theorem x_lt (ha : EvX X a σ F G (.int i)) (hb : EvX X b σ F G (.int j)) : EvX X (.Compare a [.Lt] [b] pos) σ F G (.bl (decide (i < j))) := EvX.of (pe_cmpR op_lt (pe X a) (pe X b) (nomark _)) (er_op ha hb (rv_I0 (.bl _)))
theorem x_le (ha : EvX X a σ F G (.int i)) (hb : EvX X b σ F G (.int j)) : EvX X (.Compare a [.LtE] [b] pos) σ F G (.bl (decide (i ≤ j))) := EvX.of (pe_cmpR op_le (pe X a) (pe X b) (nomark _)) (er_op ha hb (rv_I0 (.bl _)))
theorem x_gt (ha : EvX X a σ F G (.int i)) (hb : EvX X b σ F G (.int j)) : EvX X (.Compare a [.Gt] [b] pos) σ F G (.bl (decide (j < i))) := EvX.of (pe_cmpR op_gt (pe X a) (pe X b) (nomark _)) (er_op ha hb (rv_I0 (.bl _)))
theorem x_ge (ha : EvX X a σ F G (.int i)) (hb : EvX X b σ F G (.int j)) : EvX X (.Compare a [.GtE] [b] pos) σ F G (.bl (decide (j ≤ i))) := EvX.of (pe_cmpR op_ge (pe X a) (pe X b) (nomark _)) (er_op ha hb (rv_I0 (.bl _)))
theorem x_eqI (ha : EvX X a σ F G (.int i)) (hb : EvX X b σ F G (.int j)) : EvX X (.Compare a [.Eq] [b] pos) σ F G (.bl (decide (i = j))) := EvX.of (pe_cmpR op_eq (pe X a) (pe X b) (nomark _)) (er_op ha hb fun F1 H1 e x y rx ry Q q => by
  rw [rx.int_, ry.int_]
  exact ⟨rfl, by rw [show decide (V.int i = V.int j) = decide (i = j) by simp]; exact q _ F1 H1 (Gr.refl e) (.bl _)⟩)
theorem x_neI (ha : EvX X a σ F G (.int i)) (hb : EvX X b σ F G (.int j)) : EvX X (.Compare a [.NotEq] [b] pos) σ F G (.bl (!decide (i = j))) := EvX.of (pe_cmpR op_ne (pe X a) (pe X b) (nomark _)) (er_op ha hb fun F1 H1 e x y rx ry Q q => by
  rw [rx.int_, ry.int_]
  exact ⟨rfl, by rw [show decide (V.int i = V.int j) = decide (i = j) by simp]; exact q _ F1 H1 (Gr.refl e) (.bl _)⟩)
end
theorem x_eqS {i j : Str} (ha : EvX X a σ F G (.str i)) (hb : EvX X b σ F G (.str j)) : EvX X (.Compare a [.Eq] [b] pos) σ F G (.bl (decide (i = j))) := EvX.of (pe_cmpR op_eq (pe X a) (pe X b) (nomark _)) (er_op ha hb fun F1 H1 e x y rx ry Q q => by
  rw [rx.str_, ry.str_]
  exact ⟨rfl, by rw [show decide (V.str i = V.str j) = decide (i = j) by simp]; exact q _ F1 H1 (Gr.refl e) (.bl _)⟩)
theorem x_neS {i j : Str} (ha : EvX X a σ F G (.str i)) (hb : EvX X b σ F G (.str j)) : EvX X (.Compare a [.NotEq] [b] pos) σ F G (.bl (!decide (i = j))) := EvX.of (pe_cmpR op_ne (pe X a) (pe X b) (nomark _)) (er_op ha hb fun F1 H1 e x y rx ry Q q => by
  rw [rx.str_, ry.str_]
  exact ⟨rfl, by rw [show decide (V.str i = V.str j) = decide (i = j) by simp]; exact q _ F1 H1 (Gr.refl e) (.bl _)⟩)
def isNon : D → Bool
  | .non => true | _ => false
theorem Rp.isNon {K : PySem.W.Frag} {H : Hp} {v : V} (h : Rp K H v d) : decide (v = .non) = isNon d := by
  cases h <;> first | rfl | (simp [Gx.isNon])
theorem x_isN {j p2} (ha : EvX X a σ F G d) : EvX X (.Compare a [.Is] [.Constant .none j p2] pos) σ F G (.bl (isNon d)) := EvX.of (pe_cmp (pc_isN (pe X a)) (nobehind _ (by decide) (by decide))) fun F1 H1 e1 e2 e3 Q q =>
  ha F1 H1 e1 e2 e3 _ fun v F2 H2 g r => by
    rw [r.isNon]
    exact q _ F2 H2 g (.bl _)
theorem x_notN {j p2} (ha : EvX X a σ F G d) : EvX X (.Compare a [.IsNot] [.Constant .none j p2] pos) σ F G (.bl (!isNon d)) := EvX.of (pe_cmp (pc_notN (pe X a)) (nobehind _ (by decide) (by decide))) fun F1 H1 e1 e2 e3 Q q =>
  ha F1 H1 e1 e2 e3 _ fun v F2 H2 g r => by
    rw [r.isNon]
    exact q _ F2 H2 g (.bl _)
/-! calls of built-ins -/
section
variable {x : Str}
theorem x_len (h : EvXS X e σ F G ds) (hm : X.mg "len" = none) (hg : Gl X "len" := by rfl) (hs : starEach [e] X.env = (false, eval e X.env) :: starEach [] X.env := by rfl) (hpl : (backTo pos (starEach [] X.env)).any (·.1) = false := by rfl) :
    EvX X (.Call (.Name "len" p) [e] [] pos) σ F G (.int (ds.length : Int)) := EvX.of (pe_callB call_len_seq hg hm PySem.boot_len (pa_cons (pe X e) pa_nil hs) (by decide) (by decide) hs hpl) (er_len h)
theorem x_lenT (h : EvX X e σ F G (.tup ds)) (hm : X.mg "len" = none) (hg : Gl X "len" := by rfl) (hs : starEach [e] X.env = (false, eval e X.env) :: starEach [] X.env := by rfl) (hpl : (backTo pos (starEach [] X.env)).any (·.1) = false := by rfl) :
    EvX X (.Call (.Name "len" p) [e] [] pos) σ F G (.int (ds.length : Int)) := EvX.of (pe_callB call_len_seq hg hm PySem.boot_len (pa_cons (pe X e) pa_nil hs) (by decide) (by decide) hs hpl) (er_lenT h)
theorem x_lenC {ns : List Int} (h : EvX X e σ F G (.scr ns)) (hm : X.mg "len" = none) (hg : Gl X "len" := by rfl) (hs : starEach [e] X.env = (false, eval e X.env) :: starEach [] X.env := by rfl) (hpl : (backTo pos (starEach [] X.env)).any (·.1) = false := by rfl) :
    EvX X (.Call (.Name "len" p) [e] [] pos) σ F G (.int (ns.length : Int)) := EvX.of (pe_callB call_len_seq hg hm PySem.boot_len (pa_cons (pe X e) pa_nil hs) (by decide) (by decide) hs hpl) (er_lenC h)
theorem x_int1 {i : Int} (h : EvX X e σ F G (.int i)) (hm : X.mg "int" = none) (hg : Gl X "int" := by rfl) (hs : starEach [e] X.env = (false, eval e X.env) :: starEach [] X.env := by rfl) (hpl : (backTo pos (starEach [] X.env)).any (·.1) = false := by rfl) :
    EvX X (.Call (.Name "int" p) [e] [] pos) σ F G (.int i) := EvX.of (pe_callTy call_int1 hg hm PyProof.Rows.boot_int (pa_cons (pe X e) pa_nil hs) (by decide) (by decide) hs hpl) (er_cb (ea_cons h ea_nil) fun F1 H1 e vs r Q q => by
      obtain ⟨v, rfl, r1⟩ := r.one
      rw [r1.int_]
      exact .inl ⟨i, rfl, q _ F1 H1 (Gr.refl e) (.int _)⟩)
theorem x_intB {i : Bool} (h : EvX X e σ F G (.bl i)) (hm : X.mg "int" = none) (hg : Gl X "int" := by rfl) (hs : starEach [e] X.env = (false, eval e X.env) :: starEach [] X.env := by rfl) (hpl : (backTo pos (starEach [] X.env)).any (·.1) = false := by rfl) :
    EvX X (.Call (.Name "int" p) [e] [] pos) σ F G (.int (if i then 1 else 0)) := EvX.of (pe_callTy call_int1 hg hm PyProof.Rows.boot_int (pa_cons (pe X e) pa_nil hs) (by decide) (by decide) hs hpl) (er_cb (ea_cons h ea_nil) fun F1 H1 e vs r Q q => by
      obtain ⟨v, rfl, r1⟩ := r.one
      rw [r1.bl_]
      exact .inr ⟨i, rfl, q _ F1 H1 (Gr.refl e) (.int _)⟩)
theorem x_max2 {i j : Int} (ha : EvX X a σ F G (.int i)) (hb : EvX X b σ F G (.int j)) (hm : X.mg "max" = none) (hc : X.calm = true := by rfl) (hg : Gl X "max" := by rfl) (hs : starEach [a, b] X.env = (false, eval a X.env) :: starEach [b] X.env := by rfl) (hs2 : starEach [b] X.env = (false, eval b X.env) :: starEach [] X.env := by rfl)
    (hpl : (backTo pos (starEach [b] X.env)).any (·.1) = false := by rfl) : EvX X (.Call (.Name "max" p) [a, b] [] pos) σ F G (.int (if j > i then j else i)) :=
  EvX.of (pe_callB (call_max2 hc) hg hm PyProof.Rows.boot_max (pa_cons (pe X a) (pa_cons (pe X b) pa_nil hs2) hs) (by decide) (by decide) hs hpl) (er_cb (ea_cons ha (ea_cons hb ea_nil)) fun F1 H1 e vs r Q q => by
    obtain ⟨v, w, rfl, r1, r2⟩ := r.two
    rw [r1.int_, r2.int_]
    exact ⟨i, j, rfl, q _ F1 H1 (Gr.refl e) (.int _)⟩)
theorem x_min2 {i j : Int} (ha : EvX X a σ F G (.int i)) (hb : EvX X b σ F G (.int j)) (hm : X.mg "min" = none) (hc : X.calm = true := by rfl) (hg : Gl X "min" := by rfl) (hs : starEach [a, b] X.env = (false, eval a X.env) :: starEach [b] X.env := by rfl) (hs2 : starEach [b] X.env = (false, eval b X.env) :: starEach [] X.env := by rfl)
    (hpl : (backTo pos (starEach [b] X.env)).any (·.1) = false := by rfl) : EvX X (.Call (.Name "min" p) [a, b] [] pos) σ F G (.int (if j < i then j else i)) :=
  EvX.of (pe_callB (call_min2 hc) hg hm PyProof.Rows.boot_min (pa_cons (pe X a) (pa_cons (pe X b) pa_nil hs2) hs) (by decide) (by decide) hs hpl) (er_cb (ea_cons ha (ea_cons hb ea_nil)) fun F1 H1 e vs r Q q => by
    obtain ⟨v, w, rfl, r1, r2⟩ := r.two
    rw [r1.int_, r2.int_]
    exact ⟨i, j, rfl, q _ F1 H1 (Gr.refl e) (.int _)⟩)
theorem x_gcd {i j : Int} (ha : EvX X a σ F G (.int i)) (hb : EvX X b σ F G (.int j)) (hm : X.mg "gcd" = some (.builtin "math.gcd")) (hg : Gl X "gcd" := by rfl) (hs : starEach [a, b] X.env = (false, eval a X.env) :: starEach [b] X.env := by rfl) (hs2 : starEach [b] X.env = (false, eval b X.env) :: starEach [] X.env := by rfl)
    (hpl : (backTo pos (starEach [b] X.env)).any (·.1) = false := by rfl) : EvX X (.Call (.Name "gcd" p) [a, b] [] pos) σ F G (.int ((Nat.gcd i.natAbs j.natAbs : Nat) : Int)) :=
  EvX.of (pe_callBfun cr_gcd hg hm (pa_cons (pe X a) (pa_cons (pe X b) pa_nil hs2) hs) (by decide) hs hpl) (er_cb (ea_cons ha (ea_cons hb ea_nil)) fun F1 H1 e vs r Q q => by
    obtain ⟨v, w, rfl, r1, r2⟩ := r.two
    rw [r1.int_, r2.int_]
    exact ⟨i, j, rfl, q _ F1 H1 (Gr.refl e) (.int _)⟩)
/-- the greatest, the least of a list of whole numbers -/
def maxL : List Int → Option Int
  | [] => none
  | x :: r => some (r.foldl (fun m y => if m < y then y else m) x)
def minL : List Int → Option Int
  | [] => none
  | x :: r => some (r.foldl (fun m y => if y < m then y else m) x)
theorem foldl_max (r : List Int) : ∀ x : Int, (r.foldl (fun m y => if m < y then y else m) x = x ∨ r.foldl (fun m y => if m < y then y else m) x ∈ r) ∧ x ≤ r.foldl (fun m y => if m < y then y else m) x ∧ ∀ y ∈ r, y ≤ r.foldl (fun m y => if m < y then y else m) x := by
  induction r with
  | nil => intro x; simp
  | cons z r ih =>
    intro x
    obtain ⟨h1, h2, h3⟩ := ih (if x < z then z else x)
    simp only [List.foldl_cons]
    refine ⟨?_, ?_, fun y hy => ?_⟩
    · rcases h1 with h1 | h1
      · rw [h1]; split <;> simp
      · exact .inr (List.mem_cons_of_mem _ h1)
    · refine Int.le_trans ?_ h2; split <;> omega
    · rcases List.mem_cons.mp hy with rfl | hy
      · refine Int.le_trans ?_ h2; split <;> omega
      · exact h3 y hy
theorem foldl_min (r : List Int) : ∀ x : Int, (r.foldl (fun m y => if y < m then y else m) x = x ∨ r.foldl (fun m y => if y < m then y else m) x ∈ r) ∧ r.foldl (fun m y => if y < m then y else m) x ≤ x ∧ ∀ y ∈ r, r.foldl (fun m y => if y < m then y else m) x ≤ y := by
  induction r with
  | nil => intro x; simp
  | cons z r ih =>
    intro x
    obtain ⟨h1, h2, h3⟩ := ih (if z < x then z else x)
    simp only [List.foldl_cons]
    refine ⟨?_, ?_, fun y hy => ?_⟩
    · rcases h1 with h1 | h1
      · rw [h1]; split <;> simp
      · exact .inr (List.mem_cons_of_mem _ h1)
    · refine Int.le_trans h2 ?_; split <;> omega
    · rcases List.mem_cons.mp hy with rfl | hy
      · refine Int.le_trans h2 ?_; split <;> omega
      · exact h3 y hy
theorem maxL_is {ns : List Int} {m : Int} (h : maxL ns = some m) : m ∈ ns ∧ ∀ y ∈ ns, y ≤ m := by
  cases ns with
  | nil => cases h
  | cons x r =>
    cases h
    obtain ⟨h1, h2, h3⟩ := foldl_max r x
    refine ⟨by rcases h1 with h1 | h1 <;> simp [h1], fun y hy => ?_⟩
    rcases List.mem_cons.mp hy with rfl | hy
    · exact h2
    · exact h3 y hy
theorem minL_is {ns : List Int} {m : Int} (h : minL ns = some m) : m ∈ ns ∧ ∀ y ∈ ns, m ≤ y := by
  cases ns with
  | nil => cases h
  | cons x r =>
    cases h
    obtain ⟨h1, h2, h3⟩ := foldl_min r x
    refine ⟨by rcases h1 with h1 | h1 <;> simp [h1], fun y hy => ?_⟩
    rcases List.mem_cons.mp hy with rfl | hy
    · exact h2
    · exact h3 y hy
theorem x_maxL {ns : List Int} {m : Int} (h : EvXS X e σ F G (ns.map D.int)) (hq : maxL ns = some m) (hm : X.mg "max" = none) (hc : X.calm = true := by rfl) (hg : Gl X "max" := by rfl) (hs : starEach [e] X.env = (false, eval e X.env) :: starEach [] X.env := by rfl) (hpl : (backTo pos (starEach [] X.env)).any (·.1) = false := by rfl) :
    EvX X (.Call (.Name "max" p) [e] [] pos) σ F G (.int m) := EvX.of (pe_callB (cr_max hc) hg hm PyProof.Rows.boot_max (pa_cons (pe X e) pa_nil hs) (by decide) (by decide) hs hpl) (er_cbS h fun F1 H1 e p vs hp r z Q q => by
      obtain ⟨h1, h2⟩ := maxL_is hq
      refine ⟨p, ns, rfl, .of (by rw [hp, r.ints]), List.length_pos_of_mem h1, fun m' h3 h4 => ?_⟩
      have : m' = m := Int.le_antisymm (h2 m' h3) (h4 m h1)
      rw [this]
      exact q _ F1 H1 (Gr.refl e) (.int _))
theorem x_minL {ns : List Int} {m : Int} (h : EvXS X e σ F G (ns.map D.int)) (hq : minL ns = some m) (hm : X.mg "min" = none) (hc : X.calm = true := by rfl) (hg : Gl X "min" := by rfl) (hs : starEach [e] X.env = (false, eval e X.env) :: starEach [] X.env := by rfl) (hpl : (backTo pos (starEach [] X.env)).any (·.1) = false := by rfl) :
    EvX X (.Call (.Name "min" p) [e] [] pos) σ F G (.int m) := EvX.of (pe_callB (cr_min hc) hg hm PyProof.Rows.boot_min (pa_cons (pe X e) pa_nil hs) (by decide) (by decide) hs hpl) (er_cbS h fun F1 H1 e p vs hp r z Q q => by
      obtain ⟨h1, h2⟩ := minL_is hq
      refine ⟨p, ns, rfl, .of (by rw [hp, r.ints]), List.length_pos_of_mem h1, fun m' h3 h4 => ?_⟩
      have : m' = m := Int.le_antisymm (h4 m h1) (h2 m' h3)
      rw [this]
      exact q _ F1 H1 (Gr.refl e) (.int _))
theorem n_listOf (h : EvXS X e σ F G ds) (hm : X.mg "list" = none) (hg : Gl X "list" := by rfl) (hs : starEach [e] X.env = (false, eval e X.env) :: starEach [] X.env := by rfl) (hpl : (backTo pos (starEach [] X.env)).any (·.1) = false := by rfl) :
    EvXN X (.Call (.Name "list" p) [e] [] pos) σ F G ds := EvXN.of (pe_callTy call_list_of hg hm PyProof.Rows.boot_list (pa_cons (pe X e) pa_nil hs) (by decide) (by decide) hs hpl) (en_cbS h fun F1 H1 e p vs hp r z Q q =>
      ⟨p, vs, rfl, .inl (.of hp), fun l hl => q l vs hl r z⟩)
theorem n_listOfT (h : EvX X e σ F G (.tup ds)) (hm : X.mg "list" = none) (hg : Gl X "list" := by rfl) (hs : starEach [e] X.env = (false, eval e X.env) :: starEach [] X.env := by rfl) (hpl : (backTo pos (starEach [] X.env)).any (·.1) = false := by rfl) :
    EvXN X (.Call (.Name "list" p) [e] [] pos) σ F G ds := EvXN.of (pe_callTy call_list_of hg hm PyProof.Rows.boot_list (pa_cons (pe X e) pa_nil hs) (by decide) (by decide) hs hpl) (en_cb (ea_cons h ea_nil) fun F1 H1 e vs r Q q => by
      obtain ⟨v, rfl, r1⟩ := r.one
      obtain ⟨a, ws, rfl, q1, q2, z⟩ := r1.tup_
      exact ⟨a, ws, rfl, .inr (sqT_ex e q1), fun l hl => q l ws hl q2 z⟩)
theorem x_tupleOf (h : EvXS X e σ F G ds) (hm : X.mg "tuple" = none) (hg : Gl X "tuple" := by rfl) (hs : starEach [e] X.env = (false, eval e X.env) :: starEach [] X.env := by rfl) (hpl : (backTo pos (starEach [] X.env)).any (·.1) = false := by rfl) :
    EvX X (.Call (.Name "tuple" p) [e] [] pos) σ F G (.tup ds) := EvX.of (pe_callTy call_tuple_of hg hm PyProof.Rows.boot_tuple (pa_cons (pe X e) pa_nil hs) (by decide) (by decide) hs hpl) (er_cbS h fun F1 H1 e p vs hp r z Q q =>
      ⟨p, vs, rfl, .inl ⟨.of hp, fun l hl => q _ _ _ (Gr.new e hl) (.tup (SqT.of upd_same) (r.up (Ex.new (e.free hl))) z)⟩⟩)
theorem x_tupleOfT (h : EvX X e σ F G (.tup ds)) (hm : X.mg "tuple" = none) (hg : Gl X "tuple" := by rfl) (hs : starEach [e] X.env = (false, eval e X.env) :: starEach [] X.env := by rfl) (hpl : (backTo pos (starEach [] X.env)).any (·.1) = false := by rfl) :
    EvX X (.Call (.Name "tuple" p) [e] [] pos) σ F G (.tup ds) := EvX.of (pe_callTy call_tuple_of hg hm PyProof.Rows.boot_tuple (pa_cons (pe X e) pa_nil hs) (by decide) (by decide) hs hpl) (er_cb (ea_cons h ea_nil) fun F1 H1 e vs r Q q => by
      obtain ⟨v, rfl, r1⟩ := r.one
      obtain ⟨a, ws, rfl, q1, q2, z⟩ := r1.tup_
      exact ⟨a, ws, rfl, .inr ⟨sqT_ex e q1, q _ F1 H1 (Gr.refl e) (.tup q1 q2 z)⟩⟩)
/-- the one ascending list -/
def sortI (ns : List Int) : List Int := ns.mergeSort (fun a b => decide (a ≤ b))
theorem sortI_perm (ns : List Int) : (sortI ns).Perm ns := List.mergeSort_perm _ _
theorem sortI_sorted (ns : List Int) : (sortI ns).Pairwise (· ≤ ·) := by
  have := List.pairwise_mergeSort (le := fun a b : Int => decide (a ≤ b)) (fun a b c h1 h2 => by simp at *; omega) (fun a b => by simp; omega) ns
  exact this.imp fun h => by simpa using h
theorem sortI_uniq {ns ms : List Int} (hp : ms.Perm ns) (hs : ms.Pairwise (· ≤ ·)) : ms = sortI ns :=
  (hp.trans (sortI_perm ns).symm).eq_of_pairwise (fun a b _ _ h1 h2 => Int.le_antisymm h1 h2) hs (sortI_sorted ns)
theorem n_sortedI {ns : List Int} (h : EvXS X e σ F G (ns.map D.int)) (hm : X.mg "sorted" = none) (hg : Gl X "sorted" := by rfl) (hs : starEach [e] X.env = (false, eval e X.env) :: starEach [] X.env := by rfl) (hpl : (backTo pos (starEach [] X.env)).any (·.1) = false := by rfl) :
    EvXN X (.Call (.Name "sorted" p) [e] [] pos) σ F G ((sortI ns).map D.int) := EvXN.of (pe_callB cr_sortedI hg hm PyProof.Rows.boot_sorted (pa_cons (pe X e) pa_nil hs) (by decide) (by decide) hs hpl) (en_cbS h fun F1 H1 e p vs hp r z Q q =>
      ⟨p, ns, rfl, .of (by rw [hp, r.ints]), fun ns' l hpm hso hl => by
        rw [sortI_uniq hpm hso]
        exact q l _ hl (RpL.of_ints _) (by rw [List.length_map] at z ⊢; rw [(sortI_perm ns).length_eq]; exact z)⟩)
end
/-! subscripts -/
theorem x_ix {i : Int} (ha : EvXS X a σ F G ds) (hb : EvX X b σ F G (.int i)) (h : atI ds i = some d) (hp : PlainIx b := by exact fun _ _ => rfl) : EvX X (.Subscript a b pos) σ F G d := EvX.of (pe_ix ix_list (pe X a) (pe X b) hp) (er_ix ha hb h)
theorem x_ixT {i : Int} (ha : EvX X a σ F G (.tup ds)) (hb : EvX X b σ F G (.int i)) (h : atI ds i = some d) (hp : PlainIx b := by exact fun _ _ => rfl) : EvX X (.Subscript a b pos) σ F G d := EvX.of (pe_ix ix_tup (pe X a) (pe X b) hp) (er_ixT ha hb h)
theorem x_ixC {i k : Int} {ns : List Int} (ha : EvX X a σ F G (.scr ns)) (hb : EvX X b σ F G (.int i)) (h : atI ns i = some k) (hp : PlainIx b := by exact fun _ _ => rfl) : EvX X (.Subscript a b pos) σ F G (.int k) := EvX.of (pe_ix ix_list (pe X a) (pe X b) hp) (er_ixC ha hb h)
theorem atI_map {α β : Type} {f : α → β} {xs : List α} {i : Int} {x : α} (h : atI xs i = some x) : atI (xs.map f) i = some (f x) := by
  unfold atI at h ⊢
  rw [List.length_map]
  cases e : ixN xs.length i with
  | none => rw [e] at h; cases h
  | some j =>
    rw [e] at h
    have h : xs[j]? = some x := h
    show (xs.map f)[j]? = _
    rw [List.getElem?_map, h]
    rfl
/-! and, or, not, a if c else b -/
variable {u v : Bool}
theorem xb_val (h : EvX X e σ F G (.bl u)) (he : ∀ whole, isTrue e X.env whole = (do let v ← whole; standAt e.pos; holding [v] (truthy v)) := by intro _; rfl) : EvXB X e σ F G u := EvXB.of (pt_val (pe X e) he) (eb_val h)
theorem xb_lt {i j : Int} (ha : EvX X a σ F G (.int i)) (hb : EvX X b σ F G (.int j)) : EvXB X (.Compare a [.Lt] [b] pos) σ F G (decide (i < j)) := EvXB.of (pt_cmpR op_lt (pe X a) (pe X b) (nomark _)) (eb_test (er_op ha hb (rv_I0 (.bl _))))
theorem xb_le {i j : Int} (ha : EvX X a σ F G (.int i)) (hb : EvX X b σ F G (.int j)) : EvXB X (.Compare a [.LtE] [b] pos) σ F G (decide (i ≤ j)) := EvXB.of (pt_cmpR op_le (pe X a) (pe X b) (nomark _)) (eb_test (er_op ha hb (rv_I0 (.bl _))))
theorem xb_gt {i j : Int} (ha : EvX X a σ F G (.int i)) (hb : EvX X b σ F G (.int j)) : EvXB X (.Compare a [.Gt] [b] pos) σ F G (decide (j < i)) := EvXB.of (pt_cmpR op_gt (pe X a) (pe X b) (nomark _)) (eb_test (er_op ha hb (rv_I0 (.bl _))))
theorem xb_ge {i j : Int} (ha : EvX X a σ F G (.int i)) (hb : EvX X b σ F G (.int j)) : EvXB X (.Compare a [.GtE] [b] pos) σ F G (decide (j ≤ i)) := EvXB.of (pt_cmpR op_ge (pe X a) (pe X b) (nomark _)) (eb_test (er_op ha hb (rv_I0 (.bl _))))
end
end Gx

namespace Gx
open PySem L2

/-! ### plain functions that may fail -/
theorem bnd {α β : Type} {o : Option α} {k : α → Option β} {r : β} (h : o.bind k = some r) : ∃ a, o = some a ∧ k a = some r := by
  cases o with
  | none => cases h
  | some a => exact ⟨a, rfl, h⟩
theorem lt_ {α β : Type} {a : α} {k : α → Option β} {r : Option β} (h : (some a).bind k = r) : k a = r := h
/-- how a turn ends -/
inductive Fl (S ρ : Type) where
  | nx (s : S) | bk (s : S) | rt (r : ρ)
def forF {S α ρ : Type} (f : α → S → Option (Fl S ρ)) : List α → S → Option (Fl S ρ)
  | [], s => some (.nx s)
  | x :: xs, s => match f x s with
    | none => none
    | some (.nx s') => forF f xs s'
    | some (.bk s') => some (.nx s')
    | some (.rt r) => some (.rt r)
def whileF {S ρ : Type} (f : S → Option (Fl S ρ)) : Nat → S → Option (Fl S ρ)
  | 0, _ => none
  | n + 1, s => match f s with
    | none => none
    | some (.nx s') => whileF f n s'
    | some (.bk s') => some (.nx s')
    | some (.rt r) => some (.rt r)
/-- [.. for x in xs if ..] -/
def fmO {α β : Type} (f : α → Option (Option β)) : List α → Option (List β)
  | [] => some []
  | x :: xs => (f x).bind fun o => (fmO f xs).bind fun r => some (match o with | none => r | some b => b :: r)
theorem fmO_map {α β : Type} (g : α → β) (xs : List α) : fmO (fun x => some (some (g x))) xs = some (xs.map g) := by
  induction xs with
  | nil => rfl
  | cons x xs ih => simp [fmO, ih]

/-! ### statements -/
theorem wSs.mono {X : Cx} {st : List Stmt} {D D' : Ends} {σ : L2.St} {H : Hp} (h : wSs X st D σ H) (hn : ∀ σ H, D.nx σ H → D'.nx σ H) (hr : ∀ v H, D.rt v H → D'.rt v H) (hb : ∀ σ H, D.bk σ H → D'.bk σ H) (hc : ∀ σ H, D.ct σ H → D'.ct σ H) : wSs X st D' σ H := ⟨fun pins s I =>
  thn (h.run pins s I) fun f s' q => by
    cases f with
    | next => obtain ⟨σ', H', I', q⟩ := q; exact ⟨σ', H', I', hn _ _ q⟩
    | brk => obtain ⟨σ', H', I', q⟩ := q; exact ⟨σ', H', I', hb _ _ q⟩
    | cont => obtain ⟨σ', H', I', q⟩ := q; exact ⟨σ', H', I', hc _ _ q⟩
    | ret u => obtain ⟨v, σ', H', I', r, q⟩ := q; exact ⟨v, σ', H', I', r, hr _ _ q⟩⟩
theorem Gr.put {F0 H0 F H : Hp} (g : Gr F0 H0 F H) {p : Addr} {o : HO} (h0 : H0 p = none) (n : F p = none) : Gr F0 H0 F (upd H p o) := ⟨g.f, g.fh.mut n, g.h.mut h0, g.nw⟩
/-- an owned object is frozen -/
theorem Gr.go {F0 H0 F H F1 H1 : Hp} (g : Gr F0 H0 F H) (k : Gr F H F1 H1) : Gr F0 H0 F1 H1 := g.trans k
theorem Gr.hop {F0 H0 F H H1 : Hp} (g : Gr F0 H0 F H) (k : Ex H H1) : Gr F0 H0 F H1 := g.trans (Gr.hid g.fh k)
section
variable {X : Cx} {σ : L2.St} {F0 H0 F H : Hp} {e a b c : Expr} {es : List Expr} {d da db : D} {ds : List D} {pos p : Pos} {De : Ends} {rest A B body : List Stmt} {st : Stmt} {x : Str}
theorem s_nil (h : De.nx σ H) : wSs X [] De σ H := wSs_of pss_nil h
theorem s_cons {t : TS} (h1 : PS X st t) (h : t { De with nx := fun σ' H' => wSs X rest De σ' H' } σ H) : wSs X (st :: rest) De σ H := wSs_of (pss_cons h1 (pss X rest)) h
theorem s_pass (h : wSs X rest De σ H) : wSs X (.Pass pos :: rest) De σ H := s_cons ps_pass h
theorem s_brk (h : De.bk σ H) : wSs X (.Break pos :: rest) De σ H := s_cons ps_break h
theorem s_cont (h : De.ct σ H) : wSs X (.Continue pos :: rest) De σ H := s_cons ps_continue h
theorem s_ret (g0 : Gr F0 H0 F H) (he : EvX X e σ F H d) (k : ∀ v F' H', Gr F0 H0 F' H' → Rp X.K F' v d → De.rt v H') : wSs X (.Return (some e) pos :: rest) De σ H :=
  s_cons (ps_ret (pe X e)) (he F H (Ex.refl F) g0.fh (Ex.refl H) _ fun v F' H' g r => k v F' H' (g0.trans g) r)
theorem s_retN (k : De.rt .non H) : wSs X (.Return none pos :: rest) De σ H := s_cons ps_retN k
theorem s_asg (i : Nat) (nd : X.N.Nodup) (g0 : Gr F0 H0 F H) (he : EvX X e σ F H d) (k : ∀ v F' H', Gr F H F' H' → Gr F0 H0 F' H' → Rp X.K F' v d → wSs X rest De (σ.set i (some v)) H')
    (hi : X.N[i]? = some x := by rfl) (hx : Loc X.env.scope x := by first | exact Or.inl rfl | exact Or.inr rfl) (hs : swapsWith e (some (.Name x p)) pos.line X.env = pure false := by rfl) (hf : X.fn x = true ∨ X.env.scope.names.lookup x = some .local := by first | exact .inl rfl | exact .inr rfl) :
    wSs X (.Assign [.Name x p] e pos :: rest) De σ H :=
  s_cons (ps_set nd hi hx (pe X e) hs hf) (he F H (Ex.refl F) g0.fh (Ex.refl H) _ fun v F' H' g r => k v F' H' g (g0.trans g) r)
/-- values that are no objects -/
def flatD : D → Option V
  | .non => some .non | .bl b => some (.bl b) | .int i => some (.int i) | .str x => some (.str x) | _ => none
theorem Rp.flat {K : PySem.W.Frag} {H : Hp} {v w : V} (h : Rp K H v d) (e : flatD d = some w) : v = w := by
  cases h <;> first | (cases e; done) | (cases e; rfl)
/-- .. one whose value is no object: what is frozen stays -/
theorem s_asgF (i : Nat) {w : V} (nd : X.N.Nodup) (g0 : Gr F0 H0 F H) (he : EvX X e σ H H d) (k : ∀ H', Ex H H' → Gr F0 H0 F H' → wSs X rest De (σ.set i (some w)) H') (hw : flatD d = some w := by rfl)
    (hi : X.N[i]? = some x := by rfl) (hx : Loc X.env.scope x := by first | exact Or.inl rfl | exact Or.inr rfl) (hs : swapsWith e (some (.Name x p)) pos.line X.env = pure false := by rfl) (hf : X.fn x = true ∨ X.env.scope.names.lookup x = some .local := by first | exact .inl rfl | exact .inr rfl) :
    wSs X (.Assign [.Name x p] e pos :: rest) De σ H :=
  s_cons (ps_set nd hi hx (pe X e) hs hf) (he H H (Ex.refl H) (Ex.refl H) (Ex.refl H) _ fun v F' H' g r => by
    rw [r.flat hw]
    exact k H' g.h (g0.hop g.h))
/-- an if: what follows is shown in both ways -/
theorem s_if {b : Bool} (g0 : Gr F0 H0 F H) (hc : EvXB X c σ H H b) (h1 : b = true → ∀ H', Ex H H' → Gr F0 H0 F H' → wSs X A { De with nx := fun σ' H' => wSs X rest De σ' H' } σ H')
    (h2 : b = false → ∀ H', Ex H H' → Gr F0 H0 F H' → wSs X B { De with nx := fun σ' H' => wSs X rest De σ' H' } σ H') : wSs X (.If c A B pos :: rest) De σ H :=
  s_cons (ps_if (pt X c) (pss X A) (pss X B)) (hc H H (Ex.refl H) (Ex.refl H) (Ex.refl H) _ fun H' g => by
    cases b with
    | true => exact h1 rfl H' g (g0.hop g)
    | false => exact h2 rfl H' g (g0.hop g))
/-- .. by a word between -/
theorem s_ifj {b : Bool} (M : Hp → L2.St → Hp → Prop) (g0 : Gr F0 H0 F H) (hc : EvXB X c σ H H b) (h1 : b = true → ∀ H', Ex H H' → Gr F0 H0 F H' → wSs X A { De with nx := fun σ' H' => ∃ F', Ex F F' ∧ Gr F0 H0 F' H' ∧ M F' σ' H' } σ H')
    (h2 : b = false → ∀ H', Ex H H' → Gr F0 H0 F H' → wSs X B { De with nx := fun σ' H' => ∃ F', Ex F F' ∧ Gr F0 H0 F' H' ∧ M F' σ' H' } σ H') (k : ∀ F' σ' H', Ex F F' → Gr F0 H0 F' H' → M F' σ' H' → wSs X rest De σ' H') : wSs X (.If c A B pos :: rest) De σ H :=
  s_if g0 hc (fun hb H' e1 e2 => (h1 hb H' e1 e2).mono (fun σ' H' ⟨F', a1, a2, a3⟩ => k F' σ' H' a1 a2 a3) (fun _ _ z => z) (fun _ _ z => z) (fun _ _ z => z))
    (fun hb H' e1 e2 => (h2 hb H' e1 e2).mono (fun σ' H' ⟨F', a1, a2, a3⟩ => k F' σ' H' a1 a2 a3) (fun _ _ z => z) (fun _ _ z => z) (fun _ _ z => z))
theorem s_drop (g0 : Gr F0 H0 F H) (he : EvX X e σ H H d) (k : ∀ H', Ex H H' → Gr F0 H0 F H' → wSs X rest De σ H') (hs : swapsWith e none pos.line X.env = pure false := by rfl) : wSs X (.Expr e pos :: rest) De σ H :=
  s_cons (ps_expr (pe X e) hs) (he H H (Ex.refl H) (Ex.refl H) (Ex.refl H) _ fun v F' H' g r => k H' g.h (g0.hop g.h))
theorem s_augI (i : Nat) {m n : Int} (nd : X.N.Nodup) (g0 : Gr F0 H0 F H) (hv : σ[i]? = some (some (.int m))) (he : EvX X e σ H H (.int n)) (k : ∀ H', Ex H H' → Gr F0 H0 F H' → wSs X rest De (σ.set i (some (.int (m + n)))) H')
    (hi : X.N[i]? = some x := by rfl) (hx : Loc X.env.scope x := by first | exact Or.inl rfl | exact Or.inr rfl) (hf : X.fn x = true ∨ X.env.scope.names.lookup x = some .local := by first | exact .inl rfl | exact .inr rfl) : wSs X (.AugAssign (.Name x p) .Add e pos :: rest) De σ H :=
  s_cons (ps_aug nd hi hx (pe X e) ip_add hf) ⟨_, hv, he H H (Ex.refl H) (Ex.refl H) (Ex.refl H) _ fun v F' H' g r => by
    rw [r.int_]
    exact ⟨m, n, rfl, rfl, k H' g.h (g0.hop g.h)⟩⟩
end
end Gx

namespace Gx
open PySem L2
/-! ### objects of one's own -/
/-- what an object holds, told by F -/
inductive SpO (K : PySem.W.Frag) (F : Hp) : HO → D → Prop
  | lst {vs : List V} {ds : List D} : RpL K F vs ds → ds.length ≤ sizeLine → SpO K F (.lst vs) (.lst ds)
  | dic {vs : List (Key × V)} {ds : List (Key × D)} : RpK K F vs ds → SpO K F (.dK vs) (.dic ds)
  | dit {vs : List (List Key × V)} {ds : List (List Key × D)} : RpT K F vs ds → SpO K F (.dT vs) (.dit ds)
  | obj {C dx : Addr} {vs : List (Str × V)} {ds : List (Str × D)} : RpF K F vs ds → SpO K F (.ins C dx vs) (.obj C ds)
theorem SpO.up {K : PySem.W.Frag} {F F' : Hp} {o : HO} {d : D} (h : SpO K F o d) (e : Ex F F') : SpO K F' o d := by
  cases h with
  | lst r z => exact .lst (r.up e) z
  | dic r => exact .dic (r.up e)
  | dit r => exact .dit (r.up e)
  | obj r => exact .obj (r.up e)
structure OwnO (K : PySem.W.Frag) (H0 F H : Hp) (l : Addr) (d : D) : Prop where
  ex : ∃ o, H l = some o ∧ SpO K F o d
  n : F l = none
  n0 : H0 l = none
abbrev OwnL (K : PySem.W.Frag) (H0 F H : Hp) (l : Addr) (ds : List D) : Prop := OwnO K H0 F H l (.lst ds)
section
variable {K : PySem.W.Frag} {F0 H0 F H F' H' : Hp} {l m : Addr} {d : D} {ds : List D} {o : HO}
theorem OwnO.up (h : OwnO K H0 F H l d) (g : Gr F H F' H') : OwnO K H0 F' H' l d := by
  obtain ⟨o, h1, h2⟩ := h.ex
  exact ⟨⟨o, g.h _ _ h1, h2.up g.f⟩, g.own h1 h.n, h.n0⟩
theorem OwnO.hop (h : OwnO K H0 F H l d) (g : Ex H H') : OwnO K H0 F H' l d := by
  obtain ⟨o, h1, h2⟩ := h.ex
  exact ⟨⟨o, g _ _ h1, h2⟩, h.n, h.n0⟩
/-- another object is written -/
theorem OwnO.oth (h : OwnO K H0 F H l d) (ne : l ≠ m) : OwnO K H0 F (upd H m o) l d := by
  obtain ⟨u, h1, h2⟩ := h.ex
  exact ⟨⟨u, by rw [upd_ne ne]; exact h1, h2⟩, h.n, h.n0⟩
theorem SpO.rp (h : SpO K F o d) (hl : F l = some o) : Rp K F (.ref l) d := by
  cases h with
  | lst r z => exact .lst hl r z
  | dic r => exact .dic hl r
  | dit r => exact .dit hl r
  | obj r => exact .obj hl r
/-- it is frozen -/
theorem OwnO.frz (h : OwnO K H0 F H l d) (g0 : Gr F0 H0 F H) : ∃ F', Ex F F' ∧ Gr F0 H0 F' H ∧ Rp K F' (.ref l) d ∧ ∀ m e, m ≠ l → OwnO K H0 F H m e → OwnO K H0 F' H m e := by
  obtain ⟨o, h1, h2⟩ := h.ex
  refine ⟨upd F l o, Ex.new h.n, g0.frz h.n0 h.n h1, (h2.up (Ex.new h.n)).rp upd_same, fun m e ne q => ?_⟩
  obtain ⟨u, k1, k2⟩ := q.ex
  exact ⟨⟨u, k1, k2.up (Ex.new h.n)⟩, by rw [upd_ne ne]; exact q.n, q.n0⟩
/-- as it stands, over the whole heap -/
theorem OwnO.now (h : OwnO K H0 F H l d) (e : Ex F H) : Rp K H (.ref l) d := by
  obtain ⟨o, h1, h2⟩ := h.ex
  exact (h2.up e).rp h1
theorem OwnO.ne (h : OwnO K H0 F H l d) (hm : H m = none) : l ≠ m := by
  obtain ⟨o, h1, h2⟩ := h.ex
  exact ne_of_none h1 hm
theorem OwnO.lst (h : OwnO K H0 F H l (.lst ds)) : ∃ vs, H l = some (.lst vs) ∧ RpL K F vs ds ∧ ds.length ≤ sizeLine := by
  obtain ⟨o, h1, h2⟩ := h.ex
  cases h2 with
  | lst r z => exact ⟨_, h1, r, z⟩
theorem OwnO.mkL {vs : List V} (h1 : H l = some (.lst vs)) (h2 : RpL K F vs ds) (z : ds.length ≤ sizeLine) (n : F l = none) (n0 : H0 l = none) : OwnL K H0 F H l ds := ⟨⟨_, h1, .lst h2 z⟩, n, n0⟩
end
def appO (xs : List α) (x : α) : Option (List α) := if xs.length < sizeLine then some (xs ++ [x]) else none
def setO (xs : List α) (i : Int) (x : α) : Option (List α) := (ixN xs.length i).map fun j => xs.set j x
theorem appO_map {α β : Type} {f : α → β} {xs ys : List α} {x : α} (h : appO xs x = some ys) : appO (xs.map f) (f x) = some (ys.map f) := by
  unfold appO at h ⊢
  rw [List.length_map]
  split at h
  · cases h
    rw [if_pos (by assumption)]
    simp
  · cases h
theorem setO_map {α β : Type} {f : α → β} {xs ys : List α} {i : Int} {x : α} (h : setO xs i x = some ys) : setO (xs.map f) i (f x) = some (ys.map f) := by
  unfold setO at h ⊢
  rw [List.length_map]
  cases e : ixN xs.length i with
  | none => rw [e] at h; cases h
  | some j =>
    rw [e] at h
    cases h
    simp
section
variable {X : Cx} {σ : L2.St} {F0 H0 F H G : Hp} {e a b c : Expr} {es : List Expr} {d da db : D} {ds : List D} {pos p : Pos} {De : Ends} {rest A B body : List Stmt} {st : Stmt} {x : Str} {l : Addr}
/-- a name of a list of one's own is read -/
theorem xs_own (i : Nat) (ho : OwnL X.K H0 F G l ds) (h : σ[i]? = some (some (.ref l)) := by rfl) (hN : X.N[i]? = some x := by rfl) (hv : Vis X.env.scope x := by first | exact Or.inl rfl | exact Or.inr (Or.inl rfl) | exact Or.inr (Or.inr rfl))
    (hd : (x == ("__debug__" : Str)) = false := by decide) (hcd : (x == ("__classdict__" : Str)) = false := by decide) : EvXS X (.Name x pos) σ F G ds := by
  obtain ⟨vs, h1, h2, hz⟩ := ho.lst
  exact EvXS.of (pe_var hN hv hd hcd) (es_own h h1 h2 hz)
/-- name = a new list, kept as one's own -/
theorem s_asgN (i : Nat) (nd : X.N.Nodup) (g0 : Gr F0 H0 F H) (he : EvXN X e σ F H ds) (k : ∀ l F' H', Gr F H F' H' → Gr F0 H0 F' H' → H l = none → OwnL X.K H0 F' H' l ds → wSs X rest De (σ.set i (some (.ref l))) H')
    (hi : X.N[i]? = some x := by rfl) (hx : Loc X.env.scope x := by first | exact Or.inl rfl | exact Or.inr rfl) (hs : swapsWith e (some (.Name x p)) pos.line X.env = pure false := by rfl) (hf : X.fn x = true ∨ X.env.scope.names.lookup x = some .local := by first | exact .inl rfl | exact .inr rfl) :
    wSs X (.Assign [.Name x p] e pos :: rest) De σ H :=
  s_cons (ps_set nd hi hx (pe X e) hs hf) (he F H (Ex.refl F) g0.fh (Ex.refl H) _ fun l vs F' H' g n1 n2 hp r z => k l F' H' g (g0.trans g) n1 (.mkL hp r z n2 (g0.h.free n1)))
/-- xs.append(e), xs one's own: the items are told by F -/
theorem s_app (i : Nat) {es' : List D} {ap cp xp : Pos} (g0 : Gr F0 H0 F H) (ho : OwnL X.K H0 F H l ds) (he : EvX X e σ F H d) (hq : appO ds d = some es')
    (k : ∀ F' H', Ex F F' → Gr F0 H0 F' H' → OwnL X.K H0 F' H' l es' → (∀ m e, m ≠ l → OwnO X.K H0 F H m e → OwnO X.K H0 F' H' m e) → wSs X rest De σ H')
    (h : σ[i]? = some (some (.ref l)) := by rfl) (hN : X.N[i]? = some x := by rfl) (hv : Vis X.env.scope x := by first | exact Or.inl rfl | exact Or.inr (Or.inl rfl) | exact Or.inr (Or.inr rfl))
    (hd : (x == ("__debug__" : Str)) = false := by decide) (hcd : (x == ("__classdict__" : Str)) = false := by decide)
    (hse : starEach [e] X.env = (false, eval e X.env) :: starEach [] X.env := by rfl)
    (hbase : attributeBase (.Name x xp) "append" X.env (eval (.Name x xp) X.env) = eval (.Name x xp) X.env := by rfl)
    (hfew : ((backTo cp (starEach [e] X.env)).all (fun x => !x.1) && (backToKw cp (keywordEach [] X.env)).all (fun x => x.1.isSome) && decide (([e] : List Expr).length + ([] : List Keyword).length + (if ([] : List Keyword).isEmpty then 0 else 1) < 30)) = true := by rfl)
    (hline : (ap.endLine == cp.line) = true := by rfl) (hpl : (backTo cp (starEach [] X.env)).any (·.1) = false := by rfl)
    (hs : swapsWith (.Call (.Attribute (.Name x xp) "append" ap) [e] [] cp) none pos.line X.env = pure false := by rfl) :
    wSs X (.Expr (.Call (.Attribute (.Name x xp) "append" ap) [e] [] cp) pos :: rest) De σ H := by
  obtain ⟨vs, h1, h2, hz⟩ := ho.lst
  unfold appO at hq
  split at hq
  · cases hq
    refine s_cons (ps_expr (pe_bm PySem.F.plainAttrs_list PySem.F.slot_list_append PySem.F.type_list_append mt_append (pe_var hN hv hd hcd) (pa_cons (pe X e) pa_nil hse) hbase hfew hline hse hpl) hs) ?_
    refine ⟨_, h, .inl ⟨rfl, _, .of h1⟩, ?_⟩
    refine he F H (Ex.refl F) g0.fh (Ex.refl H) _ fun v F' H' g r => ?_
    have n' := g.own h1 ho.n
    refine ⟨l, vs, v, rfl, rfl, g.h _ _ h1, by rw [h2.len]; assumption, ?_⟩
    refine k F' _ g.f ((g0.trans g).put ho.n0 n') (.mkL upd_same ((h2.up g.f).snoc r) (by simp; omega) n' ho.n0) fun m es ne hm => (hm.up g).oth ne
  · cases hq
/-- xs[i] = e, xs one's own -/
theorem s_setI (i : Nat) {es' : List D} {n : Int} {xp : Pos} (g0 : Gr F0 H0 F H) (ho : OwnL X.K H0 F H l ds) (he : EvX X e σ F H d) (hi : EvX X b σ F H (.int n)) (hq : setO ds n d = some es')
    (k : ∀ F' H', Ex F F' → Gr F0 H0 F' H' → OwnL X.K H0 F' H' l es' → (∀ m e, m ≠ l → OwnO X.K H0 F H m e → OwnO X.K H0 F' H' m e) → wSs X rest De σ H')
    (h : σ[i]? = some (some (.ref l)) := by rfl) (hN : X.N[i]? = some x := by rfl) (hv : Vis X.env.scope x := by first | exact Or.inl rfl | exact Or.inr (Or.inl rfl) | exact Or.inr (Or.inr rfl))
    (hd : (x == ("__debug__" : Str)) = false := by decide) (hcd : (x == ("__classdict__" : Str)) = false := by decide)
    (hsub : ∀ v, assign (.Subscript (.Name x xp) b p) X.env v = (do
      let ov ← holding [v] (eval (.Name x xp) X.env)
      let iv ← holding [v, ov] (eval b X.env)
      standAt p
      holding [v, ov, iv] (setItem ov iv v)
      release [v, ov, iv] []) := by intro _; rfl)
    (hs1 : swapsWithSole [.Subscript (.Name x xp) b p] e pos.line X.env = pure false := by rfl) (hs2 : swappedStores [.Subscript (.Name x xp) b p] e X.env = pure none := by rfl) (hs3 : (assignEach [.Subscript (.Name x xp) b p] X.env).map (·.2) = [assign (.Subscript (.Name x xp) b p) X.env] := by rfl) :
    wSs X (.Assign [.Subscript (.Name x xp) b p] e pos :: rest) De σ H := by
  obtain ⟨vs, h1, h2, hz⟩ := ho.lst
  unfold setO at hq
  cases hj : ixN ds.length n with
  | none => rw [hj] at hq; cases hq
  | some j =>
    rw [hj] at hq
    cases hq
    refine s_cons (ps_asg (pe X e) (pg_sub (pe_var hN hv hd hcd) (pe X b) set_list hsub) hs1 hs2 hs3) ?_
    refine he F H (Ex.refl F) g0.fh (Ex.refl H) _ fun v F1 H1 g1 r1 => ?_
    refine ⟨_, h, ?_⟩
    refine hi F1 H1 g1.f g1.fh g1.h _ fun w F2 H2 g2 r2 => ?_
    have g := g1.trans g2
    have n' := g.own h1 ho.n
    refine ⟨l, vs, n, j, rfl, r2.int_, g.h _ _ h1, by rw [h2.len]; exact hj, ?_⟩
    refine k F2 _ g.f ((g0.trans g).put ho.n0 n') (.mkL upd_same ((h2.up g.f).set (r1.up g2.f) j) (by simp; exact hz) n' ho.n0) fun m es ne hm => (hm.up g).oth ne
end
end Gx

namespace Gx
open PySem L2 PySem.Spec PyProof.Rows
/-! ### loops -/
/-- how a loop's turn may end -/
abbrev TEn {S ρ : Type} (F0 H0 F' : Hp) (I : S → Hp → L2.St → Hp → Prop) (RT : ρ → V → Hp → Prop) (o1 : Fl S ρ) : Ends where
  nx := fun σ2 H2 => ∃ s' F2, o1 = .nx s' ∧ Ex F' F2 ∧ Gr F0 H0 F2 H2 ∧ I s' F2 σ2 H2
  ct := fun σ2 H2 => ∃ s' F2, o1 = .nx s' ∧ Ex F' F2 ∧ Gr F0 H0 F2 H2 ∧ I s' F2 σ2 H2
  bk := fun σ2 H2 => ∃ s' F2, o1 = .bk s' ∧ Ex F' F2 ∧ Gr F0 H0 F2 H2 ∧ I s' F2 σ2 H2
  rt := fun v H2 => ∃ r, o1 = .rt r ∧ RT r v H2
/-- the state ahead of the i-th turn -/
def Pre {α S ρ : Type} (F0 H0 F1 : Hp) (I : S → Hp → L2.St → Hp → Prop) (f : α → S → Option (Fl S ρ)) (xs : List α) (o : Fl S ρ) (i : Nat) (σ' : L2.St) (H' : Hp) : Prop :=
  ∃ s F', Ex F1 F' ∧ Gr F0 H0 F' H' ∧ I s F' σ' H' ∧ forF f (xs.drop i) s = some o
section
variable {X : Cx} {σ : L2.St} {F0 H0 F H F1 : Hp} {e a b c it : Expr} {es : List Expr} {d da db : D} {ds : List D} {pos p : Pos} {De : Ends} {rest A B body : List Stmt} {x : Str} {α S ρ : Type} {enc : α → D} {xs : List α}
  {f : α → S → Option (Fl S ρ)} {s0 : S} {o : Fl S ρ} {I : S → Hp → L2.St → Hp → Prop} {RT : ρ → V → Hp → Prop} {j : Nat}
theorem for_turn (hF : Ex F F1)
    (turn : ∀ y s o1 v F' σ' H', f y s = some o1 → Ex F F' → Gr F0 H0 F' H' → Rp X.K F' v (enc y) → I s F' σ' H' → wSs X body (TEn F0 H0 F' I RT o1) (σ'.set j (some v)) H')
    (k : ∀ s F' σ' H', o = .nx s → Ex F F' → Gr F0 H0 F' H' → I s F' σ' H' → wSs X rest De σ' H') (kr : ∀ r v H', o = .rt r → RT r v H' → De.rt v H')
    {i : Nat} {v : V} {y : α} {σ' : L2.St} {H' : Hp} (hy : xs[i]? = some y) (hv : Rp X.K F1 v (enc y)) (hp : Pre F0 H0 F1 I f xs o i σ' H') :
    wSs X body { De with nx := Pre F0 H0 F1 I f xs o (i + 1), ct := Pre F0 H0 F1 I f xs o (i + 1), bk := fun σ' H' => wSs X rest De σ' H' } (σ'.set j (some v)) H' := by
  obtain ⟨s, F', e1, e2, e3, e4⟩ := hp
  obtain ⟨hlt, hget⟩ := List.getElem?_eq_some_iff.mp hy
  rw [List.drop_eq_getElem_cons hlt, hget] at e4
  unfold forF at e4
  cases hf : f y s with
  | none => rw [hf] at e4; cases e4
  | some o1 =>
    rw [hf] at e4
    refine (turn y s o1 v F' σ' H' hf (hF.trans e1) e2 (hv.up e1) e3).mono ?_ ?_ ?_ ?_
    · rintro σ2 H2 ⟨s', F2, rfl, h1, h2, h3⟩
      exact ⟨s', F2, e1.trans h1, h2, h3, e4⟩
    · rintro w H2 ⟨r, rfl, h1⟩
      exact kr r w H2 (Option.some.inj e4).symm h1
    · rintro σ2 H2 ⟨s', F2, rfl, h1, h2, h3⟩
      exact k s' F2 σ2 H2 (Option.some.inj e4).symm ((hF.trans e1).trans h1) h2 h3
    · rintro σ2 H2 ⟨s', F2, rfl, h1, h2, h3⟩
      exact ⟨s', F2, e1.trans h1, h2, h3, e4⟩
theorem for_end (hF : Ex F F1) (k : ∀ s F' σ' H', o = .nx s → Ex F F' → Gr F0 H0 F' H' → I s F' σ' H' → wSs X rest De σ' H') {σ' : L2.St} {H' : Hp} (hp : Pre F0 H0 F1 I f xs o xs.length σ' H') : wSs X rest De σ' H' := by
  obtain ⟨s, F', e1, e2, e3, e4⟩ := hp
  rw [List.drop_length] at e4
  exact k s F' σ' H' (Option.some.inj e4).symm (hF.trans e1) e2 e3
theorem Pre.fh {i : Nat} {σ' : L2.St} {H' : Hp} (hp : Pre F0 H0 F1 I f xs o i σ' H') : Ex F1 H' := by
  obtain ⟨s, F', e1, e2, e3, e4⟩ := hp
  exact e1.trans e2.fh
theorem map_at {i : Nat} {d : D} (h : (xs.map enc)[i]? = some d) : ∃ y, xs[i]? = some y ∧ d = enc y := by
  rw [List.getElem?_map] at h
  cases q : xs[i]? with
  | none => rw [q] at h; cases h
  | some y => rw [q] at h; exact ⟨y, rfl, (Option.some.inj h).symm⟩
/-- for x in a list -/
theorem s_forL (j : Nat) (I : S → Hp → L2.St → Hp → Prop) (RT : ρ → V → Hp → Prop) (nd : X.N.Nodup) (g0 : Gr F0 H0 F H) (src : EvX X it σ F H (.lst (xs.map enc))) (hm : forF f xs s0 = some o) (h0 : ∀ F' H', Gr F H F' H' → Gr F0 H0 F' H' → I s0 F' σ H')
    (turn : ∀ y s o1 v F' σ' H', f y s = some o1 → Ex F F' → Gr F0 H0 F' H' → Rp X.K F' v (enc y) → I s F' σ' H' → wSs X body (TEn F0 H0 F' I RT o1) (σ'.set j (some v)) H')
    (k : ∀ s F' σ' H', o = .nx s → Ex F F' → Gr F0 H0 F' H' → I s F' σ' H' → wSs X rest De σ' H') (kr : ∀ r v H', o = .rt r → RT r v H' → De.rt v H')
    (hp : PassesOwn (model X.prog X.w) X.A X.env X.xe := by exact PassesOwn.never) (hc : X.calm = true := by rfl) (hi : X.N[j]? = some x := by rfl) (hx : Loc X.env.scope x := by first | exact Or.inl rfl | exact Or.inr rfl) (hf : X.fn x = true ∨ X.env.scope.names.lookup x = some .local := by first | exact .inl rfl | exact .inr rfl)
    (hs : ∀ z, foldedSetIterable it X.env z = pure z := by intro _; rfl) : wSs X (.For (.Name x p) it body [] pos :: rest) De σ H := by
  refine s_cons (ps_for hp hc (pi_list (pe X it)) (pg_name nd hi hx hf) (pss X body) hs) ?_
  refine src F H (Ex.refl F) g0.fh (Ex.refl H) _ fun v F1 H1 g r => ?_
  obtain ⟨q, vs, rfl, hq, hr, hz⟩ := r.lst_
  refine ⟨q, rfl, ⟨vs, .of (g.fh _ _ hq)⟩, ?_⟩
  refine for_list (xs := vs) (Pre F0 H0 F1 I f xs o) ⟨s0, F1, Ex.refl _, g0.trans g, h0 F1 H1 g (g0.trans g), hm⟩ (fun i σ' H' _ hp => .of (hp.fh _ _ hq)) (fun i v σ' H' hv hp => ?_) (fun σ' H' hp => ?_)
  · obtain ⟨d, h1, h2⟩ := hr.get hv
    obtain ⟨y, h3, rfl⟩ := map_at h1
    exact for_turn (De := De) (rest := rest) g.f turn k kr h3 h2 hp
  · rw [hr.len, List.length_map] at hp
    exact for_end g.f k hp
/-- for x in a tuple -/
theorem s_forT (j : Nat) (I : S → Hp → L2.St → Hp → Prop) (RT : ρ → V → Hp → Prop) (nd : X.N.Nodup) (g0 : Gr F0 H0 F H) (src : EvX X it σ F H (.tup (xs.map enc))) (hm : forF f xs s0 = some o) (h0 : ∀ F' H', Gr F H F' H' → Gr F0 H0 F' H' → I s0 F' σ H')
    (turn : ∀ y s o1 v F' σ' H', f y s = some o1 → Ex F F' → Gr F0 H0 F' H' → Rp X.K F' v (enc y) → I s F' σ' H' → wSs X body (TEn F0 H0 F' I RT o1) (σ'.set j (some v)) H')
    (k : ∀ s F' σ' H', o = .nx s → Ex F F' → Gr F0 H0 F' H' → I s F' σ' H' → wSs X rest De σ' H') (kr : ∀ r v H', o = .rt r → RT r v H' → De.rt v H')
    (hp : PassesOwn (model X.prog X.w) X.A X.env X.xe := by exact PassesOwn.never) (hc : X.calm = true := by rfl) (hi : X.N[j]? = some x := by rfl) (hx : Loc X.env.scope x := by first | exact Or.inl rfl | exact Or.inr rfl) (hf : X.fn x = true ∨ X.env.scope.names.lookup x = some .local := by first | exact .inl rfl | exact .inr rfl)
    (hs : ∀ z, foldedSetIterable it X.env z = pure z := by intro _; rfl) : wSs X (.For (.Name x p) it body [] pos :: rest) De σ H := by
  refine s_cons (ps_for hp hc (pi_tup (pe X it)) (pg_name nd hi hx hf) (pss X body) hs) ?_
  refine src F H (Ex.refl F) g0.fh (Ex.refl H) _ fun v F1 H1 g r => ?_
  obtain ⟨q, vs, rfl, hq, hr, hz⟩ := r.tup_
  refine ⟨q, rfl, ⟨vs, sqT_ex g.fh hq⟩, ?_⟩
  refine for_tup (xs := vs) (Pre F0 H0 F1 I f xs o) ⟨s0, F1, Ex.refl _, g0.trans g, h0 F1 H1 g (g0.trans g), hm⟩ (fun i σ' H' _ hp => sqT_ex hp.fh hq) (fun i v σ' H' hv hp => ?_) (fun σ' H' hp => ?_)
  · obtain ⟨d, h1, h2⟩ := hr.get hv
    obtain ⟨y, h3, rfl⟩ := map_at h1
    exact for_turn (De := De) (rest := rest) g.f turn k kr h3 h2 hp
  · rw [hr.len, List.length_map] at hp
    exact for_end g.f k hp
/-- for x in the script -/
theorem s_forC {xs : List Int} {f : Int → S → Option (Fl S ρ)} (j : Nat) (I : S → Hp → L2.St → Hp → Prop) (RT : ρ → V → Hp → Prop) (nd : X.N.Nodup) (g0 : Gr F0 H0 F H) (src : EvX X it σ F H (.scr xs)) (hm : forF f xs s0 = some o) (h0 : ∀ F' H', Gr F H F' H' → Gr F0 H0 F' H' → I s0 F' σ H')
    (turn : ∀ y s o1 v F' σ' H', f y s = some o1 → Ex F F' → Gr F0 H0 F' H' → Rp X.K F' v (.int y) → I s F' σ' H' → wSs X body (TEn F0 H0 F' I RT o1) (σ'.set j (some v)) H')
    (k : ∀ s F' σ' H', o = .nx s → Ex F F' → Gr F0 H0 F' H' → I s F' σ' H' → wSs X rest De σ' H') (kr : ∀ r v H', o = .rt r → RT r v H' → De.rt v H')
    (hp : PassesOwn (model X.prog X.w) X.A X.env X.xe := by exact PassesOwn.never) (hc : X.calm = true := by rfl) (hi : X.N[j]? = some x := by rfl) (hx : Loc X.env.scope x := by first | exact Or.inl rfl | exact Or.inr rfl) (hf : X.fn x = true ∨ X.env.scope.names.lookup x = some .local := by first | exact .inl rfl | exact .inr rfl)
    (hs : ∀ z, foldedSetIterable it X.env z = pure z := by intro _; rfl) : wSs X (.For (.Name x p) it body [] pos :: rest) De σ H := by
  refine s_cons (ps_for hp hc (pi_list (pe X it)) (pg_name nd hi hx hf) (pss X body) hs) ?_
  refine src F H (Ex.refl F) g0.fh (Ex.refl H) _ fun v F1 H1 g r => ?_
  obtain ⟨q, rfl, hq, hz⟩ := r.scr_
  refine ⟨q, rfl, ⟨_, sqL_ex g.fh hq⟩, ?_⟩
  refine for_list (xs := xs.map V.int) (Pre F0 H0 F1 I f xs o) ⟨s0, F1, Ex.refl _, g0.trans g, h0 F1 H1 g (g0.trans g), hm⟩ (fun i σ' H' _ hp => sqL_ex hp.fh hq) (fun i v σ' H' hv hp => ?_) (fun σ' H' hp => ?_)
  · rw [List.getElem?_map] at hv
    cases h3 : xs[i]? with
    | none => rw [h3] at hv; cases hv
    | some y =>
      rw [h3] at hv
      cases hv
      exact for_turn (enc := D.int) (De := De) (rest := rest) g.f turn k kr h3 (.int y) hp
  · rw [List.length_map] at hp
    exact for_end g.f k hp
def rangeL (lo hi : Int) : List Int := (List.range (hi - lo).toNat).map fun (i : Nat) => lo + (i : Int)
theorem rangeL_at {lo hi : Int} {i : Nat} (h : i < (hi - lo).toNat) : (rangeL lo hi)[i]? = some (lo + (i : Int)) := by
  unfold rangeL
  rw [List.getElem?_map, List.getElem?_range h]
  rfl
theorem rangeL_len {lo hi : Int} : (rangeL lo hi).length = (hi - lo).toNat := by simp [rangeL]
def rgO (lo hi : Int) : Option (List Int) := if -(2 ^ 62) ≤ lo ∧ lo < 2 ^ 62 ∧ -(2 ^ 62) ≤ hi ∧ hi < 2 ^ 62 then some (rangeL lo hi) else none
theorem rgO_eq {lo hi : Int} {xs : List Int} (h : rgO lo hi = some xs) : (-(2 ^ 62) ≤ lo ∧ lo < 2 ^ 62 ∧ -(2 ^ 62) ≤ hi ∧ hi < 2 ^ 62) ∧ xs = rangeL lo hi := by
  unfold rgO at h
  split at h
  · cases h
    exact ⟨by assumption, rfl⟩
  · cases h
/-- for x in range(n) -/
theorem s_forR1 {xs : List Int} {f : Int → S → Option (Fl S ρ)} {n : Int} {rp : Pos} (j : Nat) (I : S → Hp → L2.St → Hp → Prop) (RT : ρ → V → Hp → Prop) (nd : X.N.Nodup) (g0 : Gr F0 H0 F H) (ha : EvX X a σ H H (.int n)) (hr : rgO 0 n = some xs) (hm : forF f xs s0 = some o) (h0 : ∀ F' H', Gr F H F' H' → Gr F0 H0 F' H' → I s0 F' σ H')
    (turn : ∀ y s o1 v F' σ' H', f y s = some o1 → Ex F F' → Gr F0 H0 F' H' → Rp X.K F' v (.int y) → I s F' σ' H' → wSs X body (TEn F0 H0 F' I RT o1) (σ'.set j (some v)) H')
    (k : ∀ s F' σ' H', o = .nx s → Ex F F' → Gr F0 H0 F' H' → I s F' σ' H' → wSs X rest De σ' H') (kr : ∀ r v H', o = .rt r → RT r v H' → De.rt v H') {p2 p3 : Pos} (hmg : X.mg "range" = none)
    (hp : PassesOwn (model X.prog X.w) X.A X.env X.xe := by exact PassesOwn.never) (hc : X.calm = true := by rfl) (hi : X.N[j]? = some x := by rfl) (hx : Loc X.env.scope x := by first | exact Or.inl rfl | exact Or.inr rfl) (hf : X.fn x = true ∨ X.env.scope.names.lookup x = some .local := by first | exact .inl rfl | exact .inr rfl)
    (hs : ∀ z, foldedSetIterable (.Call (.Name "range" p2) [a] [] p3) X.env z = pure z := by intro _; rfl) (hg : Gl X "range" := by rfl) (hst : starEach [a] X.env = [(false, eval a X.env)] := by rfl) (hst2 : starEach [a] X.env = (false, eval a X.env) :: starEach [] X.env := by rfl) :
    wSs X (.For (.Name x p) (.Call (.Name "range" p2) [a] [] p3) body [] pos :: rest) De σ H := by
  obtain ⟨⟨_, _, b1, b2⟩, rfl⟩ := rgO_eq hr
  refine s_cons (ps_for hp hc (pi_range1 hg hmg (pa_cons (pe X a) pa_nil hst2) hst) (pg_name nd hi hx hf) (pss X body) hs) ?_
  refine ha H H (Ex.refl H) (Ex.refl H) (Ex.refl H) _ fun v F1 H1 g' r => ?_
  have g : Gr F H F H1 := Gr.hid g0.fh g'.h
  refine ⟨n, by rw [r.int_], b1, b2, ?_⟩
  have hn : (n - 0).toNat = n.toNat := by rw [Int.sub_zero]
  refine for_range (lo := 0) (n := n.toNat) (Pre F0 H0 F I f (rangeL 0 n) o) ⟨s0, F, Ex.refl _, g0.trans g, h0 F H1 g (g0.trans g), hm⟩ (fun i σ' H' hv hp => ?_) (fun σ' H' hp => ?_)
  · exact for_turn (enc := D.int) (De := De) (rest := rest) g.f turn k kr (rangeL_at (by rw [hn]; exact hv)) (.int _) hp
  · have e : n.toNat = (rangeL 0 n).length := by rw [rangeL_len, hn]
    rw [e] at hp
    exact for_end g.f k hp
/-- for x in range(m, n) -/
theorem s_forR2 {xs : List Int} {f : Int → S → Option (Fl S ρ)} {m n : Int} {rp : Pos} (j : Nat) (I : S → Hp → L2.St → Hp → Prop) (RT : ρ → V → Hp → Prop) (nd : X.N.Nodup) (g0 : Gr F0 H0 F H) (ha : EvX X a σ H H (.int m)) (hb : EvX X b σ H H (.int n)) (hr : rgO m n = some xs) (hm : forF f xs s0 = some o) (h0 : ∀ F' H', Gr F H F' H' → Gr F0 H0 F' H' → I s0 F' σ H')
    (turn : ∀ y s o1 v F' σ' H', f y s = some o1 → Ex F F' → Gr F0 H0 F' H' → Rp X.K F' v (.int y) → I s F' σ' H' → wSs X body (TEn F0 H0 F' I RT o1) (σ'.set j (some v)) H')
    (k : ∀ s F' σ' H', o = .nx s → Ex F F' → Gr F0 H0 F' H' → I s F' σ' H' → wSs X rest De σ' H') (kr : ∀ r v H', o = .rt r → RT r v H' → De.rt v H') {p2 p3 : Pos} (hmg : X.mg "range" = none)
    (hp : PassesOwn (model X.prog X.w) X.A X.env X.xe := by exact PassesOwn.never) (hc : X.calm = true := by rfl) (hi : X.N[j]? = some x := by rfl) (hx : Loc X.env.scope x := by first | exact Or.inl rfl | exact Or.inr rfl) (hf : X.fn x = true ∨ X.env.scope.names.lookup x = some .local := by first | exact .inl rfl | exact .inr rfl)
    (hs : ∀ z, foldedSetIterable (.Call (.Name "range" p2) [a, b] [] p3) X.env z = pure z := by intro _; rfl) (hg : Gl X "range" := by rfl) (hst : starEach [a, b] X.env = [(false, eval a X.env), (false, eval b X.env)] := by rfl) (hst1 : starEach [b] X.env = [(false, eval b X.env)] := by rfl)
    (hst2 : starEach [a, b] X.env = (false, eval a X.env) :: starEach [b] X.env := by rfl) (hst3 : starEach [b] X.env = (false, eval b X.env) :: starEach [] X.env := by rfl) :
    wSs X (.For (.Name x p) (.Call (.Name "range" p2) [a, b] [] p3) body [] pos :: rest) De σ H := by
  obtain ⟨⟨b1, b2, b3, b4⟩, rfl⟩ := rgO_eq hr
  refine s_cons (ps_for hp hc (pi_range2 hg hmg (pa_cons (pe X a) (pa_cons (pe X b) pa_nil hst3) hst2) hst hst1) (pg_name nd hi hx hf) (pss X body) hs) ?_
  refine ha H H (Ex.refl H) (Ex.refl H) (Ex.refl H) _ fun v F1 H1 g1 r1 => ?_
  refine hb F1 H1 g1.f g1.fh g1.h _ fun w F2 H2 g2 r2 => ?_
  have g : Gr F H F H2 := Gr.hid g0.fh (g1.h.trans g2.h)
  refine ⟨m, n, by rw [r1.int_, r2.int_], ⟨b1, b2, b3, b4⟩, ?_⟩
  refine for_range (lo := m) (n := (n - m).toNat) (Pre F0 H0 F I f (rangeL m n) o) ⟨s0, F, Ex.refl _, g0.trans g, h0 F H2 g (g0.trans g), hm⟩ (fun i σ' H' hv hp => ?_) (fun σ' H' hp => ?_)
  · exact for_turn (enc := D.int) (De := De) (rest := rest) g.f turn k kr (rangeL_at hv) (.int _) hp
  · have e : (n - m).toNat = (rangeL m n).length := by rw [rangeL_len]
    rw [e] at hp
    exact for_end g.f k hp
/-- while c -/
theorem s_while {f : S → Option (Fl S ρ)} {m : Nat} (I : S → Hp → L2.St → Hp → Prop) (RT : ρ → V → Hp → Prop) (g0 : Gr F0 H0 F H) (hm : whileF f m s0 = some o) (h0 : I s0 F σ H)
    (turn : ∀ s o1 F' σ' H', f s = some o1 → Ex F F' → Gr F0 H0 F' H' → I s F' σ' H' → ∃ t, EvXB X c σ' H' H' t ∧ (t = true → ∀ H2, Ex H' H2 → Gr F0 H0 F' H2 → wSs X body (TEn F0 H0 F' I RT o1) σ' H2) ∧ (t = false → ∀ H2, Ex H' H2 → Gr F0 H0 F' H2 → ∃ s', o1 = .bk s' ∧ I s' F' σ' H2))
    (k : ∀ s F' σ' H', o = .nx s → Ex F F' → Gr F0 H0 F' H' → I s F' σ' H' → wSs X rest De σ' H') (kr : ∀ r v H', o = .rt r → RT r v H' → De.rt v H')
    (hp : PassesOwn (model X.prog X.w) X.A X.env X.xe := by exact PassesOwn.never) : wSs X (.While c body [] pos :: rest) De σ H := by
  refine s_cons (ps_while hp (pt X c) (pss X body)) ?_
  refine ⟨fun n σ' H' => ∃ s F', Ex F F' ∧ Gr F0 H0 F' H' ∧ I s F' σ' H' ∧ whileF f n s = some o, ⟨m, s0, F, Ex.refl F, g0, h0, hm⟩, fun n σ' H' hw => ?_⟩
  obtain ⟨s, F', e1, e2, e3, e4⟩ := hw
  cases n with
  | zero => cases e4
  | succ n =>
    unfold whileF at e4
    cases hf : f s with
    | none => rw [hf] at e4; cases e4
    | some o1 =>
      rw [hf] at e4
      obtain ⟨t, ht, h1, h2⟩ := turn s o1 F' σ' H' hf e1 e2 e3
      refine ht H' H' (Ex.refl _) (Ex.refl _) (Ex.refl _) _ fun H2 g => ?_
      cases t with
      | true =>
        refine ⟨fun σ' H' => ∃ s F', Ex F F' ∧ Gr F0 H0 F' H' ∧ I s F' σ' H' ∧ whileF f n s = some o, fun σ' H' hw => ⟨n, Nat.lt_succ_self n, hw⟩, ?_⟩
        refine (h1 rfl H2 g (e2.hop g)).mono ?_ ?_ ?_ ?_
        · rintro σ2 H2 ⟨s', F2, rfl, z1, z2, z3⟩
          exact ⟨s', F2, e1.trans z1, z2, z3, e4⟩
        · rintro w H2 ⟨r, rfl, z1⟩
          exact kr r w H2 (Option.some.inj e4).symm z1
        · rintro σ2 H2 ⟨s', F2, rfl, z1, z2, z3⟩
          exact k s' F2 σ2 H2 (Option.some.inj e4).symm (e1.trans z1) z2 z3
        · rintro σ2 H2 ⟨s', F2, rfl, z1, z2, z3⟩
          exact ⟨s', F2, e1.trans z1, z2, z3, e4⟩
      | false =>
        obtain ⟨s', rfl, h3⟩ := h2 rfl H2 g (e2.hop g)
        exact k s' F' σ' H2 (Option.some.inj e4).symm e1 (e2.hop g) h3
end
/-! ### functions -/
/-- the promise: arguments that stand for ds give a value that stands for d, where R ds d -/
def spR (K : PySem.W.Frag) (R : List D → D → Prop) : Sp := fun vs H Q _ => ∃ F ds d, Ex F H ∧ RpL K F vs ds ∧ R ds d ∧ ∀ v F' H', Gr F H F' H' → Rp K F' v d → Q v H'
structure Kn (P : Program) (w : World) (K : PySem.W.Frag) (mg : Str → Option Value) (base : Heap) (k : Nat) (x : Str) (R : List D → D → Prop) : Prop where
  ex : ∃ f fd ps, FnOk P w K mg base CX0 k f fd ps (spR K R) ∧ mg x = some (.ref f) ∧ PySem.W.keepIn K (.ref f) = true ∧ Binds K fd ps []
section
variable {X : Cx} {σ : L2.St} {F G : Hp} {e : Expr} {es : List Expr} {d : D} {ds : List D} {pos p : Pos} {x : Str} {R : List D → D → Prop} {k j : Nat}
theorem x_call (kn : Kn X.prog X.w X.K X.mg X.base k x R) (hr : Room j X.A) (ha : EvXA X (e :: es) σ F G ds) (hR : R ds d) (hk : k ≤ j := by decide) (hg : Gl X x := by rfl) (hdb : (x == ("__debug__" : Str)) = false := by decide)
    (hs : starEach (e :: es) X.env = (false, eval e X.env) :: starEach es X.env := by rfl) (hpl : (backTo pos (starEach es X.env)).any (·.1) = false := by rfl) : EvX X (.Call (.Name x p) (e :: es) [] pos) σ F G d := by
  obtain ⟨f, fd, ps, hF, hm, hkp, hb⟩ := kn.ex
  refine EvX.of (pe_call (E := E0) (dvs := []) (ds := []) hF (hr.mono hk) hg hm hkp hb .nil pass0 (pa X (e :: es)) hdb hs hpl) ?_
  refine fun F1 H1 e1 e2 e3 Q q => ha F1 H1 e1 e2 e3 _ fun vs F2 H2 g r => ?_
  rw [List.append_nil]
  exact ⟨F2, ds, d, g.fh, r, hR, fun v F' H' g' r' => q v F' H' (g.trans g') r'⟩
end
section
variable {P : Program} {w : World} {K : PySem.W.Frag} {mg : Str → Option Value} {base : Heap}
theorem fun_kn {x qual : Str} {st : Stmt} {f : Addr} {fd : FuncData} {N ps : List Str} {k : Nat} {R : List D → D → Prop} (Fn : Fun K x qual st f fd) (hm : mg x = some (.ref f)) (hb : Binds K fd ps []) (S : FnScope N ps (defScope st)) (len : ∀ ds d, R ds d → ds.length = ps.length)
    (hbody : ∀ (cdv : Value) (A : Around) (outer : List Env) (s : Shared) (F H : Hp) (vs : List V) (ds : List D) (d : D) (Q : VK) (E : XK), Room k (A.deeper (envOfC qual (defScope st) s.heap.objs.size f cdv)) → Gr F H F H → RpL K F vs ds → R ds d → (∀ v F' H', Gr F H F' H' → Rp K F' v d → Q v H') →
      wSs (cxOf CX0 P w K mg base N qual (defScope st) f cdv A outer s H E).nox (defBody st) { nx := fun _ H' => Q .non H', rt := Q } (start N vs) H) : Kn P w K mg base (k + 1) x R := by
  refine ⟨⟨f, fd, ps, Fn.ok S (fun vs H Q E h => ?_) (fun cdv A outer s H vs Q E hr h => ?_), hm, Fn.kp, hb⟩⟩
  · obtain ⟨F, ds, d, _, r, hR, _⟩ := h
    rw [r.len]
    exact len ds d hR
  · obtain ⟨F, ds, d, e, r, hR, q⟩ := h
    exact ⟨_, pss _ _, hbody cdv A outer s F H vs ds d Q E hr (Gr.refl e) r hR q⟩
theorem fun_fn {x qual : Str} {st : Stmt} {f : Addr} {fd : FuncData} {N ps : List Str} {k : Nat} {R : List D → D → Prop} (Fn : Fun K x qual st f fd) (S : FnScope N ps (defScope st)) (len : ∀ ds d, R ds d → ds.length = ps.length)
    (hbody : ∀ (cdv : Value) (A : Around) (outer : List Env) (s : Shared) (F H : Hp) (vs : List V) (ds : List D) (d : D) (Q : VK) (E : XK), Room k (A.deeper (envOfC qual (defScope st) s.heap.objs.size f cdv)) → Gr F H F H → RpL K F vs ds → R ds d → (∀ v F' H', Gr F H F' H' → Rp K F' v d → Q v H') →
      wSs (cxOf CX0 P w K mg base N qual (defScope st) f cdv A outer s H E).nox (defBody st) { nx := fun _ H' => Q .non H', rt := Q } (start N vs) H) : FnOk P w K mg base CX0 (k + 1) f fd ps (spR K R) := by
  refine Fn.ok S (fun vs H Q E h => ?_) (fun cdv A outer s H vs Q E hr h => ?_)
  · obtain ⟨F, ds, d, _, r, hR, _⟩ := h
    rw [r.len]
    exact len ds d hR
  · obtain ⟨F, ds, d, e, r, hR, q⟩ := h
    exact ⟨_, pss _ _, hbody cdv A outer s F H vs ds d Q E hr (Gr.refl e) r hR q⟩
end
end Gx

namespace Gx
open PySem L2 PySem.Spec PyProof.Rows
/-! ### and, or, a if c else b -/
def wW (X : Cx) (e : Expr) : TT := fun σ H Q => ∀ (whole : Sem Value) pins s, Inv X pins σ H s → wpAny (model X.prog X.w) X.A (isTrue e X.env whole) (TP X pins σ Q) X.xe s
theorem pw (X : Cx) (e : Expr) : PW X e (wW X e) := ⟨fun wh pins s _ _ _ I h => h wh pins s I⟩
abbrev EvXW (X : Cx) (e : Expr) (σ : L2.St) (F G : Hp) (b : Bool) : Prop := EvB (wW X e) σ F G b
section
variable {X : Cx} {σ : L2.St} {F G : Hp} {e a b c : Expr} {es rest : List Expr} {d da db : D} {ds : List D} {pos p : Pos} {u v t : Bool}
theorem EvXW.of {tt : TT} (p : PW X e tt) (h : EvB tt σ F G u) : EvXW X e σ F G u := fun F1 H1 a b c Q q wh pins s I => p.run wh pins s _ _ _ I (h F1 H1 a b c Q q)
theorem EvXW.tb (h : EvXW X e σ F G u) : EvXB X e σ F G u := EvXB.of (pw X e).pt h
theorem xw_1 {op} (h : EvXB X a σ F G u) (hop : op = .And ∨ op = .Or := by first | exact .inl rfl | exact .inr rfl) : EvXW X (.BoolOp op [a] pos) σ F G u := by
  rcases hop with rfl | rfl
  · exact EvXW.of (pw_and1 (pt X a)) h
  · exact EvXW.of (pw_or1 (pt X a)) h
theorem xw_and (h : EvXB X a σ F G u) (h2 : EvXW X (.BoolOp .And (b :: rest) pos) σ F G v) : EvXW X (.BoolOp .And (a :: b :: rest) pos) σ F G (u && v) :=
  EvXW.of (pw_and (pt X a) (pw X _)) (eb_and h (fun e => by subst e; exact h2) (fun e => by subst e; rfl))
theorem xw_or (h : EvXB X a σ F G u) (h2 : EvXW X (.BoolOp .Or (b :: rest) pos) σ F G v) : EvXW X (.BoolOp .Or (a :: b :: rest) pos) σ F G (u || v) :=
  EvXW.of (pw_or (pt X a) (pw X _)) (eb_or h (fun e => by subst e; exact h2) (fun e => by subst e; rfl))
/-- .. where what follows may fail -/
def andO (u : Bool) (m : Option Bool) : Option Bool := if u = true then m else some false
def orO (u : Bool) (m : Option Bool) : Option Bool := if u = true then some true else m
def ifO {α : Type} (u : Bool) (m n : Option α) : Option α := if u = true then m else n
theorem andO_t {m : Option Bool} (h : andO u m = some t) (e : u = true) : m = some t := by subst e; exact h
theorem andO_f {m : Option Bool} (h : andO u m = some t) (e : u = false) : t = false := by subst e; exact (Option.some.inj h).symm
theorem orO_f {m : Option Bool} (h : orO u m = some t) (e : u = false) : m = some t := by subst e; exact h
theorem orO_t {m : Option Bool} (h : orO u m = some t) (e : u = true) : t = true := by subst e; exact (Option.some.inj h).symm
theorem ifO_t {α : Type} {m n : Option α} {y : α} (h : ifO u m n = some y) (e : u = true) : m = some y := by subst e; exact h
theorem ifO_f {α : Type} {m n : Option α} {y : α} (h : ifO u m n = some y) (e : u = false) : n = some y := by subst e; exact h
theorem xw_andM {m : Option Bool} (h : EvXB X a σ F G u) (hm : andO u m = some t) (h2 : m = some t → EvXW X (.BoolOp .And (b :: rest) pos) σ F G t) : EvXW X (.BoolOp .And (a :: b :: rest) pos) σ F G t :=
  EvXW.of (pw_and (pt X a) (pw X _)) (eb_and h (fun e => h2 (andO_t hm e)) (andO_f hm))
theorem xw_orM {m : Option Bool} (h : EvXB X a σ F G u) (hm : orO u m = some t) (h2 : m = some t → EvXW X (.BoolOp .Or (b :: rest) pos) σ F G t) : EvXW X (.BoolOp .Or (a :: b :: rest) pos) σ F G t :=
  EvXW.of (pw_or (pt X a) (pw X _)) (eb_or h (fun e => h2 (orO_f hm e)) (orO_t hm))
theorem xb_not (h : EvXB X a σ F G u) : EvXB X (.UnaryOp .Not a pos) σ F G (!u) := EvXB.of (pt_not (pt X a)) (eb_not h)
/-- as values -/
theorem xv_1 {op} (h : EvX X a σ F G d) : EvX X (.BoolOp op [a] pos) σ F G d := EvX.of (pe_one (pe X a)) h
theorem xv_and (h : EvX X a σ F G (.bl u)) (h2 : EvX X (.BoolOp .And (b :: rest) pos) σ F G (.bl v)) : EvX X (.BoolOp .And (a :: b :: rest) pos) σ F G (.bl (u && v)) :=
  EvX.of (pe_and (pe X a) (pe X _)) (er_andV h (fun e => by subst e; exact h2) (fun e => by subst e; rfl))
theorem xv_or (h : EvX X a σ F G (.bl u)) (h2 : EvX X (.BoolOp .Or (b :: rest) pos) σ F G (.bl v)) : EvX X (.BoolOp .Or (a :: b :: rest) pos) σ F G (.bl (u || v)) :=
  EvX.of (pe_or (pe X a) (pe X _)) (er_orV h (fun e => by subst e; exact h2) (fun e => by subst e; rfl))
theorem xv_andM {m : Option Bool} (h : EvX X a σ F G (.bl u)) (hm : andO u m = some t) (h2 : m = some t → EvX X (.BoolOp .And (b :: rest) pos) σ F G (.bl t)) : EvX X (.BoolOp .And (a :: b :: rest) pos) σ F G (.bl t) :=
  EvX.of (pe_and (pe X a) (pe X _)) (er_andV h (fun e => h2 (andO_t hm e)) (andO_f hm))
theorem xv_orM {m : Option Bool} (h : EvX X a σ F G (.bl u)) (hm : orO u m = some t) (h2 : m = some t → EvX X (.BoolOp .Or (b :: rest) pos) σ F G (.bl t)) : EvX X (.BoolOp .Or (a :: b :: rest) pos) σ F G (.bl t) :=
  EvX.of (pe_or (pe X a) (pe X _)) (er_orV h (fun e => h2 (orO_f hm e)) (orO_t hm))
theorem xv_not (h : EvX X a σ F G (.bl u)) : EvX X (.UnaryOp .Not a pos) σ F G (.bl (!u)) := EvX.of (pe_not (pe X a)) (er_notV h)
theorem x_if (hc : EvXB X c σ F G u) (h1 : EvX X a σ F G da) (h2 : EvX X b σ F G db) : EvX X (.IfExp c a b pos) σ F G (if u = true then da else db) :=
  EvX.of (pe_ifExp (pt X c) (pe X a) (pe X b)) (er_if hc (fun e => by subst e; exact h1) (fun e => by subst e; exact h2))
theorem x_ifM {α : Type} {m n : Option α} {y : α} (enc : α → D) (hc : EvXB X c σ F G u) (hm : ifO u m n = some y) (h1 : m = some y → EvX X a σ F G (enc y)) (h2 : n = some y → EvX X b σ F G (enc y)) : EvX X (.IfExp c a b pos) σ F G (enc y) :=
  EvX.of (pe_ifExp (pt X c) (pe X a) (pe X b)) (er_if hc (fun e => h1 (ifO_t hm e)) (fun e => h2 (ifO_f hm e)))
theorem x_ifI {i j : Int} (hc : EvXB X c σ F G u) (h1 : EvX X a σ F G (.int i)) (h2 : EvX X b σ F G (.int j)) : EvX X (.IfExp c a b pos) σ F G (.int (if u = true then i else j)) :=
  EvX.of (pe_ifExp (pt X c) (pe X a) (pe X b)) (er_if hc (fun e => by subst e; exact h1) (fun e => by subst e; exact h2))
/-! ### sums and products of lists and tuples, slices -/
def catO (xs ys : List α) : Option (List α) := if xs.length + ys.length ≤ sizeLine then some (xs ++ ys) else none
theorem n_cat {es fs : List D} (ha : EvXS X a σ F G ds) (hb : EvXS X b σ F G es) (h : catO ds es = some fs) : EvXN X (.BinOp a .Add b pos) σ F G fs := by
  unfold catO at h
  split at h
  · cases h
    refine EvXN.of (pe_op op_cat (pe X a) (pe X b)) fun F1 H1 e1 e2 e3 Q q => ?_
    refine ha F1 H1 e1 e2 e3 _ fun l vs F2 H2 g2 hl r2 z2 => hb F2 H2 (e1.trans g2.f) g2.fh (e3.trans g2.h) _ fun m ws F3 H3 g3 hm r3 z3 => ?_
    refine ⟨l, m, vs, ws, rfl, rfl, g3.h _ _ hl, hm, by rw [r2.len, r3.len]; assumption, fun p hp => ?_⟩
    exact q p _ F3 _ ((g2.trans g3).trans (Gr.hid g3.fh (Ex.new hp))) ((g2.trans g3).h.free hp) (g3.fh.free hp) upd_same ((r2.up g3.f).app r3) (by simpa using by assumption)
  · cases h
def repO (xs : List α) (k : Int) : Option (List α) := if -(2 ^ 63) ≤ k ∧ k < 2 ^ 63 ∧ xs.length * k.toNat ≤ sizeLine then some (List.replicate k.toNat xs).flatten else none
theorem RpL.rep {K : PySem.W.Frag} {H : Hp} {vs : List V} (r : RpL K H vs ds) (k : Nat) : RpL K H (List.replicate k vs).flatten (List.replicate k ds).flatten := by
  induction k with
  | zero => exact .nil
  | succ k ih =>
    simp only [List.replicate_succ, List.flatten_cons]
    exact r.app ih
theorem rep_len (xs : List α) (k : Nat) : (List.replicate k xs).flatten.length = xs.length * k := by
  induction k with
  | zero => simp
  | succ k ih => rw [List.replicate_succ, List.flatten_cons, List.length_append, ih, Nat.mul_succ, Nat.add_comm]
theorem n_rep {k : Int} {fs : List D} (ha : EvXS X a σ F G ds) (hb : EvX X b σ F G (.int k)) (h : repO ds k = some fs) : EvXN X (.BinOp a .Mult b pos) σ F G fs := by
  unfold repO at h
  split at h
  · rename_i hh
    cases h
    refine EvXN.of (pe_op op_rep (pe X a) (pe X b)) fun F1 H1 e1 e2 e3 Q q => ?_
    refine ha F1 H1 e1 e2 e3 _ fun l vs F2 H2 g2 hl r2 z2 => hb F2 H2 (e1.trans g2.f) g2.fh (e3.trans g2.h) _ fun m F3 H3 g3 r3 => ?_
    refine ⟨l, k, vs, rfl, r3.int_, g3.h _ _ hl, hh.1, hh.2.1, by rw [r2.len]; exact hh.2.2, fun p hp => ?_⟩
    exact q p _ F3 _ ((g2.trans g3).trans (Gr.hid g3.fh (Ex.new hp))) ((g2.trans g3).h.free hp) (g3.fh.free hp) upd_same ((r2.up g3.f).rep _) (by rw [rep_len]; exact hh.2.2)
  · cases h
def cutL (xs : List α) (lo hi : Option Int) : List α := (xs.drop (HT.sIx xs.length 0 lo)).take (HT.sIx xs.length xs.length hi - HT.sIx xs.length 0 lo)
theorem RpL.cut {K : PySem.W.Frag} {H : Hp} {vs : List V} (r : RpL K H vs ds) (lo hi : Option Int) : RpL K H (cutV vs lo hi) (cutL ds lo hi) := by
  unfold cutV cutL
  rw [r.len]
  exact (r.drop _).take _
theorem cutL_len (xs : List α) (lo hi : Option Int) : (cutL xs lo hi).length ≤ xs.length := by
  unfold cutL
  simp only [List.length_take, List.length_drop]
  omega
theorem cutL_map {α β : Type} (f : α → β) (xs : List α) (lo hi : Option Int) : cutL (xs.map f) lo hi = (cutL xs lo hi).map f := by
  unfold cutL
  simp [List.map_take, List.map_drop]
/-- a bound of a slice -/
def EvPo (X : Cx) (e : Option Expr) (σ : L2.St) (F G : Hp) (o : Option Int) : Prop :=
  ∃ t, PO X e t ∧ ∀ F1 H1, Ex F F1 → Ex F1 H1 → Ex G H1 → ∀ Q : Option Int → Hp → Prop, (∀ F2 H2, Gr F1 H1 F2 H2 → Q o H2) → t σ H1 Q
theorem xo_none : EvPo X none σ F G none := ⟨_, po_none, fun F1 H1 _ e2 _ _ q => q F1 H1 (Gr.refl e2)⟩
theorem xo_some {i : Int} (h : EvX X e σ F G (.int i)) : EvPo X (some e) σ F G (some i) := ⟨_, po_some (pe X e), fun F1 H1 e1 e2 e3 _ q => h F1 H1 e1 e2 e3 _ fun v F2 H2 g r => ⟨i, r.int_, q F2 H2 g⟩⟩
theorem n_slice {lo hi : Option Expr} {p2 : Pos} {l h : Option Int} (ha : EvXS X a σ F G ds) (hl : EvPo X lo σ F G l) (hh : EvPo X hi σ F G h) : EvXN X (.Subscript a (.Slice lo hi none p2) pos) σ F G (cutL ds l h) := by
  obtain ⟨tl, pl, ql⟩ := hl
  obtain ⟨th, ph, qh⟩ := hh
  refine EvXN.of (pe_slice sl_list (pe X a) pl ph) fun F1 H1 e1 e2 e3 Q q => ?_
  refine ha F1 H1 e1 e2 e3 _ fun l vs F2 H2 g2 hl r2 z2 => ql F2 H2 (e1.trans g2.f) g2.fh (e3.trans g2.h) _ fun F3 H3 g3 => qh F3 H3 ((e1.trans g2.f).trans g3.f) g3.fh ((e3.trans g2.h).trans g3.h) _ fun F4 H4 g4 => ?_
  refine ⟨l, vs, rfl, .of (g4.h _ _ (g3.h _ _ hl)), fun p hp => ?_⟩
  have g := (g2.trans g3).trans g4
  exact q p _ F4 _ (g.trans (Gr.hid g4.fh (Ex.new hp))) (g.h.free hp) (g4.fh.free hp) upd_same (((r2.up g3.f).up g4.f).cut _ _) (Nat.le_trans (cutL_len _ _ _) z2)
/-! ### in, == -/
def inI (i : Int) (xs : List Int) : Bool := xs.any fun y => y == i
theorem inV_ints (i : Int) (xs : List Int) : inV (.int i) (xs.map V.int) = inI i xs := by
  unfold inV inI
  rw [List.any_map]
  rfl
theorem flat_ints (xs : List Int) : (xs.map V.int).all flatV = true := by
  rw [List.all_map]
  simp [flatV, Function.comp_def]
theorem x_inI {i : Int} {xs : List Int} (ha : EvX X a σ F G (.int i)) (hb : EvXS X b σ F G (xs.map D.int)) (hbm : behindInMarks .In b = false := by rfl) : EvX X (.Compare a [.In] [b] pos) σ F G (.bl (inI i xs)) :=
  EvX.of (pe_cmpR op_in_seq (pe X a) (pe X b) hbm) fun F1 H1 e1 e2 e3 Q q => ha F1 H1 e1 e2 e3 _ fun v F2 H2 g2 r2 => hb F2 H2 (e1.trans g2.f) g2.fh (e3.trans g2.h) _ fun l vs F3 H3 g3 hl r3 z3 => by
    rw [r2.int_]
    rw [r3.ints] at hl
    exact ⟨l, _, rfl, .inl (.of hl), rfl, flat_ints xs, by rw [inV_ints]; exact q _ F3 H3 (g2.trans g3) (.bl _)⟩
theorem x_niI {i : Int} {xs : List Int} (ha : EvX X a σ F G (.int i)) (hb : EvXS X b σ F G (xs.map D.int)) (hbm : behindInMarks .NotIn b = false := by rfl) : EvX X (.Compare a [.NotIn] [b] pos) σ F G (.bl (!inI i xs)) :=
  EvX.of (pe_cmpR op_notIn_seq (pe X a) (pe X b) hbm) fun F1 H1 e1 e2 e3 Q q => ha F1 H1 e1 e2 e3 _ fun v F2 H2 g2 r2 => hb F2 H2 (e1.trans g2.f) g2.fh (e3.trans g2.h) _ fun l vs F3 H3 g3 hl r3 z3 => by
    rw [r2.int_]
    rw [r3.ints] at hl
    exact ⟨l, _, rfl, .inl (.of hl), rfl, flat_ints xs, by rw [inV_ints]; exact q _ F3 H3 (g2.trans g3) (.bl _)⟩
/-! data without objects, as the library's -/
mutual
def toP : D → Option PyData
  | .non => some .none | .bl b => some (.bool b) | .int i => some (.int i) | .str x => some (.str x)
  | .lst ds => (toPs ds).map PyData.list
  | .tup ds => (toPs ds).map PyData.tuple
  | _ => none
def toPs : List D → Option (List PyData)
  | [] => some []
  | d :: ds => (toP d).bind fun p => (toPs ds).map fun ps => p :: ps
end
mutual
theorem Rp.dp {K : PySem.W.Frag} {H : Hp} : ∀ (d : D) (v : V) (p : PyData), Rp K H v d → toP d = some p → Dp K H v p
  | .non, _, _, h, e => by cases h; cases e; exact .non
  | .bl b, _, _, h, e => by cases h; cases e; exact .bl b
  | .int b, _, _, h, e => by cases h; cases e; exact .int b
  | .str b, _, _, h, e => by cases h; cases e; exact .str b
  | .lst ds, _, _, h, e => by
    cases h with
    | lst q r z =>
      unfold toP at e
      cases hp : toPs ds with
      | none => rw [hp] at e; cases e
      | some ps => rw [hp] at e; cases e; exact .lst (.of q) (RpL.dp ds _ ps r hp)
  | .tup ds, _, _, h, e => by
    cases h with
    | tup q r z =>
      unfold toP at e
      cases hp : toPs ds with
      | none => rw [hp] at e; cases e
      | some ps => rw [hp] at e; cases e; exact .tup q (RpL.dp ds _ ps r hp)
  | .scr _, _, _, _, e => by cases e
  | .obj _ _, _, _, _, e => by cases e
  | .dic _, _, _, _, e => by cases e
  | .dit _, _, _, _, e => by cases e
theorem RpL.dp {K : PySem.W.Frag} {H : Hp} : ∀ (ds : List D) (vs : List V) (ps : List PyData), RpL K H vs ds → toPs ds = some ps → DpAll K H vs ps
  | [], _, _, h, e => by cases h; cases e; exact .nil
  | d :: ds, _, _, h, e => by
    cases h with
    | cons a b =>
      unfold toPs at e
      cases hp : toP d with
      | none => rw [hp] at e; cases e
      | some p =>
        rw [hp] at e
        cases hq : toPs ds with
        | none => rw [hq] at e; cases e
        | some ps => rw [hq] at e; cases e; exact .cons (Rp.dp d _ p a hp) (RpL.dp ds _ ps b hq)
end
/-- the answer of ==, where both are such data -/
def eqO (d e : D) : Option Bool := (toP d).bind fun p => (toP e).bind fun q => if SeqAt.shaped p = true ∧ SeqAt.shaped q = true then some (PyData.eqv p q) else none
theorem eqO_is {d e : D} {t : Bool} (h : eqO d e = some t) : ∃ p q, toP d = some p ∧ toP e = some q ∧ SeqAt.shaped p = true ∧ SeqAt.shaped q = true ∧ PyData.eqv p q = t := by
  unfold eqO at h
  obtain ⟨p, h1, h⟩ := bnd h
  obtain ⟨q, h2, h⟩ := bnd h
  split at h
  · rename_i hh
    exact ⟨p, q, h1, h2, hh.1, hh.2, Option.some.inj h⟩
  · cases h
theorem x_eqD (hu : X.A.units + 64 < cLine) (ha : EvX X a σ F G da) (hb : EvX X b σ F G db) (h : eqO da db = some t) : EvX X (.Compare a [.Eq] [b] pos) σ F G (.bl t) := by
  obtain ⟨pd, qd, h1, h2, h3, h4, rfl⟩ := eqO_is h
  exact EvX.of (pe_cmpR (op_eqD hu) (pe X a) (pe X b) (nomark _)) (er_op ha hb fun F1 H1 e x y rx ry Q q => ⟨pd, qd, Rp.dp _ _ _ (rx.up e) h1, Rp.dp _ _ _ (ry.up e) h2, h3, h4, q _ F1 H1 (Gr.refl e) (.bl _)⟩)
theorem x_neD (hu : X.A.units + 64 < cLine) (ha : EvX X a σ F G da) (hb : EvX X b σ F G db) (h : eqO da db = some t) : EvX X (.Compare a [.NotEq] [b] pos) σ F G (.bl (!t)) := by
  obtain ⟨pd, qd, h1, h2, h3, h4, rfl⟩ := eqO_is h
  exact EvX.of (pe_cmpR (op_neD hu) (pe X a) (pe X b) (nomark _)) (er_op ha hb fun F1 H1 e x y rx ry Q q => ⟨pd, qd, Rp.dp _ _ _ (rx.up e) h1, Rp.dp _ _ _ (ry.up e) h2, h3, h4, q _ F1 H1 (Gr.refl e) (.bl _)⟩)
/-- isinstance(e, T), T a built-in type's name -/
def isiD (T : String) (d : D) : Option Bool := (tyD d).bind fun s => kitB s T
theorem x_isi {x : Str} {T : String} {tp : Pos} (ha : EvX X a σ F G d) (h : isiD T d = some t) (hm : X.mg "isinstance" = none) (hmT : X.mg x = none) (hT : bootBuiltins x = some (.type T) := by decide +kernel) (hg : Gl X "isinstance" := by rfl) (hgT : Gl X x := by rfl)
    (hn : x ≠ "__name__" := by decide) (hd : (x == ("__debug__" : Str)) = false := by decide)
    (hs : starEach [a, .Name x tp] X.env = (false, eval a X.env) :: starEach [.Name x tp] X.env := by rfl) (hs2 : starEach [.Name x tp] X.env = (false, eval (.Name x tp) X.env) :: starEach [] X.env := by rfl)
    (hpl : (backTo pos (starEach [.Name x tp] X.env)).any (·.1) = false := by rfl) : EvX X (.Call (.Name "isinstance" p) [a, .Name x tp] [] pos) σ F G (.bl t) := by
  unfold isiD at h
  obtain ⟨s, h1, h2⟩ := bnd h
  refine EvX.of (pe_callB call_isi hg hm PyProof.Rows.boot_isinstance (pa_cons (pe X a) (pa_cons (pe_bltn (v := .ty T) hgT hmT hT rfl hn hd) pa_nil hs2) hs) (by decide) (by decide) hs hpl) fun F1 H1 e1 e2 e3 Q q => ?_
  refine ha F1 H1 e1 e2 e3 _ fun v F2 H2 g r => ?_
  exact ⟨v, .ty T, .type s, .type T, t, rfl, .ty T, (r.up g.fh).ty h1, kit_ty h2, q _ F2 H2 g (.bl _)⟩
end
end Gx

namespace Gx
open PySem L2 PySem.Spec PyProof.Rows
/-! ### [.. for x in ..] -/
section
variable {K : PySem.W.Frag} {σ : L2.St} {F G F1 H1 F2 : Hp} {te tl : TE} {tt : TT} {α β : Type} {enc : α → D} {enc2 : β → D} {xs : List α} {ys : List β} {f : α → Option (Option β)} {j : Nat} {vs : List Nat} {L : Addr}
def LcPre (K : PySem.W.Frag) (F1 H1 F2 HH : Hp) (enc2 : β → D) (f : α → Option (Option β)) (xs : List α) (ys : List β) (L : Addr) (i : Nat) (H' : Hp) : Prop :=
  ∃ F' acc done rest, Ex HH H' ∧ Ex F2 F' ∧ Gr F1 H1 F' H' ∧ F' L = none ∧ H' L = some (.lst acc) ∧ RpL K F' acc (done.map enc2) ∧ fmO f (xs.drop i) = some rest ∧ done ++ rest = ys ∧ done.length ≤ i
theorem lc_turn {HH : Hp} (hF : Ex F F2) (hG : Ex G H1) (hL : H1 L = none) (hHL : HH L = none) (hz : xs.length ≤ sizeLine)
    (hw : ∀ x, wipe ((wipe σ vs).set j (some x)) vs = wipe σ vs)
    (ht : ∀ F1 y v o, Ex F F1 → Rp K F1 v (enc y) → f y = some o → EvB tt ((wipe σ vs).set j (some v)) F1 G o.isSome)
    (he : ∀ F1 y v b, Ex F F1 → Rp K F1 v (enc y) → f y = some (some b) → EvR K te ((wipe σ vs).set j (some v)) F1 G (enc2 b))
    {i : Nat} {y : α} {v : V} {H' : Hp} (hy : xs[i]? = some y) (hv : Rp K F2 v (enc y)) (hp : LcPre K F1 H1 F2 HH enc2 f xs ys L i H') :
    gName j v (wipe σ vs) H' fun σ2 H2 => wipe σ2 vs = wipe σ vs ∧ tt σ2 H2 fun b H3 =>
      if b = true then te σ2 H3 fun y H4 => ∃ acc, H4 L = some (.lst acc) ∧ acc.length < sizeLine ∧ LcPre K F1 H1 F2 HH enc2 f xs ys L (i + 1) (upd H4 L (.lst (acc ++ [y]))) else LcPre K F1 H1 F2 HH enc2 f xs ys L (i + 1) H3 := by
  obtain ⟨F', acc, done, rest, e0, e1, e2, e3, e4, e5, e6, e7, e8⟩ := hp
  obtain ⟨hlt, hget⟩ := List.getElem?_eq_some_iff.mp hy
  rw [List.drop_eq_getElem_cons hlt, hget] at e6
  unfold fmO at e6
  obtain ⟨o, h1, e6⟩ := bnd e6
  obtain ⟨r', h2, e6⟩ := bnd e6
  have hE : Ex G H' := hG.trans e2.h
  refine ⟨hw v, ?_⟩
  refine ht F' y v o (hF.trans e1) (hv.up e1) h1 F' H' (Ex.refl _) e2.fh hE _ fun H3 g3 => ?_
  cases o with
  | none =>
    cases e6
    show LcPre K F1 H1 F2 HH enc2 f xs ys L (i + 1) H3
    exact ⟨F', acc, done, _, e0.trans g3, e1, e2.hop g3, e3, g3 _ _ e4, e5, h2, e7, by omega⟩
  | some b =>
    cases e6
    show te _ H3 _
    refine he F' y v b (hF.trans e1) (hv.up e1) h1 F' H3 (Ex.refl _) (e2.fh.trans g3) (hE.trans g3) _ fun w F4 H4 g4 r4 => ?_
    have q4 : F4 L = none := g4.own (g3 _ _ e4) e3
    refine ⟨acc, g4.h _ _ (g3 _ _ e4), by rw [e5.len, List.length_map]; omega, ?_⟩
    refine ⟨F4, acc ++ [w], done ++ [b], r', ((e0.trans g3).trans g4.h).mut hHL, e1.trans g4.f, ((e2.hop g3).trans g4).put hL q4, q4, upd_same, ?_, h2, by rw [← e7]; simp, by simp; omega⟩
    rw [List.map_append]
    exact (e5.up g4.f).snoc r4
theorem lc_end {HH : Hp} (hL : H1 L = none) (hz : xs.length ≤ sizeLine) {Q : VK} (q : ∀ p vs F2 H2, Gr F1 H1 F2 H2 → H1 p = none → F2 p = none → H2 p = some (.lst vs) → RpL K F2 vs (ys.map enc2) → (ys.map enc2).length ≤ sizeLine → Q (.ref p) H2)
    {H' : Hp} (hp : LcPre K F1 H1 F2 HH enc2 f xs ys L xs.length H') : Q (.ref L) H' := by
  obtain ⟨F', acc, done, rest, e0, e1, e2, e3, e4, e5, e6, e7, e8⟩ := hp
  rw [List.drop_length] at e6
  cases e6
  rw [List.append_nil] at e7
  subst e7
  exact q L acc F' H' e2 hL e3 e4 e5 (by rw [List.length_map]; omega)
theorem lc_start {H2 : Hp} (g : Gr F1 H1 F2 H2) (hD : H2 L = none) (hf : fmO f xs = some ys) : LcPre K F1 H1 F2 H2 enc2 f xs ys L 0 (upd H2 L (.lst [])) :=
  ⟨F2, [], [], ys, Ex.new hD, Ex.refl _, g.put (g.h.free hD) (g.fh.free hD), g.fh.free hD, upd_same, .nil, by simpa using hf, rfl, Nat.le_refl _⟩
theorem LcPre.fh {HH : Hp} {i : Nat} {H' : Hp} (hp : LcPre K F1 H1 F2 HH enc2 f xs ys L i H') : Ex F2 H' := by
  obtain ⟨F', acc, done, rest, e0, e1, e2, _⟩ := hp
  exact e1.trans e2.fh
theorem LcPre.hh {HH : Hp} {i : Nat} {H' : Hp} (hp : LcPre K F1 H1 F2 HH enc2 f xs ys L i H') : Ex HH H' := by
  obtain ⟨F', acc, done, rest, e0, _⟩ := hp
  exact e0
theorem en_lcL (src : EvR K tl σ F G (.lst (xs.map enc))) (hf : fmO f xs = some ys) (hw : ∀ x, wipe ((wipe σ vs).set j (some x)) vs = wipe σ vs)
    (ht : ∀ F1 y v o, Ex F F1 → Rp K F1 v (enc y) → f y = some o → EvB tt ((wipe σ vs).set j (some v)) F1 G o.isSome)
    (he : ∀ F1 y v b, Ex F F1 → Rp K F1 v (enc y) → f y = some (some b) → EvR K te ((wipe σ vs).set j (some v)) F1 G (enc2 b)) : EvN K (tLc (iList K tl) (gName j) tt te vs) σ F G (ys.map enc2) := fun F1 H1 e1 e2 e3 Q q =>
  src F1 H1 e1 e2 e3 _ fun v F2 H2 g r => by
    obtain ⟨a, us, rfl, h1, h2, z⟩ := r.lst_
    rw [List.length_map] at z
    refine ⟨a, rfl, ⟨us, .of (g.fh _ _ h1)⟩, fun L hD => ?_⟩
    refine lc_list (xs := us) (LcPre K F1 H1 F2 H2 enc2 f xs ys L) (lc_start g hD hf) (fun i H' _ hp => .of (hp.fh _ _ h1)) (fun i v H' hv hp => ?_) (fun H' hp => ?_)
    · obtain ⟨d, k1, k2⟩ := h2.get hv
      obtain ⟨y, k3, rfl⟩ := map_at k1
      exact lc_turn (e1.trans g.f) e3 (g.h.free hD) hD z hw ht he k3 k2 hp
    · rw [h2.len, List.length_map] at hp
      exact lc_end (g.h.free hD) z q hp
theorem en_lcS (src : EvS K tl σ F G (xs.map enc)) (hf : fmO f xs = some ys) (hw : ∀ x, wipe ((wipe σ vs).set j (some x)) vs = wipe σ vs)
    (ht : ∀ F1 y v o, Ex F F1 → Rp K F1 v (enc y) → f y = some o → EvB tt ((wipe σ vs).set j (some v)) F1 G o.isSome)
    (he : ∀ F1 y v b, Ex F F1 → Rp K F1 v (enc y) → f y = some (some b) → EvR K te ((wipe σ vs).set j (some v)) F1 G (enc2 b)) : EvN K (tLc (iList K tl) (gName j) tt te vs) σ F G (ys.map enc2) := fun F1 H1 e1 e2 e3 Q q =>
  src F1 H1 e1 e2 e3 _ fun a us F2 H2 g h1 h2 z => by
    rw [List.length_map] at z
    refine ⟨a, rfl, ⟨us, .of h1⟩, fun L hD => ?_⟩
    refine lc_list (xs := us) (LcPre K F1 H1 F2 H2 enc2 f xs ys L) (lc_start g hD hf) (fun i H' _ hp => .of (hp.hh _ _ h1)) (fun i v H' hv hp => ?_) (fun H' hp => ?_)
    · obtain ⟨d, k1, k2⟩ := h2.get hv
      obtain ⟨y, k3, rfl⟩ := map_at k1
      exact lc_turn (e1.trans g.f) e3 (g.h.free hD) hD z hw ht he k3 k2 hp
    · rw [h2.len, List.length_map] at hp
      exact lc_end (g.h.free hD) z q hp
theorem en_lcT (src : EvR K tl σ F G (.tup (xs.map enc))) (hf : fmO f xs = some ys) (hw : ∀ x, wipe ((wipe σ vs).set j (some x)) vs = wipe σ vs)
    (ht : ∀ F1 y v o, Ex F F1 → Rp K F1 v (enc y) → f y = some o → EvB tt ((wipe σ vs).set j (some v)) F1 G o.isSome)
    (he : ∀ F1 y v b, Ex F F1 → Rp K F1 v (enc y) → f y = some (some b) → EvR K te ((wipe σ vs).set j (some v)) F1 G (enc2 b)) : EvN K (tLc (iTup K tl) (gName j) tt te vs) σ F G (ys.map enc2) := fun F1 H1 e1 e2 e3 Q q =>
  src F1 H1 e1 e2 e3 _ fun v F2 H2 g r => by
    obtain ⟨a, us, rfl, h1, h2, z⟩ := r.tup_
    rw [List.length_map] at z
    refine ⟨a, rfl, ⟨us, sqT_ex g.fh h1⟩, fun L hD => ?_⟩
    refine lc_tup (xs := us) (LcPre K F1 H1 F2 H2 enc2 f xs ys L) (lc_start g hD hf) (fun i H' _ hp => sqT_ex hp.fh h1) (fun i v H' hv hp => ?_) (fun H' hp => ?_)
    · obtain ⟨d, k1, k2⟩ := h2.get hv
      obtain ⟨y, k3, rfl⟩ := map_at k1
      exact lc_turn (e1.trans g.f) e3 (g.h.free hD) hD z hw ht he k3 k2 hp
    · rw [h2.len, List.length_map] at hp
      exact lc_end (g.h.free hD) z q hp
def rgS (lo hi : Int) : Option (List Int) := if -(2 ^ 62) ≤ lo ∧ lo < 2 ^ 62 ∧ -(2 ^ 62) ≤ hi ∧ hi < 2 ^ 62 ∧ (hi - lo).toNat ≤ sizeLine then some (rangeL lo hi) else none
theorem en_lcR1 {ta : TE} {n : Int} {xs : List Int} {f : Int → Option (Option β)} (src : EvR K ta σ F G (.int n)) (hx : rgS 0 n = some xs) (hf : fmO f xs = some ys) (hw : ∀ x, wipe ((wipe σ vs).set j (some x)) vs = wipe σ vs)
    (ht : ∀ F1 y v o, Ex F F1 → Rp K F1 v (.int y) → f y = some o → EvB tt ((wipe σ vs).set j (some v)) F1 G o.isSome)
    (he : ∀ F1 y v b, Ex F F1 → Rp K F1 v (.int y) → f y = some (some b) → EvR K te ((wipe σ vs).set j (some v)) F1 G (enc2 b)) : EvN K (tLc (iRng1 (tCons ta tNil)) (gName j) tt te vs) σ F G (ys.map enc2) := fun F1 H1 e1 e2 e3 Q q => by
  unfold rgS at hx
  split at hx
  · rename_i hh
    cases hx
    refine src F1 H1 e1 e2 e3 _ fun v F2 H2 g r => ?_
    have hn : (n - 0).toNat = n.toNat := by rw [Int.sub_zero]
    refine ⟨n, by rw [r.int_], hh.2.2.1, hh.2.2.2.1, fun L hD => ?_⟩
    have z : (rangeL 0 n).length ≤ sizeLine := by rw [rangeL_len]; exact hh.2.2.2.2
    refine lc_range (lo := 0) (n := n.toNat) (LcPre K F1 H1 F2 H2 enc2 f (rangeL 0 n) ys L) (lc_start g hD hf) (fun i H' hv hp => ?_) (fun H' hp => ?_)
    · exact lc_turn (enc := D.int) (e1.trans g.f) e3 (g.h.free hD) hD z hw ht he (rangeL_at (by rw [hn]; exact hv)) (.int _) hp
    · have e : n.toNat = (rangeL 0 n).length := by rw [rangeL_len, hn]
      rw [e] at hp
      exact lc_end (g.h.free hD) z q hp
  · cases hx
theorem en_lcR2 {ta tb : TE} {m n : Int} {xs : List Int} {f : Int → Option (Option β)} (srca : EvR K ta σ F G (.int m)) (srcb : EvR K tb σ F G (.int n)) (hx : rgS m n = some xs) (hf : fmO f xs = some ys) (hw : ∀ x, wipe ((wipe σ vs).set j (some x)) vs = wipe σ vs)
    (ht : ∀ F1 y v o, Ex F F1 → Rp K F1 v (.int y) → f y = some o → EvB tt ((wipe σ vs).set j (some v)) F1 G o.isSome)
    (he : ∀ F1 y v b, Ex F F1 → Rp K F1 v (.int y) → f y = some (some b) → EvR K te ((wipe σ vs).set j (some v)) F1 G (enc2 b)) : EvN K (tLc (iRng2 (tCons ta (tCons tb tNil))) (gName j) tt te vs) σ F G (ys.map enc2) := fun F1 H1 e1 e2 e3 Q q => by
  unfold rgS at hx
  split at hx
  · rename_i hh
    cases hx
    refine srca F1 H1 e1 e2 e3 _ fun v F2 H2 g2 r2 => srcb F2 H2 (e1.trans g2.f) g2.fh (e3.trans g2.h) _ fun w F3 H3 g3 r3 => ?_
    have g := g2.trans g3
    refine ⟨m, n, by rw [r2.int_, r3.int_], ⟨hh.1, hh.2.1, hh.2.2.1, hh.2.2.2.1⟩, fun L hD => ?_⟩
    have z : (rangeL m n).length ≤ sizeLine := by rw [rangeL_len]; exact hh.2.2.2.2
    refine lc_range (lo := m) (n := (n - m).toNat) (LcPre K F1 H1 F3 H3 enc2 f (rangeL m n) ys L) (lc_start g hD hf) (fun i H' hv hp => ?_) (fun H' hp => ?_)
    · exact lc_turn (enc := D.int) (e1.trans g.f) e3 (g.h.free hD) hD z hw ht he (rangeL_at hv) (.int _) hp
    · have e : (n - m).toNat = (rangeL m n).length := by rw [rangeL_len]
      rw [e] at hp
      exact lc_end (g.h.free hD) z q hp
  · cases hx
end
/-! ### over the text: a block's expression, whatever block -/
def bE (X : Cx) (scope : Scope) (e : Expr) : TE := fun σ H Q => ∀ (s : Shared) (H0 : Hp) (C : Addr) (cl : List (Str × Addr)) (fp : List Addr), wE (X.blk s H0 scope (compEnvC scope cl C X.env) fp) e σ H Q
def bT (X : Cx) (scope : Scope) (e : Expr) : TT := fun σ H Q => ∀ (s : Shared) (H0 : Hp) (C : Addr) (cl : List (Str × Addr)) (fp : List Addr), wT (X.blk s H0 scope (compEnvC scope cl C X.env) fp) e σ H Q
theorem bE_pe (X : Cx) (scope : Scope) (e : Expr) (s : Shared) (H0 : Hp) (C : Addr) (cl : List (Str × Addr)) (fp : List Addr) : PE (X.blk s H0 scope (compEnvC scope cl C X.env) fp) e (bE X scope e) := ⟨fun pins s' _ _ _ I h => (h s H0 C cl fp).run pins s' I⟩
theorem bT_pt (X : Cx) (scope : Scope) (e : Expr) (s : Shared) (H0 : Hp) (C : Addr) (cl : List (Str × Addr)) (fp : List Addr) : PT (X.blk s H0 scope (compEnvC scope cl C X.env) fp) e (bT X scope e) := ⟨fun pins s' _ _ _ I h => (h s H0 C cl fp).run pins s' I⟩
section
variable {X : Cx} {σ : L2.St} {F0 H0 F G H : Hp} {elt it c a b : Expr} {scope : Scope} {α β : Type} {enc : α → D} {enc2 : β → D} {xs : List α} {ys : List β} {f : α → Option (Option β)} {j : Nat} {pos p spos p1 p2 p3 : Pos} {y x : Str} {rest : List Stmt} {De : Ends} {d : D} {own : List (Str × Nat)}
theorem bE_of (h : ∀ (s : Shared) (H0 : Hp) (C : Addr) (cl' : List (Str × Addr)) (fp : List Addr), EvX (X.blk s H0 scope (compEnvC scope cl' C X.env) fp) elt σ F G d) : EvR X.K (bE X scope elt) σ F G d := fun F1 H1 a b c Q q s H0 C cl' fp => h s H0 C cl' fp F1 H1 a b c Q q
theorem bT_of {t : Bool} (h : ∀ (s : Shared) (H0 : Hp) (C : Addr) (cl' : List (Str × Addr)) (fp : List Addr), EvXB (X.blk s H0 scope (compEnvC scope cl' C X.env) fp) c σ F G t) : EvB (bT X scope c) σ F G t := fun F1 H1 a b c Q q s H0 C cl' fp => h s H0 C cl' fp F1 H1 a b c Q q
theorem eb_yes {F G : Hp} {σ : L2.St} {β : Type} {o : Option β} (h : o.isSome = true) : EvB tYes σ F G o.isSome := fun F1 H1 _ _ _ Q q => by
  rw [h] at q
  exact q H1 (Ex.refl _)
/-- the element's and the test's words -/
abbrev BEl (X : Cx) (scope : Scope) (elt : Expr) (σ : L2.St) (F G : Hp) (d : D) : Prop := ∀ (s : Shared) (H0 : Hp) (C : Addr) (cl' : List (Str × Addr)) (fp : List Addr), EvX (X.blk s H0 scope (compEnvC scope cl' C X.env) fp) elt σ F G d
abbrev BTs (X : Cx) (scope : Scope) (c : Expr) (σ : L2.St) (F G : Hp) (t : Bool) : Prop := ∀ (s : Shared) (H0 : Hp) (C : Addr) (cl' : List (Str × Addr)) (fp : List Addr), EvXB (X.blk s H0 scope (compEnvC scope cl' C X.env) fp) c σ F G t
end
end Gx

namespace Gx
open PySem L2 PySem.Spec PyProof.Rows
section
variable {X : Cx} {σ : L2.St} {F0 H0 F G H : Hp} {elt it c a b : Expr} {scope : Scope} {α β : Type} {enc : α → D} {enc2 : β → D} {xs : List α} {ys : List β} {f : α → Option (Option β)} {j : Nat} {pos p spos p1 p2 p3 : Pos} {y x : Str} {rest : List Stmt} {De : Ends} {d : D} {own : List (Str × Nat)} {tg : Expr}
def LcSrc (X : Cx) (tg it : Expr) (σ : L2.St) (F G : Hp) {α : Type} (enc : α → D) (xs : List α) : Prop :=
  ∃ wi, PI X tg it wi ∧ ∀ {β : Type} (enc2 : β → D) (f : α → Option (Option β)) (ys : List β) (te : TE) (tt : TT) (j : Nat) (vs : List Nat), fmO f xs = some ys → (∀ x, wipe ((wipe σ vs).set j (some x)) vs = wipe σ vs) →
    (∀ F1 y v o, Ex F F1 → Rp X.K F1 v (enc y) → f y = some o → EvB tt ((wipe σ vs).set j (some v)) F1 G o.isSome) →
    (∀ F1 y v b, Ex F F1 → Rp X.K F1 v (enc y) → f y = some (some b) → EvR X.K te ((wipe σ vs).set j (some v)) F1 G (enc2 b)) → EvN X.K (tLc wi (gName j) tt te vs) σ F G (ys.map enc2)
theorem lsL (h : EvX X it σ F G (.lst (xs.map enc))) : LcSrc X tg it σ F G enc xs := ⟨_, pi_list (pe X it), fun enc2 f ys te tt j vs hf hw ht he => en_lcL h hf hw ht he⟩
theorem lsS (h : EvXS X it σ F G (xs.map enc)) : LcSrc X tg it σ F G enc xs := ⟨_, pi_list (pe X it), fun enc2 f ys te tt j vs hf hw ht he => en_lcS h hf hw ht he⟩
theorem lsT (h : EvX X it σ F G (.tup (xs.map enc))) : LcSrc X tg it σ F G enc xs := ⟨_, pi_tup (pe X it), fun enc2 f ys te tt j vs hf hw ht he => en_lcT h hf hw ht he⟩
theorem lsR1 {n : Int} {xs : List Int} (h : EvX X a σ F G (.int n)) (hx : rgS 0 n = some xs) (hm : X.mg "range" = none) (hg : Gl X "range" := by rfl) (hst : starEach [a] X.env = [(false, eval a X.env)] := by rfl) (hst2 : starEach [a] X.env = (false, eval a X.env) :: starEach [] X.env := by rfl) :
    LcSrc X tg (.Call (.Name "range" p2) [a] [] p3) σ F G D.int xs := ⟨_, pi_range1 hg hm (pa_cons (pe X a) pa_nil hst2) hst, fun enc2 f ys te tt j vs hf hw ht he => en_lcR1 h hx hf hw ht he⟩
theorem lsR2 {m n : Int} {xs : List Int} (h : EvX X a σ F G (.int m)) (h2 : EvX X b σ F G (.int n)) (hx : rgS m n = some xs) (hm : X.mg "range" = none) (hg : Gl X "range" := by rfl) (hst : starEach [a, b] X.env = [(false, eval a X.env), (false, eval b X.env)] := by rfl) (hst1 : starEach [b] X.env = [(false, eval b X.env)] := by rfl)
    (hst2 : starEach [a, b] X.env = (false, eval a X.env) :: starEach [b] X.env := by rfl) (hst3 : starEach [b] X.env = (false, eval b X.env) :: starEach [] X.env := by rfl) :
    LcSrc X tg (.Call (.Name "range" p2) [a, b] [] p3) σ F G D.int xs := ⟨_, pi_range2 hg hm (pa_cons (pe X a) (pa_cons (pe X b) pa_nil hst3) hst2) hst hst1, fun enc2 f ys te tt j vs hf hw ht he => en_lcR2 h h2 hx hf hw ht he⟩
/-- [elt for x in it] -/
theorem n_lc (own : List (Str × Nat)) (j : Nat) (nd : X.N.Nodup) (src : LcSrc X (.Name x p) it σ F G enc xs) (hf : fmO f xs = some ys) (ok : BlkOk X.N X.env.scope scope own)
    (he : ∀ F1 z v b, Ex F F1 → Rp X.K F1 v (enc z) → f z = some (some b) → BEl X scope elt ((wipe σ (own.map (·.2))).set j (some v)) F1 G (enc2 b)) (hy : ∀ z, f z ≠ some none)
    (hg : ∀ (s : Shared) (H : Hp) (C : Addr) (cl : List (Str × Addr)) (fp : List Addr), PG (X.blk s H scope (compEnvC scope cl C X.env) fp) (.Name x p) (gName j) := by exact fun _ _ _ _ _ => pg_name (by assumption) rfl (Or.inl rfl))
    (hw : ∀ v, wipe ((wipe σ (own.map (·.2))).set j (some v)) (own.map (·.2)) = wipe σ (own.map (·.2)) := by intro _; rfl) (hc : X.calm = true := by rfl) (hs : ∀ z, foldedSetIterable it X.env z = pure z := by intro _; rfl) : EvXN X (.ListComp elt [⟨.Name x p, it, [], 0⟩] scope pos) σ F G (ys.map enc2) := by
  obtain ⟨wi, hpi, hev⟩ := src
  refine EvXN.of (pe_lc (own := own) hc nd hpi ok hg (fun _ _ _ _ _ => pts_nil) (bE_pe X scope elt) hs) ?_
  refine hev enc2 f ys _ _ j _ hf hw (fun F1 z v o _ _ hz => eb_yes ?_) (fun F1 z v b e r hz => bE_of (he F1 z v b e r hz))
  cases o with
  | none => exact absurd hz (hy z)
  | some b => rfl
/-- [elt for x in it if c] -/
theorem n_lcIf (own : List (Str × Nat)) (j : Nat) (nd : X.N.Nodup) (src : LcSrc X (.Name x p) it σ F G enc xs) (hf : fmO f xs = some ys) (ok : BlkOk X.N X.env.scope scope own)
    (ht : ∀ F1 z v o, Ex F F1 → Rp X.K F1 v (enc z) → f z = some o → BTs X scope c ((wipe σ (own.map (·.2))).set j (some v)) F1 G o.isSome)
    (he : ∀ F1 z v b, Ex F F1 → Rp X.K F1 v (enc z) → f z = some (some b) → BEl X scope elt ((wipe σ (own.map (·.2))).set j (some v)) F1 G (enc2 b))
    (hg : ∀ (s : Shared) (H : Hp) (C : Addr) (cl : List (Str × Addr)) (fp : List Addr), PG (X.blk s H scope (compEnvC scope cl C X.env) fp) (.Name x p) (gName j) := by exact fun _ _ _ _ _ => pg_name (by assumption) rfl (Or.inl rfl))
    (hw : ∀ v, wipe ((wipe σ (own.map (·.2))).set j (some v)) (own.map (·.2)) = wipe σ (own.map (·.2)) := by intro _; rfl) (hc : X.calm = true := by rfl) (hs : ∀ z, foldedSetIterable it X.env z = pure z := by intro _; rfl) : EvXN X (.ListComp elt [⟨.Name x p, it, [c], 0⟩] scope pos) σ F G (ys.map enc2) := by
  obtain ⟨wi, hpi, hev⟩ := src
  refine EvXN.of (pe_lc (own := own) hc nd hpi ok hg (fun s H C cl' fp => pts_one (bT_pt X scope c s H C cl' fp)) (bE_pe X scope elt) hs) ?_
  exact hev enc2 f ys _ _ j _ hf hw (fun F1 z v o e r hz => bT_of (ht F1 z v o e r hz)) (fun F1 z v b e r hz => bE_of (he F1 z v b e r hz))
/-- name = [elt for x in it] -/
theorem s_lc (i : Nat) (own : List (Str × Nat)) (j : Nat) (nd : X.N.Nodup) (g0 : Gr F0 H0 F H) (src : LcSrc X (.Name x p) it σ F H enc xs) (hf : fmO f xs = some ys) (ok : BlkOk X.N X.env.scope scope own)
    (he : ∀ F1 z v b, Ex F F1 → Rp X.K F1 v (enc z) → f z = some (some b) → BEl X scope elt ((wipe σ (own.map (·.2))).set j (some v)) F1 H (enc2 b)) (hn : ∀ z, f z ≠ some none)
    (k : ∀ l F' H', Gr F H F' H' → Gr F0 H0 F' H' → H l = none → OwnL X.K H0 F' H' l (ys.map enc2) → wSs X rest De (σ.set i (some (.ref l))) H')
    (hyl : X.env.scope.names.lookup y = some .local := by rfl) (hsw : swapsWith (.ListComp elt [⟨.Name x p, it, [], 0⟩] scope pos) (some (.Name y p1)) spos.line X.env = pure true := by exact sw_true rfl rfl rfl (by decide +kernel)) (hy : X.N[i]? = some y := by rfl)
    (hg : ∀ (s : Shared) (H : Hp) (C : Addr) (cl : List (Str × Addr)) (fp : List Addr), PG (X.blk s H scope (compEnvC scope cl C X.env) fp) (.Name x p) (gName j) := by exact fun _ _ _ _ _ => pg_name (by assumption) rfl (Or.inl rfl))
    (hw : ∀ v, wipe ((wipe σ (own.map (·.2))).set j (some v)) (own.map (·.2)) = wipe σ (own.map (·.2)) := by intro _; rfl) (hc : X.calm = true := by rfl) (hs : ∀ z, foldedSetIterable it X.env z = pure z := by intro _; rfl) :
    wSs X (.Assign [.Name y p1] (.ListComp elt [⟨.Name x p, it, [], 0⟩] scope pos) spos :: rest) De σ H := by
  obtain ⟨wi, hpi, hev⟩ := src
  refine s_cons (ps_setLc (own := own) hc nd hy hyl hsw hpi ok hg (fun _ _ _ _ _ => pts_nil) (bE_pe X scope elt) hs) ?_
  refine hev enc2 f ys _ _ j _ hf hw (fun F1 z v o _ _ hz => eb_yes ?_) (fun F1 z v b e r hz => bE_of (he F1 z v b e r hz)) F H (Ex.refl F) g0.fh (Ex.refl H) _ fun l vs F' H' g n1 n2 hp r z => k l F' H' g (g0.trans g) n1 (.mkL hp r z n2 (g0.h.free n1))
  cases o with
  | none => exact absurd hz (hn z)
  | some b => rfl
/-- name = [elt for x in it if c] -/
theorem s_lcIf (i : Nat) (own : List (Str × Nat)) (j : Nat) (nd : X.N.Nodup) (g0 : Gr F0 H0 F H) (src : LcSrc X (.Name x p) it σ F H enc xs) (hf : fmO f xs = some ys) (ok : BlkOk X.N X.env.scope scope own)
    (ht : ∀ F1 z v o, Ex F F1 → Rp X.K F1 v (enc z) → f z = some o → BTs X scope c ((wipe σ (own.map (·.2))).set j (some v)) F1 H o.isSome)
    (he : ∀ F1 z v b, Ex F F1 → Rp X.K F1 v (enc z) → f z = some (some b) → BEl X scope elt ((wipe σ (own.map (·.2))).set j (some v)) F1 H (enc2 b))
    (k : ∀ l F' H', Gr F H F' H' → Gr F0 H0 F' H' → H l = none → OwnL X.K H0 F' H' l (ys.map enc2) → wSs X rest De (σ.set i (some (.ref l))) H')
    (hyl : X.env.scope.names.lookup y = some .local := by rfl) (hsw : swapsWith (.ListComp elt [⟨.Name x p, it, [c], 0⟩] scope pos) (some (.Name y p1)) spos.line X.env = pure true := by exact sw_true rfl rfl rfl (by decide +kernel)) (hy : X.N[i]? = some y := by rfl)
    (hg : ∀ (s : Shared) (H : Hp) (C : Addr) (cl : List (Str × Addr)) (fp : List Addr), PG (X.blk s H scope (compEnvC scope cl C X.env) fp) (.Name x p) (gName j) := by exact fun _ _ _ _ _ => pg_name (by assumption) rfl (Or.inl rfl))
    (hw : ∀ v, wipe ((wipe σ (own.map (·.2))).set j (some v)) (own.map (·.2)) = wipe σ (own.map (·.2)) := by intro _; rfl) (hc : X.calm = true := by rfl) (hs : ∀ z, foldedSetIterable it X.env z = pure z := by intro _; rfl) :
    wSs X (.Assign [.Name y p1] (.ListComp elt [⟨.Name x p, it, [c], 0⟩] scope pos) spos :: rest) De σ H := by
  obtain ⟨wi, hpi, hev⟩ := src
  refine s_cons (ps_setLc (own := own) hc nd hy hyl hsw hpi ok hg (fun s H C cl' fp => pts_one (bT_pt X scope c s H C cl' fp)) (bE_pe X scope elt) hs) ?_
  exact hev enc2 f ys _ _ j _ hf hw (fun F1 z v o e r hz => bT_of (ht F1 z v o e r hz)) (fun F1 z v b e r hz => bE_of (he F1 z v b e r hz)) F H (Ex.refl F) g0.fh (Ex.refl H) _ fun l vs F' H' g n1 n2 hp r z => k l F' H' g (g0.trans g) n1 (.mkL hp r z n2 (g0.h.free n1))
end
end Gx

namespace Gx
open PySem L2 PySem.Spec PyProof.Rows
/-! ### comparisons, as values and as tests -/
def wC (X : Cx) (op : CmpOp) (a b : Expr) : TE := fun σ H Q => ∀ pins s, Inv X pins σ H s →
    wpAny (model X.prog X.w) X.A (eval a X.env) (fun v s₁ => wpAny (model X.prog X.w) X.A (eval b X.env) (fun u s₂ => wpAny (model X.prog X.w) X.A (compareOp op v u) (EP X pins σ Q) X.xe s₂) X.xe s₁) X.xe s
theorem pc (X : Cx) (op : CmpOp) (a b : Expr) : PC X op a b (wC X op a b) := ⟨fun pins s _ _ _ I h => h pins s I⟩
abbrev EvXC (X : Cx) (op : CmpOp) (a b : Expr) (σ : L2.St) (F G : Hp) (t : Bool) : Prop := EvR X.K (wC X op a b) σ F G (.bl t)
section
variable {X : Cx} {σ : L2.St} {F G : Hp} {e a b c : Expr} {es rest : List Expr} {d da db : D} {ds : List D} {pos p : Pos} {u v t : Bool} {op : CmpOp} {r : R2}
theorem EvXC.of {te : TE} (p : PC X op a b te) (h : EvR X.K te σ F G (.bl t)) : EvXC X op a b σ F G t := fun F1 H1 a b c Q q pins s I => p.run pins s _ _ _ I (h F1 H1 a b c Q q)
theorem pc_opR (ho : OpR X (compareOp op) r) : PC X op a b (tOp r (wE X a) (wE X b)) := by
  refine ⟨fun pins s σ H Q I h => ?_⟩
  exact bin (pe X a) (pe X b) I h fun v u s2 x y H2 I2 rx ry q => ho pins s2 σ H2 x y v u Q I2 rx ry q
theorem x_cmp (h : EvXC X op a b σ F G t) (hm : behindInMarks op b = false := by first | rfl | exact nobehind _ (by decide) (by decide)) : EvX X (.Compare a [op] [b] pos) σ F G (.bl t) := EvX.of (pe_cmp (pc X op a b) hm) h
theorem xb_cmp (h : EvXC X op a b σ F G t) (hm : behindInMarks op b = false := by first | rfl | exact nobehind _ (by decide) (by decide)) : EvXB X (.Compare a [op] [b] pos) σ F G t := EvXB.of (pt_cmp (pc X op a b) hm) (eb_val h)
section
variable {i j : Int}
theorem c_lt (ha : EvX X a σ F G (.int i)) (hb : EvX X b σ F G (.int j)) : EvXC X .Lt a b σ F G (decide (i < j)) := EvXC.of (pc_opR op_lt) (er_op ha hb (rv_I0 (.bl _)))
theorem c_le (ha : EvX X a σ F G (.int i)) (hb : EvX X b σ F G (.int j)) : EvXC X .LtE a b σ F G (decide (i ≤ j)) := EvXC.of (pc_opR op_le) (er_op ha hb (rv_I0 (.bl _)))
theorem c_gt (ha : EvX X a σ F G (.int i)) (hb : EvX X b σ F G (.int j)) : EvXC X .Gt a b σ F G (decide (j < i)) := EvXC.of (pc_opR op_gt) (er_op ha hb (rv_I0 (.bl _)))
theorem c_ge (ha : EvX X a σ F G (.int i)) (hb : EvX X b σ F G (.int j)) : EvXC X .GtE a b σ F G (decide (j ≤ i)) := EvXC.of (pc_opR op_ge) (er_op ha hb (rv_I0 (.bl _)))
theorem c_eq (ha : EvX X a σ F G (.int i)) (hb : EvX X b σ F G (.int j)) : EvXC X .Eq a b σ F G (decide (i = j)) := EvXC.of (pc_opR op_eq) (er_op ha hb fun F1 H1 e x y rx ry Q q => by
  rw [rx.int_, ry.int_]
  exact ⟨rfl, by rw [show decide (V.int i = V.int j) = decide (i = j) by simp]; exact q _ F1 H1 (Gr.refl e) (.bl _)⟩)
theorem c_ne (ha : EvX X a σ F G (.int i)) (hb : EvX X b σ F G (.int j)) : EvXC X .NotEq a b σ F G (!decide (i = j)) := EvXC.of (pc_opR op_ne) (er_op ha hb fun F1 H1 e x y rx ry Q q => by
  rw [rx.int_, ry.int_]
  exact ⟨rfl, by rw [show decide (V.int i = V.int j) = decide (i = j) by simp]; exact q _ F1 H1 (Gr.refl e) (.bl _)⟩)
end
theorem c_eqS {i j : Str} (ha : EvX X a σ F G (.str i)) (hb : EvX X b σ F G (.str j)) : EvXC X .Eq a b σ F G (decide (i = j)) := EvXC.of (pc_opR op_eq) (er_op ha hb fun F1 H1 e x y rx ry Q q => by
  rw [rx.str_, ry.str_]
  exact ⟨rfl, by rw [show decide (V.str i = V.str j) = decide (i = j) by simp]; exact q _ F1 H1 (Gr.refl e) (.bl _)⟩)
theorem c_neS {i j : Str} (ha : EvX X a σ F G (.str i)) (hb : EvX X b σ F G (.str j)) : EvXC X .NotEq a b σ F G (!decide (i = j)) := EvXC.of (pc_opR op_ne) (er_op ha hb fun F1 H1 e x y rx ry Q q => by
  rw [rx.str_, ry.str_]
  exact ⟨rfl, by rw [show decide (V.str i = V.str j) = decide (i = j) by simp]; exact q _ F1 H1 (Gr.refl e) (.bl _)⟩)
theorem c_isN {j p2} (ha : EvX X a σ F G d) : EvXC X .Is a (.Constant .none j p2) σ F G (isNon d) := EvXC.of (pc_isN (pe X a)) fun F1 H1 e1 e2 e3 Q q =>
  ha F1 H1 e1 e2 e3 _ fun v F2 H2 g r => by
    rw [r.isNon]
    exact q _ F2 H2 g (.bl _)
theorem c_notN {j p2} (ha : EvX X a σ F G d) : EvXC X .IsNot a (.Constant .none j p2) σ F G (!isNon d) := EvXC.of (pc_notN (pe X a)) fun F1 H1 e1 e2 e3 Q q =>
  ha F1 H1 e1 e2 e3 _ fun v F2 H2 g r => by
    rw [r.isNon]
    exact q _ F2 H2 g (.bl _)
theorem c_inI {i : Int} {xs : List Int} (ha : EvX X a σ F G (.int i)) (hb : EvXS X b σ F G (xs.map D.int)) : EvXC X .In a b σ F G (inI i xs) :=
  EvXC.of (pc_opR op_in_seq) fun F1 H1 e1 e2 e3 Q q => ha F1 H1 e1 e2 e3 _ fun v F2 H2 g2 r2 => hb F2 H2 (e1.trans g2.f) g2.fh (e3.trans g2.h) _ fun l vs F3 H3 g3 hl r3 z3 => by
    rw [r2.int_]
    rw [r3.ints] at hl
    exact ⟨l, _, rfl, .inl (.of hl), rfl, flat_ints xs, by rw [inV_ints]; exact q _ F3 H3 (g2.trans g3) (.bl _)⟩
theorem c_niI {i : Int} {xs : List Int} (ha : EvX X a σ F G (.int i)) (hb : EvXS X b σ F G (xs.map D.int)) : EvXC X .NotIn a b σ F G (!inI i xs) :=
  EvXC.of (pc_opR op_notIn_seq) fun F1 H1 e1 e2 e3 Q q => ha F1 H1 e1 e2 e3 _ fun v F2 H2 g2 r2 => hb F2 H2 (e1.trans g2.f) g2.fh (e3.trans g2.h) _ fun l vs F3 H3 g3 hl r3 z3 => by
    rw [r2.int_]
    rw [r3.ints] at hl
    exact ⟨l, _, rfl, .inl (.of hl), rfl, flat_ints xs, by rw [inV_ints]; exact q _ F3 H3 (g2.trans g3) (.bl _)⟩
theorem c_eqD (hu : X.A.units + 64 < cLine) (ha : EvX X a σ F G da) (hb : EvX X b σ F G db) (h : eqO da db = some t) : EvXC X .Eq a b σ F G t := by
  obtain ⟨pd, qd, h1, h2, h3, h4, rfl⟩ := eqO_is h
  exact EvXC.of (pc_opR (op_eqD hu)) (er_op ha hb fun F1 H1 e x y rx ry Q q => ⟨pd, qd, Rp.dp _ _ _ (rx.up e) h1, Rp.dp _ _ _ (ry.up e) h2, h3, h4, q _ F1 H1 (Gr.refl e) (.bl _)⟩)
theorem c_neD (hu : X.A.units + 64 < cLine) (ha : EvX X a σ F G da) (hb : EvX X b σ F G db) (h : eqO da db = some t) : EvXC X .NotEq a b σ F G (!t) := by
  obtain ⟨pd, qd, h1, h2, h3, h4, rfl⟩ := eqO_is h
  exact EvXC.of (pc_opR (op_neD hu)) (er_op ha hb fun F1 H1 e x y rx ry Q q => ⟨pd, qd, Rp.dp _ _ _ (rx.up e) h1, Rp.dp _ _ _ (ry.up e) h2, h3, h4, q _ F1 H1 (Gr.refl e) (.bl _)⟩)
/-- if xs: -/
theorem xb_truS (h : EvXS X e σ F G ds) (he : ∀ whole, isTrue e X.env whole = (do let v ← whole; standAt e.pos; holding [v] (truthy v)) := by intro _; rfl) : EvXB X e σ F G (!ds.isEmpty) := EvXB.of (pt_truth (pe X e) he) fun F1 H1 e1 e2 e3 Q q =>
  h F1 H1 e1 e2 e3 _ fun p vs F2 H2 g hp r z => ⟨!ds.isEmpty, .inl ⟨vs, .of hp, by cases r <;> rfl⟩, q H2 g.h⟩
end
end Gx

namespace Gx
open PySem L2 PySem.Spec PyProof.Rows
/-! ### encodings -/
@[reducible] def encD : D → D := fun d => d
@[reducible] def encN : Unit → D := fun _ => .non
@[reducible] def encL {α : Type} (f : α → D) : List α → D := fun xs => .lst (xs.map f)
@[reducible] def encT {α : Type} (f : α → D) : List α → D := fun xs => .tup (xs.map f)
@[reducible] def encO {α : Type} (f : α → D) : Option α → D := fun o => match o with | none => .non | some a => f a
@[reducible] def encP2 {α β : Type} (f : α → D) (g : β → D) : α × β → D := fun p => .tup [f p.1, g p.2]
@[reducible] def encP3 {α β γ : Type} (f : α → D) (g : β → D) (h : γ → D) : α × β × γ → D := fun p => .tup [f p.1, g p.2.1, h p.2.2]
@[reducible] def encQ {α : Type} (f : α → D) : Bool × List α → D := fun p => if p.1 = true then .lst (p.2.map f) else .tup (p.2.map f)
class NN {α : Type} (f : α → D) : Prop where
  nn : ∀ x, isNon (f x) = false
instance : NN D.int := ⟨fun _ => rfl⟩
instance : NN D.bl := ⟨fun _ => rfl⟩
instance : NN D.str := ⟨fun _ => rfl⟩
instance {α : Type} {f : α → D} : NN (encL f) := ⟨fun _ => rfl⟩
instance {α : Type} {f : α → D} : NN (encT f) := ⟨fun _ => rfl⟩
instance {α β : Type} {f : α → D} {g : β → D} : NN (encP2 f g) := ⟨fun _ => rfl⟩
instance {α β γ : Type} {f : α → D} {g : β → D} {h : γ → D} : NN (encP3 f g h) := ⟨fun _ => rfl⟩
theorem isNon_opt {α : Type} {f : α → D} [NN f] (o : Option α) : isNon (encO f o) = o.isNone := by
  cases o with
  | none => rfl
  | some a => exact NN.nn a
def vOI : Option Int → V
  | none => .non
  | some i => .int i
theorem flat_oi (o : Option Int) : flatD (encO D.int o) = some (vOI o) := by cases o <;> rfl
theorem rp_oi {K : PySem.W.Frag} {H : Hp} (o : Option Int) : Rp K H (vOI o) (encO D.int o) := by
  cases o with
  | none => exact .non
  | some i => exact .int i
theorem Ex.rf {F0 F : Hp} (e : Ex F0 F) : Ex F F := Ex.refl F
def aft {S ρ R : Type} (o : Fl S ρ) (k : S → Option R) (kr : ρ → Option R) : Option R := match o with | .nx s => k s | .bk s => k s | .rt r => kr r
section
variable {K : PySem.W.Frag} {H : Hp} {d1 d2 d3 d4 d5 d6 : D} {vs : List V}
theorem RpL.n1 (h : RpL K H vs [d1]) : ∃ v1, vs = [v1] ∧ Rp K H v1 d1 := h.one
theorem RpL.n2 (h : RpL K H vs [d1, d2]) : ∃ v1 v2, vs = [v1, v2] ∧ Rp K H v1 d1 ∧ Rp K H v2 d2 := h.two
theorem RpL.n3 (h : RpL K H vs [d1, d2, d3]) : ∃ v1 v2 v3, vs = [v1, v2, v3] ∧ Rp K H v1 d1 ∧ Rp K H v2 d2 ∧ Rp K H v3 d3 := by
  cases h with
  | cons a h =>
    obtain ⟨v2, v3, rfl, b, c⟩ := h.n2
    exact ⟨_, _, _, rfl, a, b, c⟩
theorem RpL.n4 (h : RpL K H vs [d1, d2, d3, d4]) : ∃ v1 v2 v3 v4, vs = [v1, v2, v3, v4] ∧ Rp K H v1 d1 ∧ Rp K H v2 d2 ∧ Rp K H v3 d3 ∧ Rp K H v4 d4 := by
  cases h with
  | cons a h =>
    obtain ⟨v2, v3, v4, rfl, b, c, d⟩ := h.n3
    exact ⟨_, _, _, _, rfl, a, b, c, d⟩
theorem RpL.n5 (h : RpL K H vs [d1, d2, d3, d4, d5]) : ∃ v1 v2 v3 v4 v5, vs = [v1, v2, v3, v4, v5] ∧ Rp K H v1 d1 ∧ Rp K H v2 d2 ∧ Rp K H v3 d3 ∧ Rp K H v4 d4 ∧ Rp K H v5 d5 := by
  cases h with
  | cons a h =>
    obtain ⟨v2, v3, v4, v5, rfl, b, c, d, e⟩ := h.n4
    exact ⟨_, _, _, _, _, rfl, a, b, c, d, e⟩
theorem RpL.n6 (h : RpL K H vs [d1, d2, d3, d4, d5, d6]) : ∃ v1 v2 v3 v4 v5 v6, vs = [v1, v2, v3, v4, v5, v6] ∧ Rp K H v1 d1 ∧ Rp K H v2 d2 ∧ Rp K H v3 d3 ∧ Rp K H v4 d4 ∧ Rp K H v5 d5 ∧ Rp K H v6 d6 := by
  cases h with
  | cons a h =>
    obtain ⟨v2, v3, v4, v5, v6, rfl, b, c, d, e, f⟩ := h.n5
    exact ⟨_, _, _, _, _, _, rfl, a, b, c, d, e, f⟩
end
/-! ### reading what is one's own -/
def RdL (K : PySem.W.Frag) (F G : Hp) (l : Addr) (ds : List D) : Prop := ∃ vs, G l = some (.lst vs) ∧ RpL K F vs ds ∧ ds.length ≤ sizeLine
theorem RdL.up {K : PySem.W.Frag} {F F' G : Hp} {l : Addr} {ds : List D} (h : RdL K F G l ds) (e : Ex F F') : RdL K F' G l ds := by
  obtain ⟨vs, h1, h2, z⟩ := h
  exact ⟨vs, h1, h2.up e, z⟩
theorem OwnO.rd {K : PySem.W.Frag} {H0 F H : Hp} {l : Addr} {ds : List D} (h : OwnO K H0 F H l (.lst ds)) : RdL K F H l ds := h.lst
def mpO {α β : Type} (f : α → Option β) (xs : List α) : Option (List β) := fmO (fun x => (f x).bind fun y => some (some y)) xs
def flO {α β : Type} (t : α → Option Bool) (f : α → Option β) (xs : List α) : Option (List β) := fmO (fun x => (t x).bind fun c => if c = true then (f x).bind fun y => some (some y) else some none) xs
theorem catO_map {α β : Type} {f : α → β} {xs ys zs : List α} (h : catO xs ys = some zs) : catO (xs.map f) (ys.map f) = some (zs.map f) := by
  unfold catO at h ⊢
  rw [List.length_map, List.length_map]
  split at h
  · cases h
    rw [if_pos (by assumption)]
    simp
  · cases h
theorem repO_map {α β : Type} {f : α → β} {xs zs : List α} {k : Int} (h : repO xs k = some zs) : repO (xs.map f) k = some (zs.map f) := by
  unfold repO at h ⊢
  rw [List.length_map]
  split at h
  · cases h
    rw [if_pos (by assumption)]
    simp [List.map_flatten, List.map_replicate]
  · cases h
section
variable {X : Cx} {σ : L2.St} {F0 H0 F G H F1 : Hp} {elt it c a b e : Expr} {scope : Scope} {α β : Type} {enc : α → D} {enc2 : β → D} {xs : List α} {ys : List β} {j : Nat} {pos p spos p1 p2 p3 : Pos} {y x : Str} {rest body : List Stmt} {De : Ends} {d : D} {ds : List D} {own : List (Str × Nat)} {tg : Expr} {l : Addr} {t : Bool}
theorem xs_rd (i : Nat) (ho : RdL X.K F G l ds) (h : σ[i]? = some (some (.ref l)) := by rfl) (hN : X.N[i]? = some x := by rfl) (hv : Vis X.env.scope x := by first | exact Or.inl rfl | exact Or.inr (Or.inl rfl) | exact Or.inr (Or.inr rfl))
    (hd : (x == ("__debug__" : Str)) = false := by decide) (hcd : (x == ("__classdict__" : Str)) = false := by decide) : EvXS X (.Name x pos) σ F G ds := by
  obtain ⟨vs, h1, h2, z⟩ := ho
  exact EvXS.of (pe_var hN hv hd hcd) (es_own h h1 h2 z)
theorem EvR.un {K : PySem.W.Frag} {te : TE} {o : Option α} {y : α} (h : o = some y) (r : EvR K te σ F G (encO enc o)) : EvR K te σ F G (enc y) := by
  subst h
  exact r
theorem c_isO {o : Option α} [NN enc] (ha : EvX X a σ F G (encO enc o)) {j : Nat} : EvXC X .Is a (.Constant .none j p2) σ F G o.isNone := (c_isN ha).to (by rw [isNon_opt])
theorem c_noO {o : Option α} [NN enc] (ha : EvX X a σ F G (encO enc o)) {j : Nat} : EvXC X .IsNot a (.Constant .none j p2) σ F G (!o.isNone) := (c_notN ha).to (by rw [isNon_opt])
theorem x_lenM (h : EvXS X e σ F G (xs.map enc)) (hm : X.mg "len" = none) (hg : Gl X "len" := by rfl) (hs : starEach [e] X.env = (false, eval e X.env) :: starEach [] X.env := by rfl) (hpl : (backTo pos (starEach [] X.env)).any (·.1) = false := by rfl) :
    EvX X (.Call (.Name "len" p) [e] [] pos) σ F G (.int (xs.length : Int)) := by
  have q := x_len (p := p) h hm hg hs hpl
  rw [List.length_map] at q
  exact q
theorem x_lenTM (h : EvX X e σ F G (.tup (xs.map enc))) (hm : X.mg "len" = none) (hg : Gl X "len" := by rfl) (hs : starEach [e] X.env = (false, eval e X.env) :: starEach [] X.env := by rfl) (hpl : (backTo pos (starEach [] X.env)).any (·.1) = false := by rfl) :
    EvX X (.Call (.Name "len" p) [e] [] pos) σ F G (.int (xs.length : Int)) := by
  have q := x_lenT (p := p) h hm hg hs hpl
  rw [List.length_map] at q
  exact q
theorem xb_truL (h : EvXS X e σ F G (xs.map enc)) (he : ∀ whole, isTrue e X.env whole = (do let v ← whole; standAt e.pos; holding [v] (truthy v)) := by intro _; rfl) : EvXB X e σ F G (!xs.isEmpty) := (xb_truS h he).to (by cases xs <;> rfl)
theorem n_sliceM {lo hi : Option Expr} {lo' hi' : Option Int} (ha : EvXS X a σ F G (xs.map enc)) (hl : EvPo X lo σ F G lo') (hh : EvPo X hi σ F G hi') : EvXN X (.Subscript a (.Slice lo hi none p2) pos) σ F G ((cutL xs lo' hi').map enc) := by
  have q := n_slice (pos := pos) (p2 := p2) ha hl hh
  rw [cutL_map] at q
  exact q
theorem s_retF {w : V} (g0 : Gr F0 H0 F H) (he : EvX X e σ H H d) (k : ∀ H', Ex H H' → Gr F0 H0 F H' → De.rt w H') (hw : flatD d = some w := by rfl) : wSs X (.Return (some e) pos :: rest) De σ H :=
  s_cons (ps_ret (pe X e)) (he H H (Ex.refl H) (Ex.refl H) (Ex.refl H) _ fun v F' H' g r => by
    rw [r.flat hw]
    exact k H' g.h (g0.hop g.h))
theorem s_doc {k : Nat} {z : Str} (h : wSs X rest De σ H) : wSs X (.Expr (.Constant (.str z) k p) pos :: rest) De σ H := s_cons ps_doc h
/-! comprehensions by their parts -/
theorem n_lcM {f : α → Option β} (own : List (Str × Nat)) (j : Nat) (nd : X.N.Nodup) (src : LcSrc X (.Name x p) it σ F G enc xs) (hf : mpO f xs = some ys) (ok : BlkOk X.N X.env.scope scope own)
    (he : ∀ F1 z v b, Ex F F1 → Rp X.K F1 v (enc z) → f z = some b → BEl X scope elt ((wipe σ (own.map (·.2))).set j (some v)) F1 G (enc2 b))
    (hg : ∀ (s : Shared) (H : Hp) (C : Addr) (cl : List (Str × Addr)) (fp : List Addr), PG (X.blk s H scope (compEnvC scope cl C X.env) fp) (.Name x p) (gName j) := by exact fun _ _ _ _ _ => pg_name (by assumption) rfl (Or.inl rfl))
    (hw : ∀ v, wipe ((wipe σ (own.map (·.2))).set j (some v)) (own.map (·.2)) = wipe σ (own.map (·.2)) := by intro _; rfl) (hc : X.calm = true := by rfl) (hs : ∀ z, foldedSetIterable it X.env z = pure z := by intro _; rfl) : EvXN X (.ListComp elt [⟨.Name x p, it, [], 0⟩] scope pos) σ F G (ys.map enc2) :=
  n_lc own j nd src hf ok (fun F1 z v b e r hz => by
    obtain ⟨w, h1, h2⟩ := bnd hz
    cases h2
    exact he F1 z v b e r h1) (fun z hz => by
    obtain ⟨w, h1, h2⟩ := bnd hz
    cases h2) hg hw hc hs
theorem n_lcF {t : α → Option Bool} {f : α → Option β} (own : List (Str × Nat)) (j : Nat) (nd : X.N.Nodup) (src : LcSrc X (.Name x p) it σ F G enc xs) (hf : flO t f xs = some ys) (ok : BlkOk X.N X.env.scope scope own)
    (ht : ∀ F1 z v b, Ex F F1 → Rp X.K F1 v (enc z) → t z = some b → BTs X scope c ((wipe σ (own.map (·.2))).set j (some v)) F1 G b)
    (he : ∀ F1 z v b, Ex F F1 → Rp X.K F1 v (enc z) → f z = some b → BEl X scope elt ((wipe σ (own.map (·.2))).set j (some v)) F1 G (enc2 b))
    (hg : ∀ (s : Shared) (H : Hp) (C : Addr) (cl : List (Str × Addr)) (fp : List Addr), PG (X.blk s H scope (compEnvC scope cl C X.env) fp) (.Name x p) (gName j) := by exact fun _ _ _ _ _ => pg_name (by assumption) rfl (Or.inl rfl))
    (hw : ∀ v, wipe ((wipe σ (own.map (·.2))).set j (some v)) (own.map (·.2)) = wipe σ (own.map (·.2)) := by intro _; rfl) (hc : X.calm = true := by rfl) (hs : ∀ z, foldedSetIterable it X.env z = pure z := by intro _; rfl) : EvXN X (.ListComp elt [⟨.Name x p, it, [c], 0⟩] scope pos) σ F G (ys.map enc2) :=
  n_lcIf own j nd src hf ok (fun F1 z v o e r hz => by
    obtain ⟨w, h1, h2⟩ := bnd hz
    cases w with
    | true =>
      obtain ⟨u, h3, h4⟩ := bnd h2
      cases h4
      exact ht F1 z v true e r h1
    | false =>
      cases h2
      exact ht F1 z v false e r h1) (fun F1 z v b e r hz => by
    obtain ⟨w, h1, h2⟩ := bnd hz
    cases w with
    | true =>
      obtain ⟨u, h3, h4⟩ := bnd h2
      cases h4
      exact he F1 z v b e r h3
    | false => cases h2) hg hw hc hs
theorem s_lcM {f : α → Option β} (i : Nat) (own : List (Str × Nat)) (j : Nat) (nd : X.N.Nodup) (g0 : Gr F0 H0 F H) (src : LcSrc X (.Name x p) it σ F H enc xs) (hf : mpO f xs = some ys) (ok : BlkOk X.N X.env.scope scope own)
    (he : ∀ F1 z v b, Ex F F1 → Rp X.K F1 v (enc z) → f z = some b → BEl X scope elt ((wipe σ (own.map (·.2))).set j (some v)) F1 H (enc2 b))
    (k : ∀ l F' H', Gr F H F' H' → Gr F0 H0 F' H' → H l = none → OwnL X.K H0 F' H' l (ys.map enc2) → wSs X rest De (σ.set i (some (.ref l))) H')
    (hyl : X.env.scope.names.lookup y = some .local := by rfl) (hsw : swapsWith (.ListComp elt [⟨.Name x p, it, [], 0⟩] scope pos) (some (.Name y p1)) spos.line X.env = pure true := by exact sw_true rfl rfl rfl (by decide +kernel)) (hy : X.N[i]? = some y := by rfl)
    (hg : ∀ (s : Shared) (H : Hp) (C : Addr) (cl : List (Str × Addr)) (fp : List Addr), PG (X.blk s H scope (compEnvC scope cl C X.env) fp) (.Name x p) (gName j) := by exact fun _ _ _ _ _ => pg_name (by assumption) rfl (Or.inl rfl))
    (hw : ∀ v, wipe ((wipe σ (own.map (·.2))).set j (some v)) (own.map (·.2)) = wipe σ (own.map (·.2)) := by intro _; rfl) (hc : X.calm = true := by rfl) (hs : ∀ z, foldedSetIterable it X.env z = pure z := by intro _; rfl) :
    wSs X (.Assign [.Name y p1] (.ListComp elt [⟨.Name x p, it, [], 0⟩] scope pos) spos :: rest) De σ H :=
  s_lc i own j nd g0 src hf ok (fun F1 z v b e r hz => by
    obtain ⟨w, h1, h2⟩ := bnd hz
    cases h2
    exact he F1 z v b e r h1) (fun z hz => by
    obtain ⟨w, h1, h2⟩ := bnd hz
    cases h2) k hyl hsw hy hg hw hc hs
theorem s_lcF {t : α → Option Bool} {f : α → Option β} (i : Nat) (own : List (Str × Nat)) (j : Nat) (nd : X.N.Nodup) (g0 : Gr F0 H0 F H) (src : LcSrc X (.Name x p) it σ F H enc xs) (hf : flO t f xs = some ys) (ok : BlkOk X.N X.env.scope scope own)
    (ht : ∀ F1 z v b, Ex F F1 → Rp X.K F1 v (enc z) → t z = some b → BTs X scope c ((wipe σ (own.map (·.2))).set j (some v)) F1 H b)
    (he : ∀ F1 z v b, Ex F F1 → Rp X.K F1 v (enc z) → f z = some b → BEl X scope elt ((wipe σ (own.map (·.2))).set j (some v)) F1 H (enc2 b))
    (k : ∀ l F' H', Gr F H F' H' → Gr F0 H0 F' H' → H l = none → OwnL X.K H0 F' H' l (ys.map enc2) → wSs X rest De (σ.set i (some (.ref l))) H')
    (hyl : X.env.scope.names.lookup y = some .local := by rfl) (hsw : swapsWith (.ListComp elt [⟨.Name x p, it, [c], 0⟩] scope pos) (some (.Name y p1)) spos.line X.env = pure true := by exact sw_true rfl rfl rfl (by decide +kernel)) (hy : X.N[i]? = some y := by rfl)
    (hg : ∀ (s : Shared) (H : Hp) (C : Addr) (cl : List (Str × Addr)) (fp : List Addr), PG (X.blk s H scope (compEnvC scope cl C X.env) fp) (.Name x p) (gName j) := by exact fun _ _ _ _ _ => pg_name (by assumption) rfl (Or.inl rfl))
    (hw : ∀ v, wipe ((wipe σ (own.map (·.2))).set j (some v)) (own.map (·.2)) = wipe σ (own.map (·.2)) := by intro _; rfl) (hc : X.calm = true := by rfl) (hs : ∀ z, foldedSetIterable it X.env z = pure z := by intro _; rfl) :
    wSs X (.Assign [.Name y p1] (.ListComp elt [⟨.Name x p, it, [c], 0⟩] scope pos) spos :: rest) De σ H :=
  s_lcIf i own j nd g0 src hf ok (fun F1 z v o e r hz => by
    obtain ⟨w, h1, h2⟩ := bnd hz
    cases w with
    | true =>
      obtain ⟨u, h3, h4⟩ := bnd h2
      cases h4
      exact ht F1 z v true e r h1
    | false =>
      cases h2
      exact ht F1 z v false e r h1) (fun F1 z v b e r hz => by
    obtain ⟨w, h1, h2⟩ := bnd hz
    cases w with
    | true =>
      obtain ⟨u, h3, h4⟩ := bnd h2
      cases h4
      exact he F1 z v b e r h3
    | false => cases h2) k hyl hsw hy hg hw hc hs
/-! lists or tuples -/
theorem lsQ {q : Bool × List α} (h : EvX X it σ F G (encQ enc q)) : LcSrc X tg it σ F G enc q.2 := by
  obtain ⟨b, xs⟩ := q
  cases b with
  | true => exact lsL h
  | false => exact lsT h
theorem n_listOfQ {q : Bool × List α} (h : EvX X e σ F G (encQ enc q)) (hm : X.mg "list" = none) (hg : Gl X "list" := by rfl) (hs : starEach [e] X.env = (false, eval e X.env) :: starEach [] X.env := by rfl) (hpl : (backTo pos (starEach [] X.env)).any (·.1) = false := by rfl) :
    EvXN X (.Call (.Name "list" p) [e] [] pos) σ F G (q.2.map enc) := by
  obtain ⟨b, xs⟩ := q
  cases b with
  | true => exact n_listOf (EvR.s h) hm hg hs hpl
  | false => exact n_listOfT h hm hg hs hpl
theorem x_tupleOfQ {q : Bool × List α} (h : EvX X e σ F G (encQ enc q)) (hm : X.mg "tuple" = none) (hg : Gl X "tuple" := by rfl) (hs : starEach [e] X.env = (false, eval e X.env) :: starEach [] X.env := by rfl) (hpl : (backTo pos (starEach [] X.env)).any (·.1) = false := by rfl) :
    EvX X (.Call (.Name "tuple" p) [e] [] pos) σ F G (.tup (q.2.map enc)) := by
  obtain ⟨b, xs⟩ := q
  cases b with
  | true => exact x_tupleOf (EvR.s h) hm hg hs hpl
  | false => exact x_tupleOfT h hm hg hs hpl
theorem s_forQ {S ρ : Type} {q : Bool × List α} {f : α → S → Option (Fl S ρ)} {s0 : S} {o : Fl S ρ} (j : Nat) (I : S → Hp → L2.St → Hp → Prop) (RT : ρ → V → Hp → Prop) (nd : X.N.Nodup) (g0 : Gr F0 H0 F H) (src : EvX X it σ F H (encQ enc q)) (hm : forF f q.2 s0 = some o) (h0 : ∀ F' H', Gr F H F' H' → Gr F0 H0 F' H' → I s0 F' σ H')
    (turn : ∀ y s o1 v F' σ' H', f y s = some o1 → Ex F F' → Gr F0 H0 F' H' → Rp X.K F' v (enc y) → I s F' σ' H' → wSs X body (TEn F0 H0 F' I RT o1) (σ'.set j (some v)) H')
    (k : ∀ s F' σ' H', o = .nx s → Ex F F' → Gr F0 H0 F' H' → I s F' σ' H' → wSs X rest De σ' H') (kr : ∀ r v H', o = .rt r → RT r v H' → De.rt v H')
    (hp : PassesOwn (model X.prog X.w) X.A X.env X.xe := by exact PassesOwn.never) (hc : X.calm = true := by rfl) (hi : X.N[j]? = some x := by rfl) (hx : Loc X.env.scope x := by first | exact Or.inl rfl | exact Or.inr rfl) (hf : X.fn x = true ∨ X.env.scope.names.lookup x = some .local := by first | exact .inl rfl | exact .inr rfl)
    (hs : ∀ z, foldedSetIterable it X.env z = pure z := by intro _; rfl) : wSs X (.For (.Name x p) it body [] pos :: rest) De σ H := by
  obtain ⟨b, xs⟩ := q
  cases b with
  | true => exact s_forL j I RT nd g0 src hm h0 turn k kr hp hc hi hx hf hs
  | false => exact s_forT j I RT nd g0 src hm h0 turn k kr hp hc hi hx hf hs
/-- name = a new list, its items by enc -/
theorem s_asgNM (i : Nat) (nd : X.N.Nodup) (g0 : Gr F0 H0 F H) (he : EvXN X e σ F H ds) (k : ∀ l F' H', Gr F H F' H' → Gr F0 H0 F' H' → H l = none → OwnL X.K H0 F' H' l ds → wSs X rest De (σ.set i (some (.ref l))) H')
    (hi : X.N[i]? = some x := by rfl) (hx : Loc X.env.scope x := by first | exact Or.inl rfl | exact Or.inr rfl) (hs : swapsWith e (some (.Name x p)) pos.line X.env = pure false := by rfl) (hf : X.fn x = true ∨ X.env.scope.names.lookup x = some .local := by first | exact .inl rfl | exact .inr rfl) :
    wSs X (.Assign [.Name x p] e pos :: rest) De σ H := s_asgN i nd g0 he k hi hx hs hf
end
end Gx

namespace Gx
open PySem L2 PySem.Spec PyProof.Rows
/-! ### dicts of one's own -/
def getK {κ β : Type} [DecidableEq κ] (kvs : List (κ × β)) (k : κ) : Option β := (kvs.find? fun kv => decide (kv.1 = k)).map (·.2)
def putL {κ β : Type} [DecidableEq κ] (kvs : List (κ × β)) (k : κ) (v : β) : List (κ × β) := if (kvs.any fun kv => decide (kv.1 = k)) = true then kvs.map (fun kv => if kv.1 = k then (kv.1, v) else kv) else kvs ++ [(k, v)]
section
variable {K : PySem.W.Frag} {H : Hp} {vs : List (Key × V)} {ds : List (Key × D)}
theorem RpK.len (h : RpK K H vs ds) : vs.length = ds.length := by
  induction ds generalizing vs with
  | nil => cases h; rfl
  | cons d ds ih => cases h with | cons a b => simp [ih b]
theorem RpK.any (h : RpK K H vs ds) (k : Key) : (vs.any fun kv => decide (kv.1 = k)) = ds.any fun kv => decide (kv.1 = k) := by
  induction ds generalizing vs with
  | nil => cases h; rfl
  | cons d ds ih => cases h with | cons a b => simp only [List.any_cons, ih b]
theorem RpK.get (h : RpK K H vs ds) (k : Key) : (valV vs k = none ∧ getK ds k = none) ∨ ∃ v d, valV vs k = some v ∧ getK ds k = some d ∧ Rp K H v d := by
  induction ds generalizing vs with
  | nil => cases h; exact .inl ⟨rfl, rfl⟩
  | cons d ds ih =>
    cases h with
    | @cons f v vs d ds a b =>
      by_cases hk : f = k
      · exact .inr ⟨v, d, by simp [valV, hk], by simp [getK, hk], a⟩
      · have e1 : valV ((f, v) :: vs) k = valV vs k := by simp [valV, hk]
        have e2 : getK ((f, d) :: ds) k = getK ds k := by simp [getK, hk]
        rw [e1, e2]
        exact ih b
theorem RpK.map (h : RpK K H vs ds) (k : Key) {v : V} {d : D} (r : Rp K H v d) : RpK K H (vs.map fun kv => if kv.1 = k then (kv.1, v) else kv) (ds.map fun kv => if kv.1 = k then (kv.1, d) else kv) := by
  induction ds generalizing vs with
  | nil => cases h; exact .nil
  | cons e ds ih =>
    cases h with
    | @cons f w vs e ds a b =>
      simp only [List.map_cons]
      by_cases hk : f = k
      · rw [if_pos hk, if_pos hk]
        exact .cons r (ih b)
      · rw [if_neg hk, if_neg hk]
        exact .cons a (ih b)
theorem RpK.snoc (h : RpK K H vs ds) (k : Key) {v : V} {d : D} (r : Rp K H v d) : RpK K H (vs ++ [(k, v)]) (ds ++ [(k, d)]) := by
  induction ds generalizing vs with
  | nil => cases h; exact .cons r .nil
  | cons e ds ih => cases h with | cons a b => exact .cons a (ih b)
theorem RpK.put (h : RpK K H vs ds) (k : Key) {v : V} {d : D} (r : Rp K H v d) : RpK K H (putK vs k v) (putL ds k d) := by
  unfold putK putL
  rw [h.any k]
  by_cases hk : (ds.any fun kv => decide (kv.1 = k)) = true
  · rw [if_pos hk, if_pos hk]
    exact h.map k r
  · rw [if_neg hk, if_neg hk]
    exact h.snoc k r
end
/-- keys that are whole numbers -/
@[reducible] def encKI {β : Type} (f : β → D) (kvs : List (Int × β)) : List (Key × D) := kvs.map fun p => (Sum.inl p.1, f p.2)
/-- keys that are texts -/
@[reducible] def encKS {β : Type} (f : β → D) (kvs : List (Str × β)) : List (Key × D) := kvs.map fun p => (Sum.inr p.1, f p.2)
def getA {κ β : Type} [DecidableEq κ] (kvs : List (κ × β)) (k : κ) : Option β := getK kvs k
def inA {κ β : Type} [DecidableEq κ] (k : κ) (kvs : List (κ × β)) : Bool := (getK kvs k).isSome
def putO {κ β : Type} [DecidableEq κ] (kvs : List (κ × β)) (k : κ) (v : β) : Option (List (κ × β)) := if kvs.length < sizeLine then some (putL kvs k v) else none
theorem getK_map {κ κ' β γ : Type} [DecidableEq κ] [DecidableEq κ'] (g : κ → κ') (hg : ∀ a b, g a = g b → a = b) (f : β → γ) (kvs : List (κ × β)) (k : κ) : getK (kvs.map fun p => (g p.1, f p.2)) (g k) = (getK kvs k).map f := by
  induction kvs with
  | nil => rfl
  | cons p r ih =>
    obtain ⟨a, b⟩ := p
    by_cases h : a = k
    · subst h
      simp [getK]
    · have h' : g a ≠ g k := fun e => h (hg _ _ e)
      have e1 : getK ((a, b) :: r) k = getK r k := by simp [getK, h]
      have e2 : getK (List.map (fun p => (g p.1, f p.2)) ((a, b) :: r)) (g k) = getK (List.map (fun p => (g p.1, f p.2)) r) (g k) := by simp [getK, h']
      rw [e1, e2, ih]
theorem putL_map {κ κ' β γ : Type} [DecidableEq κ] [DecidableEq κ'] (g : κ → κ') (hg : ∀ a b, g a = g b → a = b) (f : β → γ) (kvs : List (κ × β)) (k : κ) (v : β) : putL (kvs.map fun p => (g p.1, f p.2)) (g k) (f v) = (putL kvs k v).map fun p => (g p.1, f p.2) := by
  have hd : ∀ a : κ, decide (g a = g k) = decide (a = k) := fun a => by
    by_cases h : a = k
    · subst h; simp
    · have h' : g a ≠ g k := fun e => h (hg _ _ e)
      simp [h, h']
  unfold putL
  have e : ((kvs.map fun p => (g p.1, f p.2)).any fun kv => decide (kv.1 = g k)) = kvs.any fun kv => decide (kv.1 = k) := by
    rw [List.any_map]
    congr 1
    funext p
    exact hd p.1
  rw [e]
  by_cases h : (kvs.any fun kv => decide (kv.1 = k)) = true
  · rw [if_pos h, if_pos h, List.map_map, List.map_map]
    congr 1
    funext p
    have := hd p.1
    by_cases hk : p.1 = k
    · simp [hk]
    · have h' : g p.1 ≠ g k := fun e => hk (hg _ _ e)
      simp [hk, h']
  · rw [if_neg h, if_neg h, List.map_append]
    rfl
abbrev OwnKI {β : Type} (K : PySem.W.Frag) (H0 F H : Hp) (l : Addr) (f : β → D) (kvs : List (Int × β)) : Prop := OwnO K H0 F H l (.dic (encKI f kvs))
def RdD (K : PySem.W.Frag) (F G : Hp) (l : Addr) (kvs : List (Key × D)) : Prop := ∃ vs, G l = some (.dK vs) ∧ RpK K F vs kvs
theorem RdD.up {K : PySem.W.Frag} {F F' G : Hp} {l : Addr} {kvs : List (Key × D)} (h : RdD K F G l kvs) (e : Ex F F') : RdD K F' G l kvs := by
  obtain ⟨vs, h1, h2⟩ := h
  exact ⟨vs, h1, h2.up e⟩
theorem OwnO.rdD {K : PySem.W.Frag} {H0 F H : Hp} {l : Addr} {kvs : List (Key × D)} (h : OwnO K H0 F H l (.dic kvs)) : RdD K F H l kvs := by
  obtain ⟨o, h1, h2⟩ := h.ex
  cases h2 with
  | dic r => exact ⟨_, h1, r⟩
/-- te gives a dict with such entries -/
def EvD (K : PySem.W.Frag) (te : TE) (σ : L2.St) (F G : Hp) (kvs : List (Key × D)) : Prop :=
  ∀ F1 H1, Ex F F1 → Ex F1 H1 → Ex G H1 → ∀ Q : VK, (∀ p vs F2 H2, Gr F1 H1 F2 H2 → H2 p = some (.dK vs) → RpK K F2 vs kvs → Q (.ref p) H2) → te σ H1 Q
abbrev EvXD (X : Cx) (e : Expr) (σ : L2.St) (F G : Hp) (kvs : List (Key × D)) : Prop := EvD X.K (wE X e) σ F G kvs
section
variable {X : Cx} {σ : L2.St} {F0 H0 F G H : Hp} {a b e o i : Expr} {pos p pos' : Pos} {x : Str} {rest : List Stmt} {De : Ends} {d : D} {β : Type} {f : β → D} {kvs kvs' : List (Int × β)} {dk : List (Key × D)} {l : Addr}
theorem xd_rd (i : Nat) (ho : RdD X.K F G l dk) (h : σ[i]? = some (some (.ref l)) := by rfl) (hN : X.N[i]? = some x := by rfl) (hv : Vis X.env.scope x := by first | exact Or.inl rfl | exact Or.inr (Or.inl rfl) | exact Or.inr (Or.inr rfl))
    (hd : (x == ("__debug__" : Str)) = false := by decide) (hcd : (x == ("__classdict__" : Str)) = false := by decide) : EvXD X (.Name x pos) σ F G dk := by
  obtain ⟨vs, h1, h2⟩ := ho
  exact fun F1 H1 a b c Q q => wE_of (pe_var hN hv hd hcd) ⟨_, h, q l vs F1 H1 (Gr.refl b) (c _ _ h1) (h2.up a)⟩
theorem EvR.toD {K : PySem.W.Frag} {te : TE} (h : EvR K te σ F G (.dic dk)) : EvD K te σ F G dk := fun F1 H1 e1 e2 e3 Q q => h F1 H1 e1 e2 e3 _ fun v F2 H2 g r => by
  cases r with
  | dic q1 q2 => exact q _ _ F2 H2 g (g.fh _ _ q1) q2
theorem c_inK {y : D} {k : Key} (hu : X.A.units + 1 < cLine) (ha : EvX X a σ F G y) (hy : ∀ F v, Rp X.K F v y → v = kV k) (hb : EvXD X b σ F G dk) : EvXC X .In a b σ F G (getK dk k).isSome := EvXC.of (pc_din hu (pe X a) (pe X b)) fun F1 H1 e1 e2 e3 Q q =>
  ha F1 H1 e1 e2 e3 _ fun v F2 H2 g2 r2 => hb F2 H2 (e1.trans g2.f) g2.fh (e3.trans g2.h) _ fun l vs F3 H3 g3 h3 r3 => by
    refine ⟨l, valV vs k, rfl, ?_, ?_⟩
    · rw [hy _ _ r2]
      exact DGet.k h3
    · have : (valV vs k).isSome = (getK dk k).isSome := by
        rcases r3.get k with ⟨h1, h2⟩ | ⟨v, d, h1, h2, _⟩ <;> rw [h1, h2] <;> rfl
      rw [this]
      exact q _ F3 H3 (g2.trans g3) (.bl _)
theorem c_niK {y : D} {k : Key} (hu : X.A.units + 1 < cLine) (ha : EvX X a σ F G y) (hy : ∀ F v, Rp X.K F v y → v = kV k) (hb : EvXD X b σ F G dk) : EvXC X .NotIn a b σ F G (!(getK dk k).isSome) := EvXC.of (pc_dnotin hu (pe X a) (pe X b)) fun F1 H1 e1 e2 e3 Q q =>
  ha F1 H1 e1 e2 e3 _ fun v F2 H2 g2 r2 => hb F2 H2 (e1.trans g2.f) g2.fh (e3.trans g2.h) _ fun l vs F3 H3 g3 h3 r3 => by
    refine ⟨l, valV vs k, rfl, ?_, ?_⟩
    · rw [hy _ _ r2]
      exact DGet.k h3
    · have : (valV vs k).isSome = (getK dk k).isSome := by
        rcases r3.get k with ⟨h1, h2⟩ | ⟨v, d, h1, h2, _⟩ <;> rw [h1, h2] <;> rfl
      rw [this]
      exact q _ F3 H3 (g2.trans g3) (.bl _)
theorem inl_inj {a b : Int} (h : (Sum.inl a : Key) = Sum.inl b) : a = b := Sum.inl.inj h
theorem c_inA {k : Int} (hu : X.A.units + 1 < cLine) (ha : EvX X a σ F G (.int k)) (hb : EvXD X b σ F G (encKI f kvs)) : EvXC X .In a b σ F G (inA k kvs) := (c_inK (k := Sum.inl k) hu ha (fun F v r => r.int_) hb).to (by
  rw [getK_map (g := (Sum.inl : Int → Key)) (fun _ _ => inl_inj)]
  simp [inA])
theorem c_niA {k : Int} (hu : X.A.units + 1 < cLine) (ha : EvX X a σ F G (.int k)) (hb : EvXD X b σ F G (encKI f kvs)) : EvXC X .NotIn a b σ F G (!inA k kvs) := (c_niK (k := Sum.inl k) hu ha (fun F v r => r.int_) hb).to (by
  rw [getK_map (g := (Sum.inl : Int → Key)) (fun _ _ => inl_inj)]
  simp [inA])
theorem x_getK {y : D} {k : Key} (hu : X.A.units + 1 < cLine) (ha : EvXD X a σ F G dk) (hb : EvX X b σ F G y) (hy : ∀ F v, Rp X.K F v y → v = kV k) (h : getK dk k = some d) (hs : NoSl b := by exact (fun _ _ => rfl)) : EvX X (.Subscript a b pos) σ F G d := EvX.of (pe_dget hu (pe X a) (pe X b) hs) fun F1 H1 e1 e2 e3 Q q =>
  ha F1 H1 e1 e2 e3 _ fun l vs F2 H2 g2 h2 r2 => hb F2 H2 (e1.trans g2.f) g2.fh (e3.trans g2.h) _ fun w F3 H3 g3 r3 => by
    rcases r2.get k with ⟨_, h4⟩ | ⟨v, d', h1, h4, h5⟩
    · rw [h4] at h; cases h
    · rw [h4] at h
      cases h
      refine ⟨l, v, rfl, ?_, q v F3 H3 (g2.trans g3) (h5.up g3.f)⟩
      rw [hy _ _ r3, ← h1]
      exact DGet.k (g3.h _ _ h2)
theorem x_getA {k : Int} {y : β} (hu : X.A.units + 1 < cLine) (ha : EvXD X a σ F G (encKI f kvs)) (hb : EvX X b σ F G (.int k)) (h : getA kvs k = some y) (hs : NoSl b := by exact (fun _ _ => rfl)) : EvX X (.Subscript a b pos) σ F G (f y) :=
  x_getK (k := Sum.inl k) hu ha hb (fun F v r => r.int_) (by
    rw [getK_map (g := (Sum.inl : Int → Key)) (fun _ _ => inl_inj)]
    unfold getA at h
    rw [h]
    rfl) hs
/-- name = {} -/
theorem s_asgDk (i : Nat) (nd : X.N.Nodup) (g0 : Gr F0 H0 F H) (k : ∀ l H', Ex H H' → Gr F0 H0 F H' → H l = none → OwnO X.K H0 F H' l (.dic []) → wSs X rest De (σ.set i (some (.ref l))) H')
    (hi : X.N[i]? = some x := by rfl) (hx : Loc X.env.scope x := by first | exact Or.inl rfl | exact Or.inr rfl) (hs : swapsWith (.Dict [] [] p) (some (.Name x pos')) pos.line X.env = pure false := by rfl) (hf : X.fn x = true ∨ X.env.scope.names.lookup x = some .local := by first | exact .inl rfl | exact .inr rfl) :
    wSs X (.Assign [.Name x pos'] (.Dict [] [] p) pos :: rest) De σ H :=
  s_cons (ps_set nd hi hx pe_dnewK hs hf) fun l hl => k l _ (Ex.new hl) (g0.hop (Ex.new hl)) hl ⟨⟨_, upd_same, .dic .nil⟩, g0.fh.free hl, g0.h.free hl⟩
/-- d[k] = v -/
theorem s_putK (i : Nat) {y : D} {k : Key} {xp : Pos} (hu : X.A.units + 1 < cLine) (g0 : Gr F0 H0 F H) (ho : OwnO X.K H0 F H l (.dic dk)) (he : EvX X e σ F H d) (hi : EvX X b σ F H y) (hy : ∀ F v, Rp X.K F v y → v = kV k) (hz : dk.length < sizeLine)
    (kk : ∀ F' H', Ex F F' → Gr F0 H0 F' H' → OwnO X.K H0 F' H' l (.dic (putL dk k d)) → (∀ m e, m ≠ l → OwnO X.K H0 F H m e → OwnO X.K H0 F' H' m e) → wSs X rest De σ H')
    (h : σ[i]? = some (some (.ref l)) := by rfl) (hN : X.N[i]? = some x := by rfl) (hv : Vis X.env.scope x := by first | exact Or.inl rfl | exact Or.inr (Or.inl rfl) | exact Or.inr (Or.inr rfl))
    (hd : (x == ("__debug__" : Str)) = false := by decide) (hcd : (x == ("__classdict__" : Str)) = false := by decide)
    (hs : swapsWith e (some (.Subscript (.Name x xp) b p)) pos.line X.env = pure false := by rfl) : wSs X (.Assign [.Subscript (.Name x xp) b p] e pos :: rest) De σ H := by
  obtain ⟨vs, h1, h2⟩ := ho.rdD
  refine s_cons (ps_dput hu (pe_var hN hv hd hcd) (pe X b) (pe X e) hs) ?_
  refine he F H (Ex.refl F) g0.fh (Ex.refl H) _ fun v F1 H1 g1 r1 => ?_
  refine ⟨_, h, ?_⟩
  refine hi F1 H1 g1.f g1.fh g1.h _ fun w F2 H2 g2 r2 => ?_
  have g := g1.trans g2
  have n' := g.own h1 ho.n
  refine ⟨l, upd H2 l (.dK (putK vs k v)), rfl, ?_, ?_⟩
  · rw [hy _ _ r2]
    exact DPut.k (g.h _ _ h1) (by rw [h2.len]; exact hz)
  · exact kk F2 _ g.f ((g0.trans g).put ho.n0 n') ⟨⟨_, upd_same, .dic ((h2.up g.f).put k (r1.up g2.f))⟩, n', ho.n0⟩ fun m e ne hm => (hm.up g).oth ne
theorem s_putA (i : Nat) {k : Int} {y : β} {xp : Pos} (hu : X.A.units + 1 < cLine) (g0 : Gr F0 H0 F H) (ho : OwnKI X.K H0 F H l f kvs) (he : EvX X e σ F H (f y)) (hi : EvX X b σ F H (.int k)) (hq : putO kvs k y = some kvs')
    (kk : ∀ F' H', Ex F F' → Gr F0 H0 F' H' → OwnKI X.K H0 F' H' l f kvs' → (∀ m e, m ≠ l → OwnO X.K H0 F H m e → OwnO X.K H0 F' H' m e) → wSs X rest De σ H')
    (h : σ[i]? = some (some (.ref l)) := by rfl) (hN : X.N[i]? = some x := by rfl) (hv : Vis X.env.scope x := by first | exact Or.inl rfl | exact Or.inr (Or.inl rfl) | exact Or.inr (Or.inr rfl))
    (hd : (x == ("__debug__" : Str)) = false := by decide) (hcd : (x == ("__classdict__" : Str)) = false := by decide)
    (hs : swapsWith e (some (.Subscript (.Name x xp) b p)) pos.line X.env = pure false := by rfl) : wSs X (.Assign [.Subscript (.Name x xp) b p] e pos :: rest) De σ H := by
  unfold putO at hq
  split at hq
  · cases hq
    refine s_putK i (k := Sum.inl k) hu g0 ho he hi (fun F v r => r.int_) (by simpa [encKI] using by assumption) ?_ h hN hv hd hcd hs
    rw [encKI, putL_map (g := (Sum.inl : Int → Key)) (fun _ _ => inl_inj)]
    exact kk
  · cases hq
end
section
variable {X : Cx} {e : Expr} {σ : L2.St} {F G : Hp} {ds : List D}
theorem x_s (h : EvX X e σ F G (.lst ds)) : EvXS X e σ F G ds := h.s
theorem n_s (h : EvXN X e σ F G ds) : EvXS X e σ F G ds := h.s
theorem n_r (h : EvXN X e σ F G ds) : EvX X e σ F G (.lst ds) := h.toR
theorem xw_tb {b : Bool} (h : EvXW X e σ F G b) : EvXB X e σ F G b := h.tb
end
end Gx

/-! the heap queue on a list of whole numbers: the two calls, and what they do to the list -/
namespace Gx
open PySem L2 PySem.Spec PyProof.Rows

def sw (xs : List Int) (i j : Nat) : List Int := (xs.set i (xs.getD j 0)).set j (xs.getD i 0)
theorem sw_len (xs : List Int) (i j : Nat) : (sw xs i j).length = xs.length := by simp [sw]
/-- the way up from p -/
def upN : Nat → List Int → Nat → List Int
  | 0, xs, _ => xs
  | k + 1, xs, p => if 0 < p ∧ xs.getD p 0 < xs.getD ((p - 1) / 2) 0 then upN k (sw xs ((p - 1) / 2) p) ((p - 1) / 2) else xs
theorem upN_len : ∀ k xs p, (upN k xs p).length = xs.length
  | 0, _, _ => rfl
  | k + 1, xs, p => by
    unfold upN
    split
    · rw [upN_len k, sw_len]
    · rfl
def kidOf (xs : List Int) (p : Nat) : Nat := if 2 * p + 1 + 1 < xs.length ∧ ¬ xs.getD (2 * p + 1) 0 < xs.getD (2 * p + 1 + 1) 0 then 2 * p + 1 + 1 else 2 * p + 1
/-- the way down from p, then up -/
def dnN : Nat → List Int → Nat → List Int
  | 0, xs, p => upN (p + 1) xs p
  | k + 1, xs, p => if p < xs.length / 2 then dnN k (sw xs (kidOf xs p) p) (kidOf xs p) else upN (p + 1) xs p
theorem dnN_len : ∀ k xs p, (dnN k xs p).length = xs.length
  | 0, xs, p => upN_len _ xs p
  | k + 1, xs, p => by
    unfold dnN
    split
    · rw [dnN_len k, sw_len]
    · exact upN_len _ xs p
def hpush (xs : List Int) (v : Int) : List Int := upN (xs.length + 1) (xs ++ [v]) xs.length
/-- the least one, and the rest -/
def hpop : List Int → Option (Int × List Int)
  | [] => none
  | x :: r => some (x, if r.isEmpty then [] else dnN r.length ((x :: r).dropLast.set 0 ((x :: r).getLastD 0)) 0)

namespace HqF
theorem entry_push : entryFor table "_heapq.heappush" = some Builtin.«_heapq.heappush» := entryFor_of_tree (by kernel_rfl)
theorem kind_push : builtinKind "_heapq.heappush" = none := by kernel_rfl
theorem plain_push : plainId "_heapq.heappush" = true := by decide +kernel
theorem args_push (a b : Value) : argsOk "_heapq.heappush" ⟨[a, b], []⟩ := by unfold argsOk; kernel_rfl
theorem entry_pop : entryFor table "_heapq.heappop" = some Builtin.«_heapq.heappop» := entryFor_of_tree (by kernel_rfl)
theorem kind_pop : builtinKind "_heapq.heappop" = none := by kernel_rfl
theorem plain_pop : plainId "_heapq.heappop" = true := by decide +kernel
theorem args_pop (a : Value) : argsOk "_heapq.heappop" ⟨[a], []⟩ := by unfold argsOk; kernel_rfl
theorem entry_sift : entryFor table "_heapq.heapify.sift" = some Builtin.«_heapq.heapify.sift» := entryFor_of_tree (by kernel_rfl)
theorem plain_sift : plainId "_heapq.heapify.sift" = true := by decide +kernel
end HqF

section
variable {X : Cx} {pins : List (Addr × Obj)} {σ : L2.St} {H : Hp} {l : Addr} {A : Around}
abbrev LI (ns : List Int) : HO := .lst (ns.map V.int)
theorem upd2 (H : Hp) (l : Addr) (a b : HO) : upd (upd H l a) l b = upd H l b := by
  funext x
  unfold upd
  split <;> rfl
theorem vals_ints_get {its : List Value} {ns : List Int} (r : Vals (ns.map V.int) its) {i : Nat} (h : i < ns.length) : ∃ t, its.toArray[i]? = some (Value.int (ns.getD i 0) t) := by
  have h2 : (ns.map V.int)[i]? = some (V.int (ns.getD i 0)) := by
    rw [List.getElem?_map, List.getElem?_eq_getElem h]
    simp [List.getD, List.getElem?_eq_getElem h]
  obtain ⟨u, hu, ru⟩ := r.get h2
  obtain ⟨t, rfl⟩ := ru
  exact ⟨t, by simpa using hu⟩
theorem vals_set : ∀ {xs : List V} {us : List Value} {i : Nat} {x : V} {u : Value}, Vals xs us → RelV x u → Vals (xs.set i x) (us.set i u)
  | _, _, _, _, _, .nil, _ => .nil
  | _, _, 0, _, _, .cons a r, h => .cons h r
  | _, _, i + 1, _, _, .cons a r, h => .cons a (vals_set r h)

theorem upd_self (H : Hp) (l : Addr) (a : HO) : upd H l a l = some a := by
  unfold upd
  rw [if_pos rfl]
/-- the swap's writing -/
theorem swap_upd {Q : Unit → Shared → Prop} {E : Value → Shared → Prop} {s : Shared} {ns : List Int} {i j n : Nat} {its : List Value} {t1 t2 : Tok} (I : Inv X pins σ (upd H l (LI ns)) s) (z : (ns.map V.int).length ≤ sizeLine) (r : Vals (ns.map V.int) its)
    (e : s.heap.get? l = some { cls := .type "list", data := .seq its.toArray n }) (k : ∀ s', Inv X pins σ (upd H l (LI (sw ns i j))) s' → Q () s') :
    wpAny (model X.prog X.w) A (updateSeq l fun xs => (xs.setIfInBounds i (.int (ns.getD j 0) t2)).setIfInBounds j (.int (ns.getD i 0) t1)) Q E s := by
  have z1 : its.toArray.size ≤ sizeLine := by rw [List.size_toArray, ← r.length]; exact z
  refine wpAny_updateSeq e rfl (k _ ?_) z1 (by simp only [Array.size_setIfInBounds]; omega)
  have q := I.lset (l := l) (xs := ns.map V.int) (ys := (sw ns i j).map V.int) (its' := (its.set i (.int (ns.getD j 0) t2)).set j (.int (ns.getD i 0) t1)) (f := fun xs => (xs.setIfInBounds i (.int (ns.getD j 0) t2)).setIfInBounds j (.int (ns.getD i 0) t1)) (t' := s.toks) (upd_self _ _ _) e (by simp) (by
    unfold sw
    rw [List.map_set, List.map_set]
    exact vals_set (vals_set r ⟨_, rfl⟩) ⟨_, rfl⟩) (by rw [List.length_map, sw_len, ← List.length_map (f := V.int)]; exact z)
  rw [upd2] at q
  exact q
theorem sift_up {R : Result → Shared → Prop} {res : Value} : ∀ (k p : Nat) (ns : List Int) (s : Shared), p < k → p < ns.length → Inv X pins σ (upd H l (LI ns)) s →
    (∀ s', Inv X pins σ (upd H l (LI (upN k ns p))) s' → R (.ok (.ret res)) s') → codeAny (model X.prog X.w) A (.builtin "_heapq.heapify.sift" ⟨[.ref l, .bool false, .bool false, rawInt p, rawInt 0, res, rawInt (-1)], []⟩) R s := by
  intro k
  induction k with
  | zero => intro p ns s h; omega
  | succ k ih =>
    intro p ns s hk hp I hR
    refine codeAny_builtin HqF.entry_sift ?_
    rw [Around.under_plainId HqF.plain_sift _]
    obtain ⟨z, its, n, r, hl, e⟩ := I.lstM (l := l) (xs := ns.map V.int) (upd_self _ _ _)
    unfold Builtin.«_heapq.heapify.sift»
    refine wpAny_bind (wpAny_bind (wpAny_seqItems e rfl (wpAny_pure ?_)))
    rw [if_neg Bool.false_ne_true]
    have e1 : ((p : Int)).toNat = p := Int.toNat_natCast p
    have e2 : ((0 : Int)).toNat = 0 := rfl
    rw [e1, e2]
    unfold upN at hR
    refine wpAny_ite_split (fun hc => ?_) (fun hc => ?_)
    · obtain ⟨t1, h1⟩ := vals_ints_get r hp
      obtain ⟨t2, h2⟩ := vals_ints_get r (i := (p - 1) / 2) (by omega)
      refine wpAny_bind ?_
      show wpAny _ _ (match its.toArray[p]? with | some v => pure v | none => unsupported "internal:_heapq.index") _ _ _
      rw [h1]
      refine wpAny_pure (wpAny_bind ?_)
      show wpAny _ _ (match its.toArray[(p - 1) / 2]? with | some v => pure v | none => unsupported "internal:_heapq.index") _ _ _
      rw [h2]
      refine wpAny_pure ?_
      rw [if_neg Bool.false_ne_true]
      refine wpAny_bind (wpAny_bind (wpAny_holding (wpAny_bind (wpAny_lt_int (wpAny_truthy_bool ?_)))))
      refine wpAny_bind (wpAny_bind (wpAny_seqItems e rfl (wpAny_pure ?_)))
      rw [if_neg (by simp)]
      refine wpAny_pure ?_
      refine wpAny_ite_split (fun hd => ?_) (fun hd => ?_)
      · rw [if_pos ⟨hc, of_decide_eq_true hd⟩] at hR
        refine wpAny_bind (wpAny_bind (wpAny_bind (wpAny_seqItems e rfl (wpAny_pure ?_))))
        refine wpAny_bind ?_
        show wpAny _ _ (match its.toArray[(p - 1) / 2]? with | some v => pure v | none => unsupported "internal:_heapq.index") _ _ _
        rw [h2]
        refine wpAny_pure (wpAny_bind ?_)
        show wpAny _ _ (match its.toArray[p]? with | some v => pure v | none => unsupported "internal:_heapq.index") _ _ _
        rw [h1]
        refine wpAny_pure (swap_upd I z r e fun s' I' => ?_)
        exact wpAny_pure ⟨plainId_quiet HqF.plain_sift _, ih ((p - 1) / 2) _ s' (by omega) (by rw [sw_len]; omega) I' hR⟩
      · rw [if_neg (fun h => hd (decide_eq_true h.2))] at hR
        dsimp only
        exact wpAny_ite_true (by decide) (wpAny_pure (hR s I))
    · rw [if_neg (fun h => hc h.1)] at hR
      dsimp only
      exact wpAny_ite_true (by decide) (wpAny_pure (hR s I))
theorem sift_dn {R : Result → Shared → Prop} {res : Value} : ∀ (k p : Nat) (ns : List Int) (s : Shared), ns.length ≤ p + k → p < ns.length → Inv X pins σ (upd H l (LI ns)) s →
    (∀ s', Inv X pins σ (upd H l (LI (dnN k ns p))) s' → R (.ok (.ret res)) s') → codeAny (model X.prog X.w) A (.builtin "_heapq.heapify.sift" ⟨[.ref l, .bool false, .bool true, rawInt p, rawInt 0, res, rawInt (-1)], []⟩) R s := by
  intro k
  induction k with
  | zero => intro p ns s h; omega
  | succ k ih =>
    intro p ns s hk hp I hR
    refine codeAny_builtin HqF.entry_sift ?_
    rw [Around.under_plainId HqF.plain_sift _]
    obtain ⟨z, its, n, r, hl, e⟩ := I.lstM (l := l) (xs := ns.map V.int) (upd_self _ _ _)
    have hn : its.toArray.size = ns.length := by rw [List.size_toArray, ← hl, List.length_map]
    unfold Builtin.«_heapq.heapify.sift»
    refine wpAny_bind (wpAny_bind (wpAny_seqItems e rfl (wpAny_pure ?_)))
    have e1 : ((p : Int)).toNat = p := Int.toNat_natCast p
    have e2 : ((0 : Int)).toNat = 0 := rfl
    rw [e1, e2]
    unfold dnN at hR
    refine wpAny_ite_true (by decide) ?_
    refine wpAny_ite_split (fun hc => ?_) (fun hc => ?_)
    · rw [hn] at hc
      rw [if_pos hc] at hR
      obtain ⟨t0, h0⟩ := vals_ints_get r hp
      have sw1 : ∀ c : Nat, c < ns.length → c = kidOf ns p → wpAny (model X.prog X.w) A.in1 ((do
          let some xs ← seqItems? (.ref l) | unsupported "internal:_heapq"
          return xs) >>= fun xs : Array Value => (match xs[c]? with | some v => pure v | none => unsupported "internal:_heapq.index") >>= fun x : Value => (match xs[p]? with | some v => pure v | none => unsupported "internal:_heapq.index") >>= fun y : Value => updateSeq l (fun xs => (xs.setIfInBounds c y).setIfInBounds p x)) (fun _ s' => wpAny (model X.prog X.w) A.in1 (again (.builtin "_heapq.heapify.sift" ⟨[.ref l, .bool false, .bool true, rawInt c, rawInt 0, res, rawInt (-1)], []⟩)) (fun fin s' => match fin with | .done f => R (.ok f) s' | .again c' => c'.quiet = true ∧ codeAny (model X.prog X.w) A c' R s') (fun e s' => R (.error e) s') s') (fun e s' => R (.error e) s') s := by
        intro c hcl hcc
        obtain ⟨t1, h1⟩ := vals_ints_get r hcl
        refine wpAny_bind (wpAny_bind (wpAny_seqItems e rfl (wpAny_pure ?_)))
        rw [h1]
        refine wpAny_bind (wpAny_pure ?_)
        rw [h0]
        refine wpAny_bind (wpAny_pure ?_)
        refine swap_upd I z r e fun s' I' => ?_
        subst hcc
        have hk3 : p < kidOf ns p := by
          unfold kidOf
          split <;> omega
        exact wpAny_pure ⟨plainId_quiet HqF.plain_sift _, ih (kidOf ns p) _ s' (by rw [sw_len]; omega) (by rw [sw_len]; exact hcl) I' hR⟩
      dsimp only
      refine wpAny_ite_split (fun hd => ?_) (fun hd => ?_)
      · rw [hn] at hd
        obtain ⟨t1, h1⟩ := vals_ints_get r (i := 2 * p + 1) (by omega)
        obtain ⟨t2, h2⟩ := vals_ints_get r (i := 2 * p + 1 + 1) hd
        refine wpAny_bind ?_
        show wpAny _ _ (match its.toArray[2 * p + 1]? with | some v => pure v | none => unsupported "internal:_heapq.index") _ _ _
        rw [h1]
        refine wpAny_pure (wpAny_bind ?_)
        show wpAny _ _ (match its.toArray[2 * p + 1 + 1]? with | some v => pure v | none => unsupported "internal:_heapq.index") _ _ _
        rw [h2]
        refine wpAny_pure ?_
        refine wpAny_ite_false (by decide) ?_
        refine wpAny_bind (wpAny_bind (wpAny_holding (wpAny_bind (wpAny_lt_int (wpAny_truthy_bool ?_)))))
        refine wpAny_bind (wpAny_bind (wpAny_seqItems e rfl (wpAny_pure ?_)))
        rw [if_neg (by simp)]
        refine wpAny_pure ?_
        refine wpAny_ite_split (fun hd2 => ?_) (fun hd2 => ?_)
        · refine wpAny_bind ?_
          exact sw1 _ hd (by unfold kidOf; rw [if_pos ⟨hd, fun hh => by rw [decide_eq_true hh] at hd2; exact absurd hd2 (by decide)⟩])
        · refine wpAny_bind ?_
          exact sw1 _ (by omega) (by unfold kidOf; rw [if_neg (fun hh => hd2 (by rw [decide_eq_false hh.2]; rfl))])
      · rw [hn] at hd
        refine wpAny_bind ?_
        exact sw1 _ (by omega) (by unfold kidOf; rw [if_neg (fun hh => hd hh.1)])
    · rw [hn] at hc
      rw [if_neg hc] at hR
      exact wpAny_pure ⟨plainId_quiet HqF.plain_sift _, sift_up (p + 1) p ns s (by omega) hp I hR⟩
end
section
variable {prog : Program} {w : World} {A : Around} {E : Value → Shared → Prop} {s : Shared}
/-- a call of a plain built-in function that may end in a further step -/
theorem call_fn_again {id : String} {b : Builtin} {args : List Value} {Q : Value → Shared → Prop} (hk : builtinKind id = none) (hp : plainId id = true) (hb : entryFor table id = some b) (ha : argsOk id ⟨args, []⟩)
    (hc : wpAny (model prog w) A.in1 (b ⟨args, []⟩) (fun fin s' => match fin with
      | .done f => (match f with | .ret v => Q v s' | _ => False)
      | .again c => c.quiet = true ∧ codeAny (model prog w) A c (fun r s2 => match r with | .ok (.ret v) => Q v s2 | .ok _ => False | .error e => E e s2) s') E s) : wpAny (model prog w) A (call (.builtin id) args) Q E s := by
  refine wpAny_call (codeAny_call_builtin hp hb ?_)
  have fin := wpAny_mono hc (Q' := fun fin s' => match fin with
    | .done f => (match (Except.ok f : Result) with | .ok (.ret v) => Q v s' | .ok _ => False | .error e => E e s')
    | .again c => c.quiet = true ∧ codeAny (model prog w) A c (fun r s2 => match r with | .ok (.ret v) => Q v s2 | .ok _ => False | .error e => E e s2) s') (fun fin s' h' => by
      cases fin with
      | done f => cases f <;> exact h'
      | again c => exact h') fun _ _ h' => h'
  simp only [checkBuiltinCall, hk]
  cases hsig : Manifest.signature? id with
  | none => exact wpAny_pure fin
  | some sig =>
    simp only [argsOk, hsig] at ha
    dsimp only
    rw [ha]
    exact wpAny_pure fin
end
section
variable {X : Cx}
def rHpush : List V → Hp → VK → Prop := fun vs H Q => ∃ l ns v, vs = [.ref l, .int v] ∧ H l = some (LI ns) ∧ ns.length < sizeLine ∧ Q .non (upd H l (LI (hpush ns v)))
theorem hlist_wp {pins : List (Addr × Obj)} {σ : L2.St} {H : Hp} {l : Addr} {A : Around} {s : Shared} {xs : List V} {Q : Bool → Shared → Prop} {E : Value → Shared → Prop} (I : Inv X pins σ H s) (h : H l = some (.lst xs)) (hq : Q true s) :
    wpAny (model X.prog X.w) A (isInstance (.ref l) (.type "list")) Q E s := by
  obtain ⟨z, its, n, r, hl, e⟩ := I.lstM h
  exact wpAny_isInstance (T := "list") ⟨_, e, rfl⟩ sub_list_self hq
theorem cr_hpush : CallR X (.builtin "_heapq.heappush") rHpush := by
  intro pins s σ H vs us Q I r h
  obtain ⟨l, ns, v, rfl, hH, hz, q⟩ := h
  obtain ⟨u, w, rfl, ru, rw'⟩ : ∃ u w, us = [u, w] ∧ RelV (.ref l) u ∧ RelV (.int v) w := by
    cases r with
    | cons a r =>
      cases r with
      | cons b r =>
        cases r
        exact ⟨_, _, rfl, a, b⟩
  cases ru
  obtain ⟨t, rfl⟩ := rw'
  refine call_fn_again HqF.kind_push HqF.plain_push HqF.entry_push (HqF.args_push _ _) ?_
  unfold Builtin.«_heapq.heappush»
  obtain ⟨z, its, n, r, hl, e⟩ := I.lstM hH
  refine wpAny_bind (wpAny_bind (wpAny_pure (wpAny_bind ?_)))
  refine wpAny_of_eq (show checkCount "heappush" 2 2 2 = pure () from rfl) ?_
  refine wpAny_bind (wpAny_bind (hlist_wp I hH ?_))
  refine wpAny_ite_true (by decide) (wpAny_pure (wpAny_pure ?_))
  refine wpAny_bind ?_
  rw [List.length_map] at z hl
  have z1 : its.toArray.size ≤ sizeLine := by rw [List.size_toArray, ← hl]; exact z
  have I1 := I.lset (l := l) (xs := ns.map V.int) (ys := (ns ++ [v]).map V.int) (its' := its ++ [.int v t]) (f := fun xs => xs.push (.int v t)) (t' := s.toks) hH e (by simp) (by
    rw [List.map_append]
    exact r.append (.cons ⟨t, rfl⟩ .nil)) (by rw [List.length_map, List.length_append, List.length_singleton]; omega)
  refine wpAny_updateSeq e rfl ?_ z1 (by rw [Array.size_push]; omega)
  obtain ⟨z2, its2, n2, r2, hl2, e2⟩ := I1.lstM (upd_self _ _ _)
  rw [List.length_map, List.length_append, List.length_singleton] at hl2
  refine wpAny_bind (wpAny_bind (wpAny_seqItems e2 rfl (wpAny_pure ?_)))
  have e3 : its2.toArray.size - 1 = ns.length := by
    rw [List.size_toArray]
    omega
  rw [e3]
  exact wpAny_pure ⟨plainId_quiet HqF.plain_sift _, sift_up (ns.length + 1) ns.length (ns ++ [v]) _ (by omega) (by simp) I1 fun s' I' => ⟨.non, _, I', rfl, q⟩⟩
def rHpop : List V → Hp → VK → Prop := fun vs H Q => ∃ l ns m ns', vs = [.ref l] ∧ H l = some (LI ns) ∧ hpop ns = some (m, ns') ∧ Q (.int m) (upd H l (LI ns'))
theorem cr_hpop : CallR X (.builtin "_heapq.heappop") rHpop := by
  intro pins s σ H vs us Q I r h
  obtain ⟨l, ns, m, ns', rfl, hH, hp, q⟩ := h
  obtain ⟨u, rfl, ru⟩ : ∃ u, us = [u] ∧ RelV (.ref l) u := by
    cases r with
    | cons a r =>
      cases r
      exact ⟨_, rfl, a⟩
  cases ru
  cases ns with
  | nil => cases hp
  | cons x rest =>
    cases hp
    refine call_fn_again HqF.kind_pop HqF.plain_pop HqF.entry_pop (HqF.args_pop _) ?_
    unfold Builtin.«_heapq.heappop»
    obtain ⟨z, its, n, r, hl, e⟩ := I.lstM hH
    refine wpAny_bind (wpAny_bind (wpAny_pure (wpAny_bind (wpAny_bind (hlist_wp I hH ?_)))))
    refine wpAny_ite_true (by decide) (wpAny_pure (wpAny_pure ?_))
    refine wpAny_bind (wpAny_bind (wpAny_seqItems e rfl (wpAny_pure ?_)))
    rw [List.length_map, List.length_cons] at z hl
    have z1 : its.toArray.size ≤ sizeLine := by rw [List.size_toArray, ← hl]; exact z
    obtain ⟨t0, h0⟩ := vals_ints_get r (i := 0) (by rw [List.length_cons]; omega)
    obtain ⟨tl, hL⟩ := vals_ints_get r (i := rest.length) (by rw [List.length_cons]; omega)
    have hb : its.toArray.back? = some (Value.int ((m :: rest).getD rest.length 0) tl) := by
      rw [Array.back?, List.size_toArray, ← hl]
      exact hL
    rw [hb]
    have lp : its.toArray.pop = its.dropLast.toArray := by simp
    have I1 := I.lset (l := l) (xs := (m :: rest).map V.int) (ys := ((m :: rest).dropLast).map V.int) (its' := its.dropLast) (f := fun xs => xs.pop) (t' := s.toks) hH e lp (by
      rw [List.map_dropLast]
      exact r.dropLast) (by rw [List.length_map, List.length_dropLast, List.length_cons]; omega)
    refine wpAny_bind (wpAny_updateSeq e rfl ?_ z1 (by rw [Array.size_pop]; omega))
    have zs : its.toArray.size = rest.length + 1 := by rw [List.size_toArray, ← hl]
    rw [zs]
    refine wpAny_ite_split (fun hc => ?_) (fun hc => ?_)
    · have h1 : rest = [] := by
        cases rest with
        | nil => rfl
        | cons a b => simp at hc
      subst h1
      exact wpAny_pure ⟨.int m, _, I1, ⟨_, rfl⟩, q⟩
    · have h1 : rest.isEmpty = false := by
        cases rest with
        | nil => simp at hc
        | cons a b => rfl
      rw [h1] at q
      have hr0 : 0 < rest.length := by
        cases rest with
        | nil => simp at hc
        | cons a b => simp
      refine wpAny_bind ?_
      show wpAny _ _ (match its.toArray[0]? with | some v => pure v | none => unsupported "internal:_heapq.index") _ _ _
      rw [h0]
      refine wpAny_pure (wpAny_bind ?_)
      obtain ⟨z2, its2, n2, r2, hl2, e2⟩ := I1.lstM (upd_self _ _ _)
      have hd : ((m :: rest).dropLast).length = rest.length := by rw [List.length_dropLast, List.length_cons]; omega
      rw [List.length_map, hd] at hl2
      have I2 := I1.lset (l := l) (xs := ((m :: rest).dropLast).map V.int) (ys := ((m :: rest).dropLast.set 0 ((m :: rest).getLastD 0)).map V.int) (its' := its2.set 0 (.int ((m :: rest).getD rest.length 0) tl)) (f := fun xs => xs.setIfInBounds 0 (.int ((m :: rest).getD rest.length 0) tl)) (t' := s.toks) (upd_self _ _ _) e2 (by simp) (by
        rw [List.map_set]
        refine vals_set r2 ⟨tl, ?_⟩
        have : (m :: rest).getLastD 0 = (m :: rest).getD rest.length 0 := by simp [List.getLastD_eq_getLast?, List.getLast?_eq_getElem?, List.getD]
        rw [this]) (by rw [List.length_map, List.length_set, hd]; omega)
      rw [upd2] at I2
      refine wpAny_updateSeq e2 rfl ?_ (by rw [List.size_toArray, ← hl2]; omega) (by rw [Array.size_setIfInBounds, List.size_toArray, ← hl2]; omega)
      exact wpAny_pure ⟨plainId_quiet HqF.plain_sift _, sift_dn rest.length 0 _ _ (by rw [List.length_set, hd]; omega) (by rw [List.length_set, hd]; exact hr0) I2 fun s' I' => ⟨.int m, _, I', ⟨t0, rfl⟩, q⟩⟩
end
end Gx

/-! heappush and heappop on a list of one's own, as statements -/
namespace Gx
open PySem L2 PySem.Spec PyProof.Rows
theorem hpush_len (xs : List Int) (v : Int) : (hpush xs v).length = xs.length + 1 := by
  unfold hpush
  rw [upN_len, List.length_append, List.length_singleton]
theorem hpop_len {xs ys : List Int} {m : Int} (h : hpop xs = some (m, ys)) : ys.length + 1 = xs.length := by
  cases xs with
  | nil => cases h
  | cons x r =>
    unfold hpop at h
    obtain ⟨rfl, rfl⟩ := Prod.mk.inj (Option.some.inj h)
    cases r with
    | nil => rfl
    | cons a b =>
      rw [if_neg (by simp), dnN_len, List.length_set, List.length_dropLast]
      rfl
def hpushO (xs : List Int) (v : Int) : Option (List Int) := if xs.length < sizeLine then some (hpush xs v) else none
section
variable {X : Cx} {σ : L2.St} {F0 H0 F H : Hp} {e a b c : Expr} {pos p p2 py : Pos} {De : Ends} {rest : List Stmt} {x y : Str} {l : Addr}
theorem OwnL.ints {K : PySem.W.Frag} {ns : List Int} (h : OwnL K H0 F H l (ns.map D.int)) : H l = some (LI ns) ∧ ns.length ≤ sizeLine := by
  obtain ⟨vs, h1, h2, hz⟩ := h.lst
  rw [h2.ints] at h1
  exact ⟨h1, by rw [List.length_map] at hz; exact hz⟩
/-- heappush(xs, e), xs one's own -/
theorem s_hpush (i : Nat) {ns ns' : List Int} {v : Int} {cp : Pos} (g0 : Gr F0 H0 F H) (ho : OwnL X.K H0 F H l (ns.map D.int)) (he : EvX X e σ F H (.int v)) (hq : hpushO ns v = some ns') (hm : X.mg "heappush" = some (.builtin "_heapq.heappush"))
    (k : ∀ F' H', Ex F F' → Gr F0 H0 F' H' → OwnL X.K H0 F' H' l (ns'.map D.int) → (∀ m e, m ≠ l → OwnO X.K H0 F H m e → OwnO X.K H0 F' H' m e) → wSs X rest De σ H')
    (h : σ[i]? = some (some (.ref l)) := by rfl) (hN : X.N[i]? = some x := by rfl) (hv : Vis X.env.scope x := by first | exact Or.inl rfl | exact Or.inr (Or.inl rfl) | exact Or.inr (Or.inr rfl))
    (hd : (x == ("__debug__" : Str)) = false := by decide) (hcd : (x == ("__classdict__" : Str)) = false := by decide) (hg : Gl X "heappush" := by rfl)
    (hs1 : starEach [.Name x py, e] X.env = (false, eval (.Name x py) X.env) :: starEach [e] X.env := by rfl) (hs2 : starEach [e] X.env = (false, eval e X.env) :: starEach [] X.env := by rfl)
    (hpl : (backTo cp (starEach [e] X.env)).any (·.1) = false := by rfl) (hs : swapsWith (.Call (.Name "heappush" p2) [.Name x py, e] [] cp) none pos.line X.env = pure false := by rfl) :
    wSs X (.Expr (.Call (.Name "heappush" p2) [.Name x py, e] [] cp) pos :: rest) De σ H := by
  obtain ⟨h1, hz⟩ := OwnL.ints ho
  unfold hpushO at hq
  split at hq
  · rename_i hlt
    cases hq
    refine s_cons (ps_expr (pe_callBfun cr_hpush hg hm (pa_cons (pe_var hN hv hd hcd) (pa_cons (pe X e) pa_nil hs2) hs1) (by decide) hs1 hpl) hs) ?_
    refine ⟨_, h, ?_⟩
    refine he F H (Ex.refl F) g0.fh (Ex.refl H) _ fun v' F' H' g r => ?_
    have n' := g.own h1 ho.n
    have hv' := r.int_
    subst hv'
    refine ⟨l, ns, v, rfl, g.h _ _ h1, hlt, ?_⟩
    refine k F' _ g.f ((g0.trans g).put ho.n0 n') (.mkL upd_same (RpL.of_ints _) (by rw [List.length_map, hpush_len]; exact hlt) n' ho.n0) fun m es ne hm => (hm.up g).oth ne
  · cases hq
/-- name = heappop(xs), xs one's own -/
theorem s_hpop (j i : Nat) {ns ns' : List Int} {v : Int} {cp : Pos} (nd : X.N.Nodup) (g0 : Gr F0 H0 F H) (ho : OwnL X.K H0 F H l (ns.map D.int)) (hq : hpop ns = some (v, ns')) (hm : X.mg "heappop" = some (.builtin "_heapq.heappop"))
    (k : ∀ H', Gr F0 H0 F H' → OwnL X.K H0 F H' l (ns'.map D.int) → (∀ m e, m ≠ l → OwnO X.K H0 F H m e → OwnO X.K H0 F H' m e) → wSs X rest De (σ.set j (some (.int v))) H')
    (h : σ[i]? = some (some (.ref l)) := by rfl) (hN : X.N[i]? = some x := by rfl) (hv : Vis X.env.scope x := by first | exact Or.inl rfl | exact Or.inr (Or.inl rfl) | exact Or.inr (Or.inr rfl))
    (hd : (x == ("__debug__" : Str)) = false := by decide) (hcd : (x == ("__classdict__" : Str)) = false := by decide) (hg : Gl X "heappop" := by rfl)
    (hs1 : starEach [.Name x py] X.env = (false, eval (.Name x py) X.env) :: starEach [] X.env := by rfl)
    (hpl : (backTo cp (starEach [] X.env)).any (·.1) = false := by rfl)
    (hi : X.N[j]? = some y := by rfl) (hx : Loc X.env.scope y := by first | exact Or.inl rfl | exact Or.inr rfl) (hs : swapsWith (.Call (.Name "heappop" p2) [.Name x py] [] cp) (some (.Name y p)) pos.line X.env = pure false := by rfl) (hf : X.fn y = true ∨ X.env.scope.names.lookup y = some .local := by first | exact .inl rfl | exact .inr rfl) :
    wSs X (.Assign [.Name y p] (.Call (.Name "heappop" p2) [.Name x py] [] cp) pos :: rest) De σ H := by
  obtain ⟨h1, hz⟩ := OwnL.ints ho
  refine s_cons (ps_set nd hi hx (pe_callBfun cr_hpop hg hm (pa_cons (pe_var hN hv hd hcd) pa_nil hs1) (by decide) hs1 hpl) hs hf) ?_
  refine ⟨_, h, ?_⟩
  refine ⟨l, ns, v, ns', rfl, h1, hq, ?_⟩
  have := hpop_len hq
  exact k _ (g0.put ho.n0 ho.n) (.mkL upd_same (RpL.of_ints _) (by rw [List.length_map]; omega) ho.n ho.n0) fun m es ne hm => hm.oth ne
end
end Gx

/-! the least and the greatest of a tuple of whole numbers -/
namespace Gx
open PySem L2 PySem.Spec PyProof.Rows
section
variable {X : Cx} {σ : L2.St} {F G : Hp} {e : Expr} {pos p : Pos}
theorem ints_at {its : List Value} {ns : List Int} (rv : Vals (ns.map V.int) its) (i : Nat) (v : Value) (h : its.toArray[i]? = some v) : ∃ t, v = Value.int (ns.getD i 0) t := by
  have hl : ns.length = its.length := by rw [← rv.length, List.length_map]
  by_cases hi : i < ns.length
  · obtain ⟨t, ht⟩ := vals_ints_get rv hi
    rw [ht] at h
    exact ⟨t, (Option.some.inj h).symm⟩
  · rw [List.getElem?_toArray, List.getElem?_eq_none (by omega)] at h
    cases h
def rMinT (K : PySem.W.Frag) : List V → Hp → VK → Prop := fun vs H Q => ∃ (a : Addr) (ns : List Int), vs = [V.ref a] ∧ SqT K H a (ns.map V.int) ∧ 0 < ns.length ∧ ∀ m, m ∈ ns → (∀ y, y ∈ ns → m ≤ y) → Q (.int m) H
theorem cr_minT (hc : X.calm = true) : CallR X (.builtin "min") (rMinT X.K) := by
  intro pins s σ H vs us Q I r h
  obtain ⟨a, ns, rfl, hs, hne, q⟩ := h
  obtain ⟨its, rv, pl, hz⟩ := I.tuple hs
  rw [Vals.ref1 r]
  have hl : ns.length = its.length := by rw [← rv.length, List.length_map]
  have hlt : a < s.heap.objs.size := pl.lt
  refine call_min_walk (wpAny_pyIter_tuple pl ?_)
  refine ⟨_, _, _, _, _, _, _, rfl, Walks.tuple (A := X.A.in1) (I.ok.hd hc) s.heap.objs.size a (Nat.ne_of_lt hlt) its.toArray, ⟨⟨_, Heap.get?_push_size _ rfl, rfl, rfl⟩, pl.push _⟩, fun b hb => ?_, ?_, CmpOf.ints_lt (fun i => ns.getD i 0) (fun i v hv => ints_at rv i v hv), fun v h' tk hP hk => ?_⟩
  · show b < (s.heap.push _).objs.size
    rw [Heap.size_push]
    rcases List.mem_cons.mp hb with e | hb
    · rw [e]
      exact Nat.lt_succ_self _
    · rw [List.mem_singleton.mp hb]
      exact Nat.lt_succ_of_lt hlt
  · rw [List.size_toArray]; omega
  · obtain ⟨t, rfl⟩ := ints_at rv _ v hP
    obtain ⟨b1, b2⟩ := argBest_lt (fun i => ns.getD i 0) (its.toArray.size - 1)
    rw [List.size_toArray] at b1 b2 
    have h1 : ns.getD (argBest (fun i j => decide (ns.getD i 0 < ns.getD j 0)) (its.toArray.size - 1)) 0 ∈ ns := by
      rw [List.size_toArray, List.getD_eq_getElem?_getD, List.getElem?_eq_getElem (by omega)]
      exact List.getElem_mem _
    have h2 : ∀ y ∈ ns, ns.getD (argBest (fun i j => decide (ns.getD i 0 < ns.getD j 0)) (its.toArray.size - 1)) 0 ≤ y := by
      intro y hy
      obtain ⟨j, hj, rfl⟩ := List.getElem_of_mem hy
      have := b2 j (by omega)
      rw [List.size_toArray]
      rw [List.getD_eq_getElem?_getD (i := j), List.getElem?_eq_getElem hj] at this
      exact this
    refine ⟨.int _, H, I.kept (t' := tk) fun b o e => hk b o (fun hb => ?_) (Heap.get?_push_of_some _ e), ⟨_, rfl⟩, q _ h1 h2⟩
    have h3 := Heap.lt_size e
    rw [List.mem_singleton.mp hb] at h3
    exact absurd h3 (Nat.lt_irrefl _)
theorem x_minT {ns : List Int} {m : Int} (h : EvX X e σ F G (.tup (ns.map D.int))) (hq : minL ns = some m) (hm : X.mg "min" = none) (hc : X.calm = true := by rfl) (hg : Gl X "min" := by rfl) (hs : starEach [e] X.env = (false, eval e X.env) :: starEach [] X.env := by rfl) (hpl : (backTo pos (starEach [] X.env)).any (·.1) = false := by rfl) :
    EvX X (.Call (.Name "min" p) [e] [] pos) σ F G (.int m) := EvX.of (pe_callB (cr_minT hc) hg hm PyProof.Rows.boot_min (pa_cons (pe X e) pa_nil hs) (by decide) (by decide) hs hpl) (er_cb (ea_cons h ea_nil) fun F1 H1 e vs r Q q => by
      obtain ⟨v, rfl, r1⟩ := r.one
      obtain ⟨a, us, rfl, h1, h2, _⟩ := r1.tup_
      obtain ⟨k1, k2⟩ := minL_is hq
      rw [h2.ints] at h1
      refine ⟨a, ns, rfl, sqT_ex e h1, List.length_pos_of_mem k1, fun m' h3 h4 => ?_⟩
      have : m' = m := Int.le_antisymm (h4 m k1) (k2 m' h3)
      rw [this]
      exact q _ F1 H1 (Gr.refl e) (.int _))
end
end Gx

/-! {k: v for x in xs} under a name; list(d); [d[x] for x in d] -/
namespace Gx
open PySem L2 PySem.Spec PyProof.Rows
theorem sw_trueD {kx vx : Expr} {gs : List Comprehension} {scope : Scope} {pos py : Pos} {y : Str} {l : Nat} {env : Env} (hk : env.scope.kind = .function) (hy : env.scope.names.lookup y = some .local) (hl : (py.line == pos.line) = true)
    (ha : (scope.names.any fun (n, k) => n == y && (k == .local || k == .cell)) = false) : swapsWith (.DictComp kx vx gs scope pos) (some (.Name y py)) l env = pure true := by
  have e1 : env.kindOf y = some .local := hy
  have e2 : env.blockKind = .function := by
    unfold Env.blockKind
    rw [hk] <;> rfl
  unfold swapsWith
  simp only [e2, e1, ha, Expr.pos, hl] <;> rfl
section
variable {X : Cx}
/-- name = {..} on one line, the name a local -/
theorem ps_setDc {i : Nat} {y : Str} {py : Pos} {kx vx tg it : Expr} {ifs : List Expr} {scope : Scope} {own : List (Str × Nat)} {pos spos : Pos} {wi : TI} {g : TG} {tt : TT} {tk tv : TE} (hc : X.calm = true) (nd : X.N.Nodup) (hy : X.N[i]? = some y) (hyl : X.env.scope.names.lookup y = some .local)
    (hsw : swapsWith (.DictComp kx vx [⟨tg, it, ifs, 0⟩] scope pos) (some (.Name y py)) spos.line X.env = pure true) (hi : PI X tg it wi) (ok : BlkOk X.N X.env.scope scope own)
    (hg : ∀ (s : Shared) (H : Hp) (C : Addr) (cl : List (Str × Addr)) (fp : List Addr), PG (X.blk s H scope (compEnvC scope cl C X.env) fp) tg g) (ht : ∀ (s : Shared) (H : Hp) (C : Addr) (cl : List (Str × Addr)) (fp : List Addr), PTs (X.blk s H scope (compEnvC scope cl C X.env) fp) ifs tt)
    (hk : ∀ (s : Shared) (H : Hp) (C : Addr) (cl : List (Str × Addr)) (fp : List Addr), PE (X.blk s H scope (compEnvC scope cl C X.env) fp) kx tk) (he : ∀ (s : Shared) (H : Hp) (C : Addr) (cl : List (Str × Addr)) (fp : List Addr), PE (X.blk s H scope (compEnvC scope cl C X.env) fp) vx tv)
    (hs : ∀ x, foldedSetIterable it X.env x = pure x := by intro _; rfl) : PS X (.Assign [.Name y py] (.DictComp kx vx [⟨tg, it, ifs, 0⟩] scope pos) spos) (tAsg (tDc wi g tt tk tv (own.map (·.2))) (gName i)) := by
  refine ⟨fun pins s σ H D I h => ?_⟩
  rw [exec_Assign_Name_used _ _ _ _ hsw]
  refine wpAny_bind (wpAny_standAt (wpAny_bind ?_))
  show wpAny _ X.A (do
    let _ ← comprehension (.DictComp kx vx [⟨tg, it, ifs, 0⟩] scope pos) scope X.env (firstIterPos [⟨tg, it, ifs, 0⟩] pos) newDict false (eval it X.env) (some (assign (.Name y py) X.env))) _ _ s
  have h : tDc wi g tt tk tv (own.map (·.2)) σ H (fun x H1 => gName i x σ H1 D.nx) := h
  refine wpAny_bind (thn (dc_core (Qf := fun _ s' => SP X pins D .next s') hc nd I hi ok hg ht hk he hs h fun L C s' m H' I' q hn f => ?_) fun _ s' hq => wpAny_pure (wpAny_pure hq))
  show wpAny _ _ (assign (.Name y py) X.env (.ref L)) _ _ _
  refine wpAny_assign_Name (store_ok2 (v := V.ref L) I' nd hy (.inl hyl) rfl (fun s2 I2 ⟨a, sb, ha⟩ => ?_) (.inr hyl))
  obtain ⟨f0, f1, f2, f3, f4, f5⟩ := f
  refine ⟨m, hn.sameBut sb ?_, fun h3 sb3 => ⟨_, H', I2.turned (t' := s2.toks) (fun b o hb e => (sb3.2 b hb).trans e) f0 f1 f3 f4 f5, q⟩⟩
  rcases ha with z | z
  · rw [z]
    exact f1
  · exact fun e => f4 y a z e.symm
end
def dcL {α β : Type} (kf : α → Int) (vf : α → β) (xs : List α) : List (Int × β) := xs.foldl (fun acc z => putL acc (kf z) (vf z)) []
theorem putL_len {κ β : Type} [DecidableEq κ] (kvs : List (κ × β)) (k : κ) (v : β) : (putL kvs k v).length ≤ kvs.length + 1 := by
  unfold putL
  split
  · rw [List.length_map]; omega
  · simp
theorem dcL_snoc {α β : Type} (kf : α → Int) (vf : α → β) (xs : List α) (z : α) : dcL kf vf (xs ++ [z]) = putL (dcL kf vf xs) (kf z) (vf z) := by
  unfold dcL
  rw [List.foldl_append] <;> rfl
section
variable {X : Cx} {σ : L2.St} {F0 H0 F G H : Hp} {kx vx it : Expr} {scope : Scope} {α β : Type} {enc : α → D} {enc2 : β → D} {xs : List α} {pos p spos p1 : Pos} {y x : Str} {rest : List Stmt} {De : Ends} {j : Nat}
/-- name = {k: v for x in xs}, xs a list, the keys whole numbers, nothing fails -/
theorem s_dcK (i : Nat) (own : List (Str × Nat)) (j : Nat) (kf : α → Int) (vf : α → β) (nd : X.N.Nodup) (g0 : Gr F0 H0 F H) (src : EvX X it σ F H (.lst (xs.map enc))) (ok : BlkOk X.N X.env.scope scope own)
    (hk : ∀ F1 z v, Ex F F1 → Rp X.K F1 v (enc z) → BEl X scope kx ((wipe σ (own.map (·.2))).set j (some v)) F1 H (.int (kf z))) (hv : ∀ F1 z v, Ex F F1 → Rp X.K F1 v (enc z) → BEl X scope vx ((wipe σ (own.map (·.2))).set j (some v)) F1 H (enc2 (vf z)))
    (k : ∀ l F' H', Gr F H F' H' → Gr F0 H0 F' H' → H l = none → OwnKI X.K H0 F' H' l enc2 (dcL kf vf xs) → wSs X rest De (σ.set i (some (.ref l))) H')
    (hyl : X.env.scope.names.lookup y = some .local := by rfl) (hsw : swapsWith (.DictComp kx vx [⟨.Name x p, it, [], 0⟩] scope pos) (some (.Name y p1)) spos.line X.env = pure true := by exact sw_trueD rfl rfl rfl (by decide +kernel)) (hy : X.N[i]? = some y := by rfl)
    (hg : ∀ (s : Shared) (H : Hp) (C : Addr) (cl : List (Str × Addr)) (fp : List Addr), PG (X.blk s H scope (compEnvC scope cl C X.env) fp) (.Name x p) (gName j) := by exact fun _ _ _ _ _ => pg_name (by assumption) rfl (Or.inl rfl))
    (hw : ∀ v, wipe ((wipe σ (own.map (·.2))).set j (some v)) (own.map (·.2)) = wipe σ (own.map (·.2)) := by intro _; rfl) (hc : X.calm = true := by rfl) (hs : ∀ z, foldedSetIterable it X.env z = pure z := by intro _; rfl) :
    wSs X (.Assign [.Name y p1] (.DictComp kx vx [⟨.Name x p, it, [], 0⟩] scope pos) spos :: rest) De σ H := by
  refine s_cons (ps_setDc (own := own) hc nd hy hyl hsw (pi_list (pe X it)) ok hg (fun _ _ _ _ _ => pts_nil) (bE_pe X scope kx) (bE_pe X scope vx) hs) ?_
  refine src F H (Ex.refl F) g0.fh (Ex.refl H) _ fun v F2 H2 g r => ?_
  obtain ⟨a, us, rfl, h1, h2, z⟩ := r.lst_
  rw [List.length_map] at z
  have hl : us.length = xs.length := by rw [h2.len, List.length_map]
  refine ⟨a, rfl, ⟨us, .of (g.fh _ _ h1)⟩, fun L hD => ?_⟩
  refine ⟨fun i m H' => m = us.length - i ∧ i ≤ us.length ∧ ∃ F' acc, Ex F2 F' ∧ Gr F H F' H' ∧ F' L = none ∧ H' L = some (.dK acc) ∧ RpK X.K F' acc (encKI enc2 (dcL kf vf (xs.take i))) ∧ (dcL kf vf (xs.take i)).length ≤ i, ⟨us.length, by simp, Nat.zero_le _, F2, [], Ex.refl _, g.put (g.h.free hD) (g.fh.free hD), g.fh.free hD, upd_same, .nil, Nat.le_refl _⟩, ?_⟩
  rintro n m H' ⟨rfl, hn, F', acc, e1, e2, e3, e4, e5, e6⟩
  have q : SqL X.K H' a us := .of (e2.fh _ _ (e1 _ _ h1))
  by_cases hlt : n < us.length
  · refine .inr ⟨⟨us, us[n], q, by simp [hlt]⟩, fun H2' => ∃ F' acc, Ex F2 F' ∧ Gr F H F' H2' ∧ F' L = none ∧ H2' L = some (.dK acc) ∧ RpK X.K F' acc (encKI enc2 (dcL kf vf (xs.take (n + 1)))) ∧ (dcL kf vf (xs.take (n + 1))).length ≤ n + 1, fun H2' p' => ⟨us.length - (n + 1), by omega, rfl, hlt, p'⟩, fun w H2' hy => ?_⟩
    obtain ⟨rfl, hy⟩ := hy
    have hwv := hy us q
    obtain ⟨d, k1, k2⟩ := h2.get hwv
    obtain ⟨z1, k3, rfl⟩ := map_at k1
    have k2' := k2.up e1
    refine ⟨hw w, ?_⟩
    show bE X scope kx _ _ _
    refine bE_of (hk F' z1 w (g.f.trans e1) k2') F' _ (Ex.refl _) e2.fh e2.h _ fun w1 F3 H3 g3 r3 => ?_
    refine bE_of (hv F3 z1 w ((g.f.trans e1).trans g3.f) (k2'.up g3.f)) F3 H3 (Ex.refl _) g3.fh (e2.h.trans g3.h) _ fun w2 F4 H4 g4 r4 => ?_
    have q3 : F3 L = none := g3.own e4 e3
    have q4 : F4 L = none := g4.own (g3.h _ _ e4) q3
    have q5 := g3.trans g4
    have e7 : acc.length = (dcL kf vf (xs.take n)).length := by rw [e5.len]; simp [encKI]
    refine ⟨acc, Sum.inl (kf z1), r3.int_, q5.h _ _ e4, by omega, F4, _, (e1.trans q5.f), (e2.trans q5).put (g.h.free hD) q4, q4, upd_same, ?_, ?_⟩
    · rw [List.take_succ, k3]
      show RpK _ _ _ (encKI enc2 (dcL kf vf (xs.take n ++ [z1])))
      rw [dcL_snoc, encKI, ← putL_map (g := (Sum.inl : Int → Key)) (fun _ _ => inl_inj)]
      exact (e5.up q5.f).put _ r4
    · rw [List.take_succ, k3]
      show (dcL kf vf (xs.take n ++ [z1])).length ≤ n + 1
      rw [dcL_snoc]
      have := putL_len (dcL kf vf (xs.take n)) (kf z1) (vf z1)
      omega
  · have e : n = xs.length := by omega
    refine .inl ⟨⟨us, q, by omega⟩, ?_⟩
    rw [e, List.take_length] at e5
    exact k L F' H' e2 (g0.trans e2) (g.h.free hD) ⟨⟨_, e4, .dic e5⟩, e3, g0.h.free (g.h.free hD)⟩
end
end Gx

namespace Gx
open PySem L2 PySem.Spec PyProof.Rows
def keysO {κ β : Type} (kvs : List (κ × β)) : Option (List κ) := if kvs.length ≤ sizeLine then some (kvs.map (·.1)) else none
def valsO {κ β : Type} [DecidableEq κ] (kvs : List (κ × β)) : Option (List β) := if kvs.length < sizeLine then mpO (fun p => getA kvs p.1) kvs else none
theorem keys_ints {β : Type} {K : PySem.W.Frag} {F : Hp} {f : β → D} : ∀ {kvs : List (Int × β)} {vs : List (Key × V)}, RpK K F vs (encKI f kvs) → (vs.map fun kv => kV kv.1) = (kvs.map (·.1)).map V.int
  | [], _, h => by cases h; rfl
  | p :: r, _, h => by
    cases h with
    | cons a b =>
      have := keys_ints b
      simp only [List.map_cons, this]
      rfl
theorem mpO_cons {α β : Type} {f : α → Option β} {x : α} {r : List α} {ys : List β} (h : mpO f (x :: r) = some ys) : ∃ y zs, f x = some y ∧ mpO f r = some zs ∧ ys = y :: zs := by
  unfold mpO fmO at h
  obtain ⟨o, h1, h⟩ := bnd h
  obtain ⟨y, h2, h1⟩ := bnd h1
  obtain ⟨zs, h3, h⟩ := bnd h
  cases h1
  cases h
  exact ⟨y, zs, h2, h3, rfl⟩
theorem vals_rel {β : Type} {K : PySem.W.Frag} {F : Hp} {f : β → D} {all : List (Int × β)} {avs : List (Key × V)} (h0 : RpK K F avs (encKI f all)) : ∀ (kvs : List (Int × β)) (vs : List (Key × V)) (ys : List β), RpK K F vs (encKI f kvs) → mpO (fun p => getA all p.1) kvs = some ys →
    RpL K F (vs.map fun p => (valV avs p.1).getD .non) (ys.map f) ∧ ∀ p ∈ vs, (valV avs p.1).isSome = true
  | [], _, ys, h, hm => by
    cases h
    cases hm
    exact ⟨.nil, fun p hp => nomatch hp⟩
  | (k, b) :: r, _, ys, h, hm => by
    obtain ⟨y, zs, h1, h2, rfl⟩ := mpO_cons hm
    cases h with
    | @cons _ v vs _ _ a b =>
      obtain ⟨i1, i2⟩ := vals_rel h0 r vs zs b h2
      rcases h0.get (Sum.inl k) with ⟨j1, j2⟩ | ⟨v', d, j1, j2, j3⟩
      · rw [getK_map (g := (Sum.inl : Int → Key)) (fun _ _ => inl_inj)] at j2
        unfold getA at h1
        rw [h1] at j2
        cases j2
      · rw [getK_map (g := (Sum.inl : Int → Key)) (fun _ _ => inl_inj)] at j2
        unfold getA at h1
        rw [h1] at j2
        cases j2
        refine ⟨?_, fun p hp => ?_⟩
        · rw [List.map_cons, List.map_cons]
          refine .cons ?_ i1
          show Rp K F ((valV avs (Sum.inl k)).getD .non) _
          rw [j1]
          exact j3
        · rcases List.mem_cons.mp hp with rfl | hp
          · show (valV avs (Sum.inl k)).isSome = true
            rw [j1]
            rfl
          · exact i2 p hp
section
variable {X : Cx} {σ : L2.St} {F0 H0 F G H : Hp} {e : Expr} {scope : Scope} {β : Type} {f : β → D} {pos p p1 p2 p3 p4 p5 : Pos} {x dn : Str} {l : Addr}
theorem n_listOfD {kvs : List (Int × β)} {ks : List Int} (h : EvXD X e σ F G (encKI f kvs)) (hq : keysO kvs = some ks) (hm : X.mg "list" = none) (hc : X.calm = true := by rfl) (hg : Gl X "list" := by rfl) (hs : starEach [e] X.env = (false, eval e X.env) :: starEach [] X.env := by rfl) (hpl : (backTo pos (starEach [] X.env)).any (·.1) = false := by rfl) :
    EvXN X (.Call (.Name "list" p) [e] [] pos) σ F G (ks.map D.int) := EvXN.of (pe_callTy (call_list_dK hc) hg hm PyProof.Rows.boot_list (pa_cons (pe X e) pa_nil hs) (by decide) (by decide) hs hpl) fun F1 H1 e1 e2 e3 Q q =>
  h F1 H1 e1 e2 e3 _ fun a vs F2 H2 g hp r => by
    unfold keysO at hq
    split at hq
    · cases hq
      refine ⟨a, vs, rfl, hp, fun L hL => ?_⟩
      rw [keys_ints r]
      exact q L _ F2 _ (g.trans (Gr.hid g.fh (Ex.new hL))) (g.h.free hL) (g.fh.free hL) upd_same (RpL.of_ints _) (by rw [List.length_map, List.length_map]; assumption)
    · cases hq
/-- [d[x] for x in d], the keys whole numbers -/
theorem n_lcDK {kvs : List (Int × β)} {ys : List β} (own : List (Str × Nat)) (i j : Nat) (nd : X.N.Nodup) (ho : RdD X.K F G l (encKI f kvs)) (hq : valsO kvs = some ys) (hu : X.A.units + 1 < cLine) (ok : BlkOk X.N X.env.scope scope own)
    (h : σ[i]? = some (some (.ref l)) := by rfl) (h2 : ∀ v, ((wipe σ (own.map (·.2))).set j (some v))[i]? = some (some (.ref l)) := by intro _; rfl) (h3 : ∀ v, ((wipe σ (own.map (·.2))).set j (some v))[j]? = some (some v) := by intro _; rfl)
    (hd : PE X (.Name dn p5) (tVar i) := by exact pe_var rfl (by first | exact Or.inl rfl | exact Or.inr (Or.inl rfl) | exact Or.inr (Or.inr rfl)))
    (hd2 : ∀ (s : Shared) (H : Hp) (C : Addr) (cl : List (Str × Addr)) (fp : List Addr), PE (X.blk s H scope (compEnvC scope cl C X.env) fp) (.Name dn p1) (tVar i) := by exact fun _ _ _ _ _ => pe_var rfl (by first | exact Or.inl rfl | exact Or.inr (Or.inl rfl) | exact Or.inr (Or.inr rfl)))
    (hx2 : ∀ (s : Shared) (H : Hp) (C : Addr) (cl : List (Str × Addr)) (fp : List Addr), PE (X.blk s H scope (compEnvC scope cl C X.env) fp) (.Name x p2) (tVar j) := by exact fun _ _ _ _ _ => pe_var rfl (by first | exact Or.inl rfl | exact Or.inr (Or.inl rfl) | exact Or.inr (Or.inr rfl)))
    (hg : ∀ (s : Shared) (H : Hp) (C : Addr) (cl : List (Str × Addr)) (fp : List Addr), PG (X.blk s H scope (compEnvC scope cl C X.env) fp) (.Name x p4) (gName j) := by exact fun _ _ _ _ _ => pg_name (by assumption) rfl (Or.inl rfl))
    (hw : ∀ v, wipe ((wipe σ (own.map (·.2))).set j (some v)) (own.map (·.2)) = wipe σ (own.map (·.2)) := by intro _; rfl) (hc : X.calm = true := by rfl) (hs : ∀ z, foldedSetIterable (.Name dn p5) X.env z = pure z := by intro _; rfl) :
    EvXN X (.ListComp (.Subscript (.Name dn p1) (.Name x p2) p3) [⟨.Name x p4, .Name dn p5, [], 0⟩] scope pos) σ F G (ys.map f) := fun F1 H1 e1 e2 e3 Q q => by
  obtain ⟨vs, hv1, hv2⟩ := ho
  have hl := e3 _ _ hv1
  have hr := hv2.up e1
  unfold valsO at hq
  split at hq
  case isFalse => cases hq
  rename_i hz
  obtain ⟨r1, r2⟩ := vals_rel hr kvs vs ys hr hq
  have hlen : vs.length = kvs.length := by rw [hr.len]; simp [encKI]
  refine wE_of (pe_lock (pe_lc (own := own) hc nd (pi_keys hd) ok hg (fun _ _ _ _ _ => pts_nil) (fun s H C cl fp => pe_dget hu (hd2 s H C cl fp) (hx2 s H C cl fp) (fun _ _ => rfl)) hs)) ?_
  refine ⟨l, .dK vs, hl, True.intro, fun od => ?_⟩
  refine ⟨.ref l, h, l, od, rfl, .inl ⟨vs, upd_same, fun L hL => ?_⟩⟩
  have hne : L ≠ l := fun e => by rw [e, upd_same] at hL; cases hL
  have hL1 : H1 L = none := by rw [upd_ne hne] at hL; exact hL
  have hfr : ∀ a, (upd (upd H1 l (.frz od (.dK vs))) L (.lst a)) l = some (.frz od (.dK vs)) := fun a => by rw [upd_ne (Ne.symm hne), upd_same]
  refine ⟨fun n m H' => m = vs.length - n ∧ n ≤ vs.length ∧ H' = upd (upd H1 l (.frz od (.dK vs))) L (.lst ((vs.take n).map fun p => (valV vs p.1).getD .non)), ⟨vs.length, by simp, Nat.zero_le _, by simp⟩, ?_⟩
  rintro n m H' ⟨rfl, hn, rfl⟩
  by_cases hlt : n < vs.length
  · refine .inr ⟨⟨hfr _, hlt⟩, fun H' => H' = upd (upd H1 l (.frz od (.dK vs))) L (.lst ((vs.take (n + 1)).map fun p => (valV vs p.1).getD .non)), fun H' e => ⟨vs.length - (n + 1), by omega, rfl, hlt, e⟩, fun w H' hy => ?_⟩
    obtain ⟨rfl, k, v, hk, rfl⟩ := hy
    refine ⟨hw _, ?_⟩
    have hmem : (k, v) ∈ vs := List.mem_of_getElem? hk
    obtain ⟨v', hv'⟩ := Option.isSome_iff_exists.mp (r2 _ hmem)
    refine ⟨.ref l, h2 _, kV k, h3 _, l, v', rfl, ?_, _, upd_same, ?_, ?_⟩
    · exact .inl ⟨vs, k, .inr ⟨od, hfr _⟩, rfl, hv'.symm⟩
    · rw [List.length_map, List.length_take]
      omega
    · rw [upd2, List.take_succ, hk]
      simp [hv']
  · have e : n = vs.length := by omega
    subst e
    refine .inl ⟨⟨hfr _, Nat.le_refl _⟩, hfr _, ?_⟩
    rw [List.take_length]
    have e4 : upd (upd (upd H1 l (.frz od (.dK vs))) L (.lst (vs.map fun p => (valV vs p.1).getD .non))) l (.dK vs) = upd H1 L (.lst (vs.map fun p => (valV vs p.1).getD .non)) := by
      funext a
      by_cases h1 : a = l
      · subst h1
        rw [upd_same, upd_ne (Ne.symm hne), hl]
      · rw [upd_ne h1]
        by_cases h2 : a = L
        · subst h2
          rw [upd_same, upd_same]
        · rw [upd_ne h2, upd_ne h2, upd_ne h1]
    rw [e4]
    exact q L _ F1 _ (Gr.hid e2 (Ex.new hL1)) hL1 (e2.free hL1) upd_same r1 (by
      have e5 := r1.len
      rw [List.length_map, List.length_map] at e5
      rw [List.length_map, ← e5]
      omega)
end
theorem Rp.dicR {K : PySem.W.Frag} {F : Hp} {v : V} {kvs : List (Key × D)} (h : Rp K F v (.dic kvs)) : ∃ l, v = .ref l := by
  cases h with
  | dic a b => exact ⟨_, rfl⟩
theorem Rp.rdD {K : PySem.W.Frag} {F G : Hp} {l : Addr} {kvs : List (Key × D)} (h : Rp K F (.ref l) (.dic kvs)) (e : Ex F G) : RdD K F G l kvs := by
  cases h with
  | dic a b => exact ⟨_, e _ _ a, b⟩
/-- a dict with whole numbers for keys, as a datum -/
@[reducible] def encDI {β : Type} (f : β → D) (kvs : List (Int × β)) : D := .dic (encKI f kvs)
section
variable {X : Cx} {e : Expr} {σ : L2.St} {F G : Hp} {dk : List (Key × D)}
theorem x_d (h : EvX X e σ F G (.dic dk)) : EvXD X e σ F G dk := EvR.toD h
end
end Gx

namespace K72
open PySem L2 PySem.Spec PyProof.Rows Gx
def f_last_sizes (a_sizes : Bool × List Int) (a_count : Int) : Option (List (Option Int)) :=
  (rgS 0 ((a_count + 1))).bind fun t1 =>
  (mpO (fun (z2 : Int) => some none) t1).bind fun t6 =>
  (setO t6 0 (some 0)).bind fun t7 =>
  (rgO 1 ((a_count + 1))).bind fun t8 =>
  (forF (ρ := Empty) (fun (z10 : Int) (s9 : (List (Option Int))) =>
    (forF (ρ := Empty) (fun (z14 : Int) (s13 : (List (Option Int))) =>
      (andO (decide (z14 ≤ z10)) ((atI s13 ((z10 - z14))).bind fun t17 => some (!t17.isNone))).bind fun t18 =>
      if t18 = true then
        (setO s13 z10 (some z14)).bind fun t19 =>
        some (.bk t19)
      else
        some (.nx s13)) a_sizes.2 s9).bind fun o16 => aft o16 (fun (s13 : (List (Option Int))) =>
      some (.nx s13)) (fun z => z.elim)) t8 t7).bind fun o12 => aft o12 (fun (s9 : (List (Option Int))) =>
    some s9) (fun z => z.elim)
abbrev R_last_sizes : List D → D → Prop := fun ds d => ∃ (a_sizes : Bool × List Int) (a_count : Int) (rr : List (Option Int)), ds = [(encQ D.int) a_sizes, D.int a_count] ∧ f_last_sizes a_sizes a_count = some rr ∧ d = D.lst (rr.map (encO D.int))
def f_sum_row (a_sizes : Bool × List Int) (a_count : Int) : Option (Option (List Int)) :=
  (f_last_sizes a_sizes a_count).bind fun t1 =>
  (atI t1 a_count).bind fun t2 =>
  if t2.isNone = true then
    some none
  else
    (whileF (ρ := Empty) (fun (s3 : Int × (List Int)) =>
      if (decide (0 < s3.1)) = true then
        (atI t1 s3.1).bind fun t6 =>
        (t6).bind fun t7 =>
        (appO s3.2 t7).bind fun t8 =>
        (atI t1 s3.1).bind fun t9 =>
        (t9).bind fun t10 =>
        some (.nx (((s3.1 - t10), t8)))
      else some (.bk s3)) ((a_count).toNat + 1) ((a_count, []))).bind fun o5 => aft o5 (fun (s3 : Int × (List Int)) =>
      some (some ((sortI s3.2)))) (fun z => z.elim)
abbrev R_sum_row : List D → D → Prop := fun ds d => ∃ (a_sizes : Bool × List Int) (a_count : Int) (rr : Option (List Int)), ds = [(encQ D.int) a_sizes, D.int a_count] ∧ f_sum_row a_sizes a_count = some rr ∧ d = (encO (encT D.int)) rr
def f_common_step (a_sizes : Bool × List Int) : Option Int :=
  (forF (ρ := Empty) (fun (z2 : Int) (s1 : Int) =>
    some (.nx (((Nat.gcd s1.natAbs z2.natAbs : Nat) : Int)))) a_sizes.2 0).bind fun o4 => aft o4 (fun (s1 : Int) =>
    some s1) (fun z => z.elim)
abbrev R_common_step : List D → D → Prop := fun ds d => ∃ (a_sizes : Bool × List Int) (rr : Int), ds = [(encQ D.int) a_sizes] ∧ f_common_step a_sizes = some rr ∧ d = D.int rr
def f_ascending (a_values : List Int) : Option (List Int) :=
  (keysO ((dcL (fun (z1 : Int) => z1) (fun (z1 : Int) => true) a_values))).bind fun t5 =>
  some ((sortI t5))
abbrev R_ascending : List D → D → Prop := fun ds d => ∃ (a_values : List Int) (rr : List Int), ds = [D.lst (a_values.map D.int)] ∧ f_ascending a_values = some rr ∧ d = D.tup (rr.map D.int)
def f_least_sums (a_sizes : List Int) : Option (List (Int × Int)) :=
  (minL a_sizes).bind fun t1 =>
  (whileF (ρ := Empty) (fun (s2 : (List (Int × Int)) × (List Int)) =>
    if (!s2.2.isEmpty) = true then
      (hpop s2.2).bind fun t5 =>
      (modO t5.1 t1).bind fun t6 =>
      (if (!inA t6 s2.1) = true then
        (modO t5.1 t1).bind fun t9 =>
        (putO s2.1 t9 t5.1).bind fun t8 =>
        (forF (ρ := Empty) (fun (z11 : Int) (s10 : (List Int)) =>
          (hpushO s10 ((t5.1 + z11))).bind fun t14 =>
          some (.nx t14)) a_sizes t5.2).bind fun o13 => aft o13 (fun (s10 : (List Int)) =>
          some ((t8, s10))) (fun z => z.elim)
      else
        some ((s2.1, t5.2))).bind fun (s7 : (List (Int × Int)) × (List Int)) =>
        some (.nx ((s7.1, s7.2)))
    else some (.bk s2)) (720 * 64 + 2) ((([] : List (Int × Int)), [0]))).bind fun o4 => aft o4 (fun (s2 : (List (Int × Int)) × (List Int)) =>
    some s2.1) (fun z => z.elim)
abbrev R_least_sums : List D → D → Prop := fun ds d => ∃ (a_sizes : List Int) (rr : List (Int × Int)), ds = [D.tup (a_sizes.map D.int)] ∧ f_least_sums a_sizes = some rr ∧ d = (encDI D.int) rr
def f_sum_pattern (a_sizes : Bool × List Int) : Option (Int × Int) :=
  (f_common_step a_sizes).bind fun t1 =>
  (mpO (fun (z2 : Int) => (divO z2 t1).bind fun t6 => some t6) a_sizes.2).bind fun t7 =>
  (f_ascending t7).bind fun t8 =>
  (f_least_sums t8).bind fun t9 =>
  (valsO t9).bind fun t10 =>
  (maxL t10).bind fun t11 =>
  (minL t8).bind fun t12 =>
  (mulO (((t11 - t12) + 1)) t1).bind fun t13 =>
  some ((t1, t13))
abbrev R_sum_pattern : List D → D → Prop := fun ds d => ∃ (a_sizes : Bool × List Int) (rr : Int × Int), ds = [(encQ D.int) a_sizes] ∧ f_sum_pattern a_sizes = some rr ∧ d = (encP2 D.int D.int) rr
def f_law_whole (a_thing : D) : Option Bool :=
  (isiD "int" (a_thing)).bind fun t1 =>
  (andO t1 ((isiD "bool" (a_thing)).bind fun t2 => some (!t2))).bind fun t3 =>
  some t3
abbrev R_law_whole : List D → D → Prop := fun ds d => ∃ (a_thing : D) (rr : Bool), ds = [a_thing] ∧ f_law_whole a_thing = some rr ∧ d = D.bl rr
def f_law_cell (a_script : List Int) (a_k : Int) : Option Int :=
  if (decide (a_k < ((a_script.length : Int)))) = true then
    (atI a_script a_k).bind fun t1 =>
    some t1
  else
    (forF (ρ := Empty) (fun (z3 : Int) (s2 : Int) =>
      (mulO s2 31).bind fun t6 =>
      (modO z3 1000003).bind fun t7 =>
      (modO ((t6 + t7)) 1000003).bind fun t8 =>
      some (.nx t8)) a_script 17).bind fun o5 => aft o5 (fun (s2 : Int) =>
      (mulO ((s2 + 7)) ((a_k + 3))).bind fun t9 =>
      (mulO t9 69621).bind fun t10 =>
      (modO t10 2147483647).bind fun t11 =>
      some t11) (fun z => z.elim)
abbrev R_law_cell : List D → D → Prop := fun ds d => ∃ (a_script : List Int) (a_k : Int) (rr : Int), ds = [D.scr a_script, D.int a_k] ∧ f_law_cell a_script a_k = some rr ∧ d = D.int rr
def f_law_digits (a_cell : Int) (a_sizes : List Int) : Option (List Int) :=
  (powO 10 18).bind fun t1 =>
  if (decide (t1 ≤ a_cell)) = true then
    (powO 10 18).bind fun t2 =>
    (forF (ρ := Empty) (fun (z4 : Int) (s3 : Int × (List Int)) =>
      (modO s3.1 z4).bind fun t7 =>
      (appO s3.2 t7).bind fun t8 =>
      (divO s3.1 z4).bind fun t9 =>
      some (.nx ((t9, t8)))) a_sizes (((a_cell - t2), []))).bind fun o6 => aft o6 (fun (s3 : Int × (List Int)) =>
      some s3.2) (fun z => z.elim)
  else
    (modO a_cell 2147483629).bind fun t10 =>
    (rgO 0 ((a_sizes.length : Int))).bind fun t11 =>
    (forF (ρ := Empty) (fun (z13 : Int) (s12 : Int × (List Int)) =>
      (mulO s12.1 48271).bind fun t16 =>
      (mulO 974711 z13).bind fun t17 =>
      (modO (((t16 + t17) + 12345)) 2147483647).bind fun t18 =>
      (divO t18 65537).bind fun t19 =>
      (mulO t18 ((t19 + 3))).bind fun t20 =>
      (modO t20 2147483629).bind fun t21 =>
      (divO t21 19).bind fun t22 =>
      (atI a_sizes z13).bind fun t23 =>
      (modO t22 t23).bind fun t24 =>
      (appO s12.2 t24).bind fun t25 =>
      some (.nx ((t18, t25)))) t11 ((t10, []))).bind fun o15 => aft o15 (fun (s12 : Int × (List Int)) =>
      some s12.2) (fun z => z.elim)
abbrev R_law_digits : List D → D → Prop := fun ds d => ∃ (a_cell : Int) (a_sizes : List Int) (rr : List Int), ds = [D.int a_cell, D.lst (a_sizes.map D.int)] ∧ f_law_digits a_cell a_sizes = some rr ∧ d = D.lst (rr.map D.int)
def f_law_gcd (a_one : Int) (a_two : Int) : Option Int :=
  (rgO 0 60).bind fun t1 =>
  (forF (ρ := Empty) (fun (z3 : Int) (s2 : Int × Int) =>
    (if (!decide (s2.2 = 0)) = true then
      (modO s2.1 s2.2).bind fun t7 =>
      some ((s2.2, t7))
    else
      some ((s2.1, s2.2))).bind fun (s6 : Int × Int) =>
      some (.nx ((s6.1, s6.2)))) t1 ((a_one, a_two))).bind fun o5 => aft o5 (fun (s2 : Int × Int) =>
    some s2.1) (fun z => z.elim)
abbrev R_law_gcd : List D → D → Prop := fun ds d => ∃ (a_one : Int) (a_two : Int) (rr : Int), ds = [D.int a_one, D.int a_two] ∧ f_law_gcd a_one a_two = some rr ∧ d = D.int rr
def f_law_table (a_numbers : List Int) : Option (List (Option Int)) :=
  (minL a_numbers).bind fun t1 =>
  (rgS 0 t1).bind fun t2 =>
  (mpO (fun (z3 : Int) => some none) t2).bind fun t7 =>
  (setO t7 0 (some 0)).bind fun t8 =>
  (forF (ρ := Empty) (fun (z10 : Int) (s9 : (List (Int × Bool)) × (List (Option Int))) =>
    (if (!inA z10 s9.1) = true then
      (putO s9.1 z10 true).bind fun t14 =>
      (f_law_gcd t1 z10).bind fun t15 =>
      (rgO 0 t15).bind fun t16 =>
      (forF (ρ := Empty) (fun (z18 : Int) (s17 : (List (Option Int))) =>
        (divO t1 t15).bind fun t21 =>
        (mulO 2 t21).bind fun t22 =>
        (rgO 0 t22).bind fun t23 =>
        (forF (ρ := Empty) (fun (z25 : Int) (s24 : Int × (List (Option Int))) =>
          (modO ((s24.1 + z10)) t1).bind fun t28 =>
          (atI s24.2 s24.1).bind fun t29 =>
          (andO (!t29.isNone) ((atI s24.2 t28).bind fun t30 => (orO t30.isNone ((atI s24.2 s24.1).bind fun t31 => (t31).bind fun t32 => (atI s24.2 t28).bind fun t33 => (t33).bind fun t34 => some (decide (((t32 + z10)) < t34)))).bind fun t35 => some (t35))).bind fun t36 =>
          (if t36 = true then
            (atI s24.2 s24.1).bind fun t39 =>
            (t39).bind fun t40 =>
            (setO s24.2 t28 (some ((t40 + z10)))).bind fun t38 =>
            some t38
          else
            some s24.2).bind fun (s37 : (List (Option Int))) =>
            some (.nx ((t28, s37)))) t23 ((z18, s17))).bind fun o27 => aft o27 (fun (s24 : Int × (List (Option Int))) =>
          some (.nx s24.2)) (fun z => z.elim)) t16 s9.2).bind fun o20 => aft o20 (fun (s17 : (List (Option Int))) =>
        some ((t14, s17))) (fun z => z.elim)
    else
      some ((s9.1, s9.2))).bind fun (s13 : (List (Int × Bool)) × (List (Option Int))) =>
      some (.nx ((s13.1, s13.2)))) a_numbers ((([] : List (Int × Bool)), t8))).bind fun o12 => aft o12 (fun (s9 : (List (Int × Bool)) × (List (Option Int))) =>
    some s9.2) (fun z => z.elim)
abbrev R_law_table : List D → D → Prop := fun ds d => ∃ (a_numbers : List Int) (rr : List (Option Int)), ds = [D.lst (a_numbers.map D.int)] ∧ f_law_table a_numbers = some rr ∧ d = D.lst (rr.map (encO D.int))
def f_law_pattern (a_numbers : List Int) (a_table : List (Option Int)) : Option (Int × Int) :=
  (forF (ρ := Empty) (fun (z2 : Int) (s1 : Int) =>
    (f_law_gcd z2 s1).bind fun t5 =>
    some (.nx t5)) a_numbers 0).bind fun o4 => aft o4 (fun (s1 : Int) =>
    (flO (fun (z6 : Option Int) => some (!z6.isNone)) (fun (z6 : Option Int) => (z6).bind fun t10 => some t10) a_table).bind fun t11 =>
    (maxL t11).bind fun t12 =>
    (minL a_numbers).bind fun t13 =>
    some ((s1, ((t12 - t13) + s1)))) (fun z => z.elim)
abbrev R_law_pattern : List D → D → Prop := fun ds d => ∃ (a_numbers : List Int) (a_table : List (Option Int)) (rr : Int × Int), ds = [D.lst (a_numbers.map D.int), D.lst (a_table.map (encO D.int))] ∧ f_law_pattern a_numbers a_table = some rr ∧ d = (encP2 D.int D.int) rr
def f_law_sizes (a_script : List Int) : Option (List Int) :=
  (f_law_cell a_script 0).bind fun t1 =>
  (f_law_digits t1 ([6, 8, 60, 30, 700])).bind fun t2 =>
  (atI t2 2).bind fun t3 =>
  (atI t2 1).bind fun t4 =>
  (atI ([1, 2, 3, 2, 4, 6, 12, (t3 + 1)]) t4).bind fun t5 =>
  (f_law_cell a_script 1).bind fun t6 =>
  (repO ([720]) t5).bind fun t7 =>
  (f_law_digits t6 t7).bind fun t8 =>
  (atI t2 0).bind fun t9 =>
  if (decide (t9 = 0)) = true then
    (mpO (fun (z10 : Int) => some ((z10 + 1))) t8).bind fun t14 =>
    some t14
  else
    (atI t2 0).bind fun t15 =>
    if (decide (t15 = 1)) = true then
      (atI t2 3).bind fun t16 =>
      (mpO (fun (z17 : Int) => (divO 720 ((t16 + 2))).bind fun t21 => (modO z17 t21).bind fun t22 => (mulO ((t16 + 2)) ((1 + t22))).bind fun t23 => some t23) t8).bind fun t24 =>
      some t24
    else
      (atI t2 0).bind fun t25 =>
      if (decide (t25 = 2)) = true then
        (mpO (fun (z26 : Int) => (modO z26 24).bind fun t30 => some ((720 - t30))) t8).bind fun t31 =>
        some t31
      else
        (atI t2 0).bind fun t32 =>
        if (decide (t32 = 3)) = true then
          (mpO (fun (z33 : Int) => (modO z33 15).bind fun t37 => some ((2 + t37))) t8).bind fun t38 =>
          some t38
        else
          (atI t2 0).bind fun t39 =>
          if (decide (t39 = 4)) = true then
            (mpO (fun (z40 : Int) => (modO z40 17).bind fun t44 => (atI ([6, 2, 3, 4, 5, 6, 8, 10, 12, 15, 20, 24, 30, 40, 60, 120, 1]) t44).bind fun t45 => some t45) t8).bind fun t46 =>
            some t46
          else
            (mpO (fun (z47 : Int) => (atI t2 4).bind fun t51 => (modO z47 2).bind fun t52 => (divO z47 2).bind fun t53 => (modO t53 17).bind fun t54 => (mulO t52 ((1 + t54))).bind fun t55 => some (((t51 + 2) + t55))) t8).bind fun t56 =>
            some t56
abbrev R_law_sizes : List D → D → Prop := fun ds d => ∃ (a_script : List Int) (rr : List Int), ds = [D.scr a_script] ∧ f_law_sizes a_script = some rr ∧ d = D.lst (rr.map D.int)
def f_law_counts (a_script : List Int) (a_numbers : List Int) (a_pattern : Int × Int) : Option (List Int) :=
  (f_law_cell a_script 2).bind fun t1 =>
  (f_law_digits t1 ([24, 901, 20001, 7, 4])).bind fun t2 =>
  (atI t2 0).bind fun t3 =>
  (f_law_cell a_script 3).bind fun t4 =>
  (repO ([60]) 12).bind fun t5 =>
  (f_law_digits t4 t5).bind fun t6 =>
  (forF (ρ := Empty) (fun (z8 : Int) (s7 : Int) =>
    (modO z8 ((a_numbers.length : Int))).bind fun t11 =>
    (atI a_numbers t11).bind fun t12 =>
    (if (decide (((s7 + t12)) ≤ ((if (decide (t3 = 0)) = true then 20000 else 900)))) = true then
      some ((s7 + t12))
    else
      some s7).bind fun (s13 : Int) =>
      some (.nx s13)) t6 0).bind fun o10 => aft o10 (fun (s7 : Int) =>
    (atI t2 4).bind fun t14 =>
    (atI t2 4).bind fun t15 =>
    (atI t2 1).bind fun t16 =>
    (atI t2 3).bind fun t17 =>
    (mulO a_pattern.1 ((1 + t17))).bind fun t18 =>
    (appO ([s7, (if (s7 + t14) < (if (decide (t3 = 0)) = true then 20000 else 900) then (s7 + t14) else (if (decide (t3 = 0)) = true then 20000 else 900)), (if (s7 - t15) > 0 then (s7 - t15) else 0), a_pattern.2, (a_pattern.2 - a_pattern.1), t16, 0]) ((a_pattern.2 - t18))).bind fun t19 =>
    (atI t2 0).bind fun t20 =>
    (if (decide (t20 = 0)) = true then
      (atI t2 2).bind fun t22 =>
      some ([s7, t22, (a_pattern.2 - a_pattern.1), 20000])
    else
      some t19).bind fun (s21 : (List Int)) =>
      (flO (fun (z23 : Int) => some ((decide (0 ≤ z23) && decide (z23 ≤ ((if (decide (t3 = 0)) = true then 20000 else 900)))))) (fun (z23 : Int) => some z23) s21).bind fun t27 =>
      some t27) (fun z => z.elim)
abbrev R_law_counts : List D → D → Prop := fun ds d => ∃ (a_script : List Int) (a_numbers : List Int) (a_pattern : Int × Int) (rr : List Int), ds = [D.scr a_script, D.lst (a_numbers.map D.int), (encP2 D.int D.int) a_pattern] ∧ f_law_counts a_script a_numbers a_pattern = some rr ∧ d = D.lst (rr.map D.int)
def f_law_row_right (a_passed : Bool × List Int) (a_numbers : List Int) (a_table : List (Option Int)) (a_asked : Int) : Option Bool :=
  (modO a_asked ((a_table.length : Int))).bind fun t1 =>
  (atI a_table t1).bind fun t2 =>
  (isiD "list" ((encQ D.int) a_passed)).bind fun t3 =>
  (ifO t3 (some ((true, a_passed.2))) (some ((false, a_passed.2)))).bind fun t4 =>
  (f_sum_row t4 a_asked).bind fun t5 =>
  (eqO (D.lst (t4.2.map D.int)) (D.lst (a_numbers.map D.int))).bind fun t6 =>
  if (!t6) = true then
    some false
  else
    (orO t2.isNone ((t2).bind fun t7 => some (decide (a_asked < t7)))).bind fun t8 =>
    if t8 = true then
      some t5.isNone
    else
      (isiD "tuple" ((encO (encT D.int)) t5)).bind fun t9 =>
      if (!t9) = true then
        some false
      else
        (t5).bind fun t10 =>
        (forF (ρ := Bool) (fun (z12 : Int) (s11 : Int × Int) =>
          (f_law_whole (D.int z12)).bind fun t15 =>
          if ((!t15 || (decide (z12 < s11.1) || !inI z12 a_numbers))) = true then
            some (.rt false)
          else
            some (.nx ((z12, (s11.2 + z12))))) t10 ((0, 0))).bind fun o14 => aft o14 (fun (s11 : Int × Int) =>
          some (decide (s11.2 = a_asked))) (fun r => some r)
abbrev R_law_row_right : List D → D → Prop := fun ds d => ∃ (a_passed : Bool × List Int) (a_numbers : List Int) (a_table : List (Option Int)) (a_asked : Int) (rr : Bool), ds = [(encQ D.int) a_passed, D.lst (a_numbers.map D.int), D.lst (a_table.map (encO D.int)), D.int a_asked] ∧ f_law_row_right a_passed a_numbers a_table a_asked = some rr ∧ d = D.bl rr
def f_law_pattern_right (a_passed : Bool × List Int) (a_numbers : List Int) (a_pattern : Int × Int) : Option Bool :=
  (f_sum_pattern a_passed).bind fun t1 =>
  (isiD "tuple" ((encP2 D.int D.int) t1)).bind fun t2 =>
  (orO (!t2) ((orO (!decide (((2 : Int)) = 2)) ((f_law_whole (D.int t1.1)).bind fun t3 => (orO (!t3) ((f_law_whole (D.int t1.2)).bind fun t4 => some (!t4))).bind fun t5 => some (t5))).bind fun t6 => some (t6))).bind fun t7 =>
  if t7 = true then
    some false
  else
    (eqO ((encP2 D.int D.int) t1) ((encP2 D.int D.int) a_pattern)).bind fun t8 =>
    (andO t8 ((eqO (D.lst (a_passed.2.map D.int)) (D.lst (a_numbers.map D.int))).bind fun t9 => some (t9))).bind fun t10 =>
    some t10
abbrev R_law_pattern_right : List D → D → Prop := fun ds d => ∃ (a_passed : Bool × List Int) (a_numbers : List Int) (a_pattern : Int × Int) (rr : Bool), ds = [(encQ D.int) a_passed, D.lst (a_numbers.map D.int), (encP2 D.int D.int) a_pattern] ∧ f_law_pattern_right a_passed a_numbers a_pattern = some rr ∧ d = D.bl rr
def f_law (a_script : List Int) : Option Bool :=
  (f_law_sizes a_script).bind fun t1 =>
  (f_law_table t1).bind fun t2 =>
  (f_law_pattern t1 t2).bind fun t3 =>
  (f_law_counts a_script t1 t3).bind fun t4 =>
  (f_law_pattern_right ((true, t1)) t1 t3).bind fun t5 =>
  if (!t5) = true then
    some false
  else
    (rgO 0 ((t4.length : Int))).bind fun t6 =>
    (forF (ρ := Bool) (fun (z8 : Int) (s7 : Unit) =>
      (modO z8 2).bind fun t11 =>
      (ifO (decide (t11 = 0)) (some ((true, t1))) (some ((false, t1)))).bind fun t12 =>
      (atI t4 z8).bind fun t13 =>
      (f_law_row_right t12 t1 t2 t13).bind fun t14 =>
      if (!t14) = true then
        some (.rt false)
      else
        some (.nx (()))) t6 (())).bind fun o10 => aft o10 (fun (s7 : Unit) =>
      (f_law_cell a_script 4).bind fun t15 =>
      (modO t15 720).bind fun t16 =>
      (catO ([(1 + t16)]) ((cutL t1 (some 1) none))).bind fun t17 =>
      (f_law_table t17).bind fun t18 =>
      (atI t17 0).bind fun t20 =>
      (setO t1 0 t20).bind fun t19 =>
      (f_law_pattern t17 t18).bind fun t21 =>
      (f_law_pattern_right ((true, t19)) t17 t21).bind fun t22 =>
      if (!t22) = true then
        some false
      else
        (forF (ρ := Bool) (fun (z24 : Int) (s23 : Unit) =>
          (atI t4 z24).bind fun t27 =>
          (f_law_row_right ((true, t19)) t17 t18 t27).bind fun t28 =>
          if (!t28) = true then
            some (.rt false)
          else
            some (.nx (()))) ([0, 1]) (())).bind fun o26 => aft o26 (fun (s23 : Unit) =>
          (f_law_pattern_right ((false, t1)) t1 t3).bind fun t29 =>
          (andO t29 ((atI t4 0).bind fun t30 => (f_law_row_right ((true, t1)) t1 t2 t30).bind fun t31 => some (t31))).bind fun t32 =>
          some t32) (fun r => some r)) (fun r => some r)
abbrev R_law : List D → D → Prop := fun ds d => ∃ (a_script : List Int) (rr : Bool), ds = [D.scr a_script] ∧ f_law a_script = some rr ∧ d = D.bl rr
end K72

/-! plain law, part 1: words on the mirror's steps -/
namespace K72
open PySem L2 Gx
theorem modO_p {i j : Int} (h : 0 < j) : modO i j = some (i % j) := by
  unfold modO
  rw [if_pos (by omega), Int.fmod_eq_emod_of_nonneg _ (by omega)]
theorem divO_p {i j : Int} (h : 0 < j) (h2 : j < 1073741824) : divO i j = some (i / j) := by
  unfold divO
  rw [if_pos (by omega), Int.fdiv_eq_ediv_of_nonneg _ (by omega)]
theorem mulO_l {i j : Int} (h : -(2 ^ 64) < i ∧ i < 2 ^ 64) : mulO i j = some (i * j) := by
  unfold mulO
  rw [if_pos (.inl h)]
theorem mulO_r {i j : Int} (h : -(2 ^ 64) < j ∧ j < 2 ^ 64) : mulO i j = some (i * j) := by
  unfold mulO
  rw [if_pos (.inr h)]
theorem ixN_p {n : Nat} {i : Int} (h0 : 0 ≤ i) (h : i < n) : ixN n i = some i.toNat := by
  unfold ixN
  rw [if_pos h0, if_pos h]
theorem atI_p {α : Type} {xs : List α} {i : Int} (h0 : 0 ≤ i) (h : i < xs.length) : atI xs i = some (xs[i.toNat]'(by omega)) := by
  unfold atI
  rw [ixN_p h0 h]
  simp
theorem setO_p {α : Type} {xs : List α} {i : Int} {x : α} (h0 : 0 ≤ i) (h : i < xs.length) : setO xs i x = some (xs.set i.toNat x) := by
  unfold setO
  rw [ixN_p h0 h] <;> rfl
theorem appO_p {α : Type} {xs : List α} {x : α} (h : xs.length < 2 ^ 24) : appO xs x = some (xs ++ [x]) := by
  unfold appO
  rw [if_pos (show xs.length < sizeLine from h)]
theorem rgO_p {lo hi : Int} (h : -(2 ^ 62) ≤ lo ∧ lo < 2 ^ 62 ∧ -(2 ^ 62) ≤ hi ∧ hi < 2 ^ 62) : rgO lo hi = some (rangeL lo hi) := by
  unfold rgO
  rw [if_pos h]
theorem rgS_p {lo hi : Int} (h : -(2 ^ 62) ≤ lo ∧ lo < 2 ^ 62 ∧ -(2 ^ 62) ≤ hi ∧ hi < 2 ^ 62 ∧ (hi - lo).toNat ≤ 2 ^ 24) : rgS lo hi = some (rangeL lo hi) := by
  unfold rgS
  exact if_pos h
theorem fmO_tot {α β : Type} {f : α → Option (Option β)} {xs : List α} (g : α → Option β) (h : ∀ x ∈ xs, f x = some (g x)) : fmO f xs = some (xs.filterMap g) := by
  induction xs with
  | nil => rfl
  | cons x xs ih =>
    unfold fmO
    rw [h x List.mem_cons_self, ih fun y hy => h y (List.mem_cons_of_mem _ hy)]
    simp only [Option.bind_some, List.filterMap_cons]
    cases g x <;> rfl
theorem mpO_tot {α β : Type} {f : α → Option β} {xs : List α} (g : α → β) (h : ∀ x ∈ xs, f x = some (g x)) : mpO f xs = some (xs.map g) := by
  unfold mpO
  rw [fmO_tot (fun x => some (g x)) (fun x hx => by rw [h x hx]; rfl)]
  simp [List.filterMap_eq_map']
theorem mpO_all {α β : Type} {f : α → Option β} : ∀ {xs : List α} (P : β → Prop) (h : ∀ x ∈ xs, ∃ y, f x = some y ∧ P y), ∃ ys, mpO f xs = some ys ∧ ys.length = xs.length ∧ ∀ y ∈ ys, P y
  | [], P, h => ⟨[], rfl, rfl, fun y hy => nomatch hy⟩
  | x :: xs, P, h => by
    obtain ⟨y, h1, h2⟩ := h x List.mem_cons_self
    obtain ⟨ys, h3, h4, h5⟩ := mpO_all P (fun z hz => h z (List.mem_cons_of_mem _ hz))
    refine ⟨y :: ys, ?_, by simp [h4], fun z hz => ?_⟩
    · unfold mpO fmO
      unfold mpO at h3
      rw [h1]
      simp only [Option.bind_some, h3]
    · rcases List.mem_cons.mp hz with rfl | hz
      · exact h2
      · exact h5 z hz
/-- a walk of a list that neither breaks nor returns -/
theorem forF_inv {α S ρ : Type} {f : α → S → Option (Fl S ρ)} (I : List α → S → Prop) (all : List α) (st : ∀ pre x post s, all = pre ++ x :: post → I pre s → ∃ s', f x s = some (.nx s') ∧ I (pre ++ [x]) s') : ∀ (xs pre : List α) (s : S), all = pre ++ xs → I pre s → ∃ s', forF f xs s = some (.nx s') ∧ I all s'
  | [], pre, s, e, h => ⟨s, rfl, by rw [e]; simpa using h⟩
  | x :: xs, pre, s, e, h => by
    obtain ⟨s1, h1, h2⟩ := st pre x xs s e h
    obtain ⟨s2, h3, h4⟩ := forF_inv I all st xs (pre ++ [x]) s1 (by rw [e]; simp) h2
    refine ⟨s2, ?_, h4⟩
    unfold forF
    rw [h1]
    exact h3
theorem forF_list {α S ρ : Type} {f : α → S → Option (Fl S ρ)} (I : List α → S → Prop) {xs : List α} {s : S} (h0 : I [] s) (st : ∀ pre x post s, xs = pre ++ x :: post → I pre s → ∃ s', f x s = some (.nx s') ∧ I (pre ++ [x]) s') : ∃ s', forF f xs s = some (.nx s') ∧ I xs s' :=
  forF_inv I xs st xs [] s rfl h0
theorem forF_map {α β S ρ : Type} {f : β → S → Option (Fl S ρ)} (g : α → β) : ∀ (xs : List α) (s : S), forF f (xs.map g) s = forF (fun a => f (g a)) xs s
  | [], _ => rfl
  | x :: xs, s => by
    simp only [List.map_cons, forF]
    cases h : f (g x) s with
    | none => rfl
    | some o =>
      cases o with
      | nx s' => exact forF_map g xs s'
      | bk s' => rfl
      | rt r => rfl
theorem forF_nat {S ρ : Type} {f : Nat → S → Option (Fl S ρ)} (I : Nat → S → Prop) : ∀ (n a : Nat) (s : S), I a s → (∀ i s, a ≤ i → i < a + n → I i s → ∃ s', f i s = some (.nx s') ∧ I (i + 1) s') → ∃ s', forF f (List.range' a n) s = some (.nx s') ∧ I (a + n) s'
  | 0, a, s, h, _ => ⟨s, rfl, h⟩
  | n + 1, a, s, h, st => by
    obtain ⟨s1, h1, h2⟩ := st a s (Nat.le_refl _) (by omega) h
    obtain ⟨s2, h3, h4⟩ := forF_nat I n (a + 1) s1 h2 (fun i s hi hn => st i s (by omega) (by omega))
    refine ⟨s2, ?_, by rw [show a + (n + 1) = a + 1 + n by omega]; exact h4⟩
    rw [List.range'_succ]
    unfold forF
    rw [h1]
    exact h3
/-- a walk of lo .. hi - 1 that neither breaks nor returns; the word tells of the number of turns -/
theorem forF_range {S ρ : Type} {f : Int → S → Option (Fl S ρ)} {lo hi : Int} (I : Nat → S → Prop) {s : S} (h0 : I 0 s) (st : ∀ (i : Nat) s, lo + i < hi → I i s → ∃ s', f (lo + i) s = some (.nx s') ∧ I (i + 1) s') : ∃ s', forF f (rangeL lo hi) s = some (.nx s') ∧ I (hi - lo).toNat s' := by
  unfold rangeL
  rw [forF_map, List.range_eq_range']
  obtain ⟨s', h1, h2⟩ := forF_nat I (hi - lo).toNat 0 s h0 (fun i s _ hn h => st i s (by omega) h)
  exact ⟨s', h1, by simpa using h2⟩
theorem aft_nx {S ρ R : Type} {s : S} {k : S → Option R} {kr : ρ → Option R} : aft (Fl.nx s) k kr = k s := rfl
theorem aft_rt {S ρ R : Type} {r : ρ} {k : S → Option R} {kr : ρ → Option R} : aft (Fl.rt r) k kr = kr r := rfl
/-- what is a sum of sizes -/
inductive Sm (S : List Int) : Int → Prop
  | zero : Sm S 0
  | step {n z : Int} : Sm S n → z ∈ S → Sm S (n + z)
theorem Sm.mono {S S' : List Int} {n : Int} (h : Sm S n) (hs : ∀ z ∈ S, z ∈ S') : Sm S' n := by
  induction h with
  | zero => exact .zero
  | step _ hz ih => exact .step ih (hs _ hz)
theorem Sm.nn {S : List Int} {n : Int} (h : Sm S n) (hs : ∀ z ∈ S, 1 ≤ z) : 0 ≤ n := by
  induction h with
  | zero => exact Int.le_refl _
  | step _ hz ih =>
    have := hs _ hz
    omega
theorem Sm.muls {S : List Int} {n z : Int} (h : Sm S n) (hz : z ∈ S) (k : Nat) : Sm S (n + k * z) := by
  induction k with
  | zero => simpa using h
  | succ k ih =>
    have := Sm.step ih hz
    rw [show n + ((k + 1 : Nat) : Int) * z = n + (k : Int) * z + z by push_cast; rw [Int.add_mul]; omega]
    exact this
/-- a sum of S and z more: a sum of S, and some z -/
theorem Sm.split {S : List Int} {z n : Int} (h : Sm (S ++ [z]) n) : ∃ (s : Int) (k : Nat), Sm S s ∧ n = s + k * z := by
  induction h with
  | zero => exact ⟨0, 0, .zero, by simp⟩
  | @step n y _ hy ih =>
    obtain ⟨s, k, h1, h2⟩ := ih
    rcases List.mem_append.mp hy with hy | hy
    · refine ⟨s + y, k, .step h1 hy, by omega⟩
    · have : y = z := by simpa using hy
      subst this
      refine ⟨s, k + 1, h1, ?_⟩
      rw [h2]
      push_cast
      rw [Int.add_mul]
      omega
end K72

/-! plain law, part 2: the round robin table holds the least sums -/
namespace K72
open PySem L2 Gx
/-- a is at most b, none is boundless -/
def LeO (a b : Option Int) : Prop := ∀ v, b = some v → ∃ u, a = some u ∧ u ≤ v
theorem LeO.rf (a : Option Int) : LeO a a := fun v h => ⟨v, h, Int.le_refl _⟩
theorem LeO.tr {a b c : Option Int} (h : LeO a b) (k : LeO b c) : LeO a c := fun v e => by
  obtain ⟨u, h1, h2⟩ := k v e
  obtain ⟨w, h3, h4⟩ := h u h1
  exact ⟨w, h3, Int.le_trans h4 h2⟩
theorem LeO.asym {a b : Option Int} (h : LeO a b) (k : LeO b a) : a = b := by
  cases b with
  | none =>
    cases a with
    | none => rfl
    | some v =>
      obtain ⟨u, h1, _⟩ := k v rfl
      cases h1
  | some v =>
    obtain ⟨u, h1, h2⟩ := h v rfl
    obtain ⟨w, h3, h4⟩ := k u h1
    cases h3
    rw [h1, Int.le_antisymm h2 h4]
def At (T : List (Option Int)) (r : Nat) : Option Int := T.getD r none
theorem At_set {T : List (Option Int)} {b x : Nat} {o : Option Int} (hb : b < T.length) : At (T.set b o) x = if x = b then o else At T x := by
  unfold At
  rw [List.getD_eq_getElem?_getD, List.getD_eq_getElem?_getD, List.getElem?_set]
  by_cases h : x = b
  · subst h
    simp [hb]
  · rw [if_neg (fun e => h e.symm), if_neg h]
/-- one edge is eased -/
def rl (T : List (Option Int)) (a b : Nat) (z : Int) : List (Option Int) :=
  match At T a with
  | none => T
  | some v => match At T b with
    | none => T.set b (some (v + z))
    | some w => if v + z < w then T.set b (some (v + z)) else T
section
variable {T : List (Option Int)} {a b x : Nat} {z : Int}
theorem rl_len : (rl T a b z).length = T.length := by
  unfold rl
  split
  · rfl
  · split
    · simp
    · split <;> simp
theorem rl_cases (hb : b < T.length) : (rl T a b z = T ∧ ∀ v, At T a = some v → ∃ u, At T b = some u ∧ u ≤ v + z) ∨ ∃ v, At T a = some v ∧ rl T a b z = T.set b (some (v + z)) ∧ ∀ w, At T b = some w → v + z < w := by
  unfold rl
  cases h1 : At T a with
  | none => exact .inl ⟨rfl, fun v h => nomatch h⟩
  | some v =>
    cases h2 : At T b with
    | none => exact .inr ⟨v, rfl, rfl, fun w h => nomatch h⟩
    | some w =>
      by_cases h3 : v + z < w
      · simp only [if_pos h3]
        exact .inr ⟨v, rfl, by rfl, fun w' h => by cases h; exact h3⟩
      · simp only [if_neg h3]
        exact .inl ⟨by first | trivial | rfl, fun v' h => by cases h; exact ⟨w, rfl, by omega⟩⟩
theorem rl_mono (hb : b < T.length) : LeO (At (rl T a b z) x) (At T x) := by
  rcases rl_cases (a := a) (z := z) hb with ⟨h, _⟩ | ⟨v, h1, h2, h3⟩
  · rw [h]
    exact LeO.rf _
  · rw [h2, At_set hb]
    by_cases hx : x = b
    · subst hx
      rw [if_pos rfl]
      intro w hw
      exact ⟨_, rfl, Int.le_of_lt (h3 w hw)⟩
    · rw [if_neg hx]
      exact LeO.rf _
theorem rl_rel (hb : b < T.length) {v : Int} (h : At T a = some v) : ∃ u, At (rl T a b z) b = some u ∧ u ≤ v + z := by
  rcases rl_cases (a := a) (z := z) hb with ⟨h1, h2⟩ | ⟨v', h1, h2, h3⟩
  · rw [h1]
    exact h2 v h
  · rw [h1] at h
    cases h
    rw [h2, At_set hb, if_pos rfl]
    exact ⟨_, rfl, Int.le_refl _⟩
theorem rl_oth (hb : b < T.length) (hx : x ≠ b) : At (rl T a b z) x = At T x := by
  rcases rl_cases (a := a) (z := z) hb with ⟨h1, h2⟩ | ⟨v', h1, h2, h3⟩
  · rw [h1]
  · rw [h2, At_set hb, if_neg hx]
theorem rl_imp (hb : b < T.length) (h : At (rl T a b z) b ≠ At T b) : ∃ v, At T a = some v ∧ At (rl T a b z) b = some (v + z) ∧ ∀ w, At T b = some w → v + z < w := by
  rcases rl_cases (a := a) (z := z) hb with ⟨h1, h2⟩ | ⟨v', h1, h2, h3⟩
  · rw [h1] at h
    exact absurd rfl h
  · refine ⟨v', h1, ?_, h3⟩
    rw [h2, At_set hb, if_pos rfl]
theorem rl_snd (hb : b < T.length) (P : Nat → Int → Prop) (h : ∀ x v, At T x = some v → P x v) (h2 : ∀ v, At T a = some v → P b (v + z)) (v : Int) (hv : At (rl T a b z) x = some v) : P x v := by
  rcases rl_cases (a := a) (z := z) hb with ⟨h1, _⟩ | ⟨v', h1, h3, _⟩
  · rw [h1] at hv
    exact h x v hv
  · rw [h3, At_set hb] at hv
    by_cases hx : x = b
    · subst hx
      rw [if_pos rfl] at hv
      cases hv
      exact h2 v' h1
    · rw [if_neg hx] at hv
      exact h x v hv
end
/-- the tables along a walk -/
def stt (ρ : Nat → Nat) (z : Int) (T : List (Option Int)) : Nat → List (Option Int)
  | 0 => T
  | i + 1 => rl (stt ρ z T i) (ρ i) (ρ (i + 1)) z
section
variable {ρ : Nat → Nat} {z : Int} {T : List (Option Int)} {L : Nat}
theorem stt_len (i : Nat) : (stt ρ z T i).length = T.length := by
  induction i with
  | zero => rfl
  | succ i ih => rw [stt, rl_len, ih]
variable (hρ : ∀ i, ρ i < T.length)
include hρ
theorem stt_lt (i j : Nat) : ρ i < (stt ρ z T j).length := by rw [stt_len]; exact hρ i
theorem stt_mono {i j : Nat} (h : i ≤ j) (x : Nat) : LeO (At (stt ρ z T j) x) (At (stt ρ z T i) x) := by
  induction h with
  | refl => exact LeO.rf _
  | step _ ih => exact (rl_mono (stt_lt hρ _ _)).tr ih
theorem stt_rel (i : Nat) {v : Int} (h : At (stt ρ z T i) (ρ i) = some v) : ∃ u, At (stt ρ z T (i + 1)) (ρ (i + 1)) = some u ∧ u ≤ v + z := rl_rel (stt_lt hρ _ _) h
theorem stt_last (t x : Nat) : At (stt ρ z T t) x = At T x ∨ ∃ j, 1 ≤ j ∧ j ≤ t ∧ ρ j = x ∧ At (stt ρ z T j) x = At (stt ρ z T t) x ∧ At (stt ρ z T j) (ρ j) ≠ At (stt ρ z T (j - 1)) (ρ j) := by
  induction t with
  | zero => exact .inl rfl
  | succ t ih =>
    by_cases h : At (stt ρ z T (t + 1)) x = At (stt ρ z T t) x
    · rw [h]
      rcases ih with ih | ⟨j, h1, h2, h3⟩
      · exact .inl ih
      · exact .inr ⟨j, h1, by omega, h3⟩
    · have hx : x = ρ (t + 1) := by
        apply Classical.byContradiction
        intro hx
        exact h (rl_oth (stt_lt hρ _ _) hx)
      refine .inr ⟨t + 1, by omega, Nat.le_refl _, hx.symm, rfl, ?_⟩
      rw [← hx]
      exact h
variable (hp : ∀ i, ρ (i + L) = ρ i) (hn : ∀ i j, ρ i = ρ j → ρ (i + 1) = ρ (j + 1)) (hL : 1 ≤ L) (hz : 1 ≤ z)
/-- turn t bettered its target -/
def Imp (ρ : Nat → Nat) (z : Int) (T : List (Option Int)) (t : Nat) : Prop := At (stt ρ z T (t + 1)) (ρ (t + 1)) ≠ At (stt ρ z T t) (ρ (t + 1))
include hp hn hL
theorem imp_back {t : Nat} (ht : L ≤ t) (h : Imp ρ z T t) : Imp ρ z T (t - 1) := by
  obtain ⟨v, h1, _, h3⟩ := rl_imp (stt_lt hρ _ _) h
  have no : ∀ j, j < t → ρ j = ρ t → At (stt ρ z T j) (ρ t) = some v → False := by
    intro j hj e1 e2
    rw [← e1] at e2
    obtain ⟨u, k1, k2⟩ := stt_rel hρ j e2
    obtain ⟨w, k3, k4⟩ := stt_mono hρ (show j + 1 ≤ t from hj) _ u k1
    rw [hn j t e1] at k3
    have := h3 w k3
    omega
  rcases stt_last (z := z) hρ t (ρ t) with e | ⟨j, j1, j2, j3, j4, j5⟩
  · exfalso
    refine no (t - L) (by omega) (by rw [← hp (t - L), Nat.sub_add_cancel ht]) ?_
    have e1 := stt_mono hρ (z := z) (show t - L ≤ t by omega) (ρ t)
    have e2 := stt_mono hρ (z := z) (show 0 ≤ t - L by omega) (ρ t)
    rw [e] at e1
    rw [e2.asym e1]
    show At T (ρ t) = some v
    rw [← e]
    exact h1
  · by_cases hj : j = t
    · subst hj
      have : j - 1 + 1 = j := by omega
      unfold Imp
      rw [this]
      exact j5
    · exact (no j (by omega) j3 (by rw [j4]; exact h1)).elim
include hz
theorem imp_no : ¬ Imp ρ z T (2 * L - 1) := by
  intro h
  have all : ∀ k, k ≤ L → Imp ρ z T (2 * L - 1 - k) := by
    intro k
    induction k with
    | zero => intro _; exact h
    | succ k ih =>
      intro hk
      have := imp_back hρ hp hn hL (t := 2 * L - 1 - k) (by omega) (ih (by omega))
      rw [show 2 * L - 1 - (k + 1) = 2 * L - 1 - k - 1 by omega]
      exact this
  have h0 := all L (Nat.le_refl _)
  obtain ⟨v, h1, _, _⟩ := rl_imp (stt_lt hρ _ _) h0
  have up : ∀ k, k ≤ L → At (stt ρ z T (2 * L - 1 - L + k)) (ρ (2 * L - 1 - L + k)) = some (v + k * z) := by
    intro k
    induction k with
    | zero => intro _; simpa using h1
    | succ k ih =>
      intro hk
      have i1 := all (L - k) (by omega)
      rw [show 2 * L - 1 - (L - k) = 2 * L - 1 - L + k by omega] at i1
      obtain ⟨w, k1, k2, _⟩ := rl_imp (stt_lt hρ _ _) i1
      rw [ih (by omega)] at k1
      cases k1
      show At (stt ρ z T (2 * L - 1 - L + k + 1)) (ρ (2 * L - 1 - L + k + 1)) = _
      rw [show v + ((k + 1 : Nat) : Int) * z = v + (k : Int) * z + z by push_cast; rw [Int.add_mul]; omega]
      exact k2
  have h2 := up L (Nat.le_refl _)
  rw [hp] at h2
  obtain ⟨u, k1, k2⟩ := stt_mono hρ (z := z) (show 2 * L - 1 - L ≤ 2 * L - 1 - L + L by omega) _ v h1
  rw [h2] at k1
  cases k1
  have : 1 * 1 ≤ (L : Int) * z := Int.mul_le_mul (by omega) hz (by omega) (by omega)
  omega
theorem stt_closed (k : Nat) {v : Int} (h : At (stt ρ z T (2 * L)) (ρ k) = some v) : ∃ u, At (stt ρ z T (2 * L)) (ρ (k + 1)) = some u ∧ u ≤ v + z := by
  have go : ∀ j, j < 2 * L → ρ j = ρ k → At (stt ρ z T j) (ρ k) = some v → ∃ u, At (stt ρ z T (2 * L)) (ρ (k + 1)) = some u ∧ u ≤ v + z := by
    intro j hj e1 e2
    rw [← e1] at e2
    obtain ⟨u, k1, k2⟩ := stt_rel hρ j e2
    obtain ⟨w, k3, k4⟩ := stt_mono hρ (show j + 1 ≤ 2 * L from hj) _ u k1
    rw [hn j k e1] at k3
    exact ⟨w, k3, by omega⟩
  rcases stt_last (z := z) hρ (2 * L) (ρ k) with e | ⟨j, j1, j2, j3, j4, j5⟩
  · have pm : ∀ n i, ρ (i + n * L) = ρ i := by
      intro n
      induction n with
      | zero => intro i; simp
      | succ n ih =>
        intro i
        rw [show i + (n + 1) * L = i + n * L + L by rw [Nat.add_mul]; omega, hp, ih]
    refine go (k % L) (by have := Nat.mod_lt k (show 0 < L by omega); omega) ?_ ?_
    · have := pm (k / L) (k % L)
      rw [Nat.mul_comm, Nat.mod_add_div] at this
      exact this.symm
    · have hk := Nat.mod_lt k (show 0 < L by omega)
      have e1 := stt_mono hρ (z := z) (show k % L ≤ 2 * L by omega) (ρ k)
      have e2 := stt_mono hρ (z := z) (show 0 ≤ k % L by omega) (ρ k)
      rw [e] at e1
      rw [e2.asym e1]
      show At T (ρ k) = some v
      rw [← e]
      exact h
  · by_cases hj : j = 2 * L
    · exfalso
      subst hj
      refine imp_no hρ hp hn hL hz ?_
      unfold Imp
      rw [show 2 * L - 1 + 1 = 2 * L by omega]
      exact j5
    · exact go j (by omega) j3 (by rw [j4]; exact h)
end
end K72

/-! plain law, part 3: gcd, and the table's mirror -/
namespace K72
open PySem L2 Gx
theorem euc (k : Nat) : ∀ (a b : Nat), b < 2 ^ k → ∀ n, 2 * k + 1 ≤ n → (forF (ρ := Empty) (fun (_ : Int) (s2 : Int × Int) =>
    (if (!decide (s2.2 = 0)) = true then
      (modO s2.1 s2.2).bind fun t7 =>
      some ((s2.2, t7))
    else
      some ((s2.1, s2.2))).bind fun (s6 : Int × Int) =>
      some (.nx ((s6.1, s6.2)))) (List.replicate n 0) ((a : Int), (b : Int))) = some (.nx ((Nat.gcd a b : Int), 0)) := by
  have stop : ∀ (n : Nat) (a : Int), (forF (ρ := Empty) (fun (_ : Int) (s2 : Int × Int) =>
    (if (!decide (s2.2 = 0)) = true then
      (modO s2.1 s2.2).bind fun t7 =>
      some ((s2.2, t7))
    else
      some ((s2.1, s2.2))).bind fun (s6 : Int × Int) =>
      some (.nx ((s6.1, s6.2)))) (List.replicate n 0) (a, (0 : Int))) = some (.nx (a, 0)) := by
    intro n
    induction n with
    | zero => intro a; rfl
    | succ n ih =>
      intro a
      rw [List.replicate_succ]
      unfold forF
      exact ih a
  have one : ∀ (n a b : Nat), 0 < b → (forF (ρ := Empty) (fun (_ : Int) (s2 : Int × Int) =>
    (if (!decide (s2.2 = 0)) = true then
      (modO s2.1 s2.2).bind fun t7 =>
      some ((s2.2, t7))
    else
      some ((s2.1, s2.2))).bind fun (s6 : Int × Int) =>
      some (.nx ((s6.1, s6.2)))) (List.replicate (n + 1) 0) ((a : Int), (b : Int))) = (forF (ρ := Empty) (fun (_ : Int) (s2 : Int × Int) =>
    (if (!decide (s2.2 = 0)) = true then
      (modO s2.1 s2.2).bind fun t7 =>
      some ((s2.2, t7))
    else
      some ((s2.1, s2.2))).bind fun (s6 : Int × Int) =>
      some (.nx ((s6.1, s6.2)))) (List.replicate n 0) ((b : Int), ((a % b : Nat) : Int))) := by
    intro n a b hb
    rw [List.replicate_succ]
    conv => lhs; unfold forF
    have h1 : (!decide ((b : Int) = 0)) = true := by
      simp
      omega
    simp only [h1, if_true]
    rw [modO_p (by omega)]
    simp only [Option.bind_some]
    rw [Int.natCast_emod]
  induction k with
  | zero =>
    intro a b hb n hn
    have : b = 0 := by omega
    subst this
    rw [Nat.gcd_zero_right]
    exact stop n a
  | succ k ih =>
    intro a b hb n hn
    by_cases h0 : b = 0
    · subst h0
      rw [Nat.gcd_zero_right]
      exact stop n a
    · obtain ⟨n, rfl⟩ : ∃ n', n = n' + 1 := ⟨n - 1, by omega⟩
      rw [one n a b (by omega)]
      by_cases h1 : a % b = 0
      · rw [h1]
        refine (stop n (b : Int)).trans ?_
        rw [Nat.gcd_comm, Nat.gcd_rec, h1, Nat.gcd_zero_left]
      · obtain ⟨n, rfl⟩ : ∃ n', n = n' + 1 := ⟨n - 1, by omega⟩
        rw [one n b (a % b) (by omega)]
        have h2 := Nat.mod_lt a (show 0 < b by omega)
        have h3 := Nat.mod_lt b (show 0 < a % b by omega)
        have h4 := Nat.div_add_mod b (a % b)
        have h5 : 1 ≤ b / (a % b) := Nat.div_pos (Nat.le_of_lt h2) (by omega)
        have h6 : (a % b) * 1 ≤ (a % b) * (b / (a % b)) := Nat.mul_le_mul_left _ h5
        rw [ih (a % b) (b % (a % b)) (by rw [Nat.pow_succ] at hb; omega) n (by omega)]
        have e : Nat.gcd (a % b) (b % (a % b)) = Nat.gcd a b := by
          rw [Nat.gcd_comm a b, Nat.gcd_rec b a, Nat.gcd_comm (a % b) (b % (a % b)), ← Nat.gcd_rec (a % b) b]
        rw [e]
theorem law_gcd {a b : Nat} (hb : b < 2 ^ 20) : f_law_gcd a b = some ((Nat.gcd a b : Nat) : Int) := by
  unfold f_law_gcd
  rw [rgO_p (by omega)]
  simp only [Option.bind_some]
  have h := euc 20 a b hb 60 (by omega)
  have e : forF (ρ := Empty) (fun (_ : Int) (s2 : Int × Int) =>
    (if (!decide (s2.2 = 0)) = true then
      (modO s2.1 s2.2).bind fun t7 =>
      some ((s2.2, t7))
    else
      some ((s2.1, s2.2))).bind fun (s6 : Int × Int) =>
      some (.nx ((s6.1, s6.2)))) (rangeL 0 60) ((a : Int), (b : Int)) = some (.nx ((Nat.gcd a b : Int), 0)) := by
    have e1 : ∀ (f : Int × Int → Option (Fl (Int × Int) Empty)) (xs ys : List Int) (s : Int × Int), xs.length = ys.length → forF (fun (_ : Int) s => f s) xs s = forF (fun (_ : Int) s => f s) ys s := by
      intro f xs
      induction xs with
      | nil =>
        intro ys s hl
        cases ys with
        | nil => rfl
        | cons y ys => cases hl
      | cons x xs ih =>
        intro ys s hl
        cases ys with
        | nil => cases hl
        | cons y ys =>
          simp only [forF]
          cases h : f s with
          | none => rfl
          | some o =>
            cases o with
            | nx s' => exact ih ys s' (by simpa using hl)
            | bk s' => rfl
            | rt r => rfl
    rw [e1 _ (rangeL 0 60) (List.replicate 60 0) _ (by rw [rangeL_len]; simp)]
    exact h
  rw [e]
  rfl
theorem bez (a b : Nat) : ∃ x y : Int, (a : Int) * x + b * y = (Nat.gcd a b : Nat) := by
  induction a, b using Nat.gcd.induction with
  | H0 n => exact ⟨0, 1, by simp⟩
  | H1 m n hm ih =>
    obtain ⟨x, y, h⟩ := ih
    refine ⟨y - (n / m : Nat) * x, x, ?_⟩
    rw [Nat.gcd_rec, ← h]
    have h2 : (n : Int) = m * (n / m : Nat) + (n % m : Nat) := by
      exact_mod_cast (Nat.div_add_mod n m).symm
    rw [Int.mul_sub]
    have h3 : (n : Int) * x = m * (n / m : Nat) * x + (n % m : Nat) * x := by
      conv => lhs; rw [h2]
      rw [Int.add_mul]
    rw [h3, Int.mul_assoc]
    omega
end K72

/-! plain law, part 4: the table's mirror -/
namespace K72
open PySem L2 Gx
theorem atI_At {T : List (Option Int)} {a : Nat} (h : a < T.length) : atI T (a : Int) = some (At T a) := by
  rw [atI_p (by omega) (by omega)]
  unfold At
  rw [List.getD_eq_getElem?_getD]
  simp [List.getElem?_eq_getElem h]
/-- one turn of the inner walk -/
def tb (t1 z10 : Int) (s24 : Int × List (Option Int)) : Option (Fl (Int × List (Option Int)) Empty) :=
  (modO ((s24.1 + z10)) t1).bind fun t28 =>
  (atI s24.2 s24.1).bind fun t29 =>
  (andO (!t29.isNone) ((atI s24.2 t28).bind fun t30 => (orO t30.isNone ((atI s24.2 s24.1).bind fun t31 => (t31).bind fun t32 => (atI s24.2 t28).bind fun t33 => (t33).bind fun t34 => some (decide (((t32 + z10)) < t34)))).bind fun t35 => some (t35))).bind fun t36 =>
  (if t36 = true then
    (atI s24.2 s24.1).bind fun t39 =>
    (t39).bind fun t40 =>
    (setO s24.2 t28 (some ((t40 + z10)))).bind fun t38 =>
    some t38
  else
    some s24.2).bind fun (s37 : (List (Option Int))) =>
    some (.nx ((t28, s37)))
theorem tb_is {m : Nat} {z : Int} {a b : Nat} {T : List (Option Int)} (hm : 0 < m) (ha : a < T.length) (hb : b < T.length) (e : ((a : Int) + z) % m = b) : tb m z (a, T) = some (.nx ((b : Int), rl T a b z)) := by
  unfold tb rl
  simp only
  rw [modO_p (by omega), e]
  simp only [Option.bind_some, atI_At ha, atI_At hb]
  cases h1 : At T a with
  | none => rfl
  | some v =>
    cases h2 : At T b with
    | none =>
      simp only [Option.isNone_some, Option.isNone_none, Bool.not_false, andO, orO, if_true, Option.bind_some]
      rw [setO_p (by omega) (by omega)]
      rfl
    | some w =>
      by_cases h3 : v + z < w
      · simp only [Option.isNone_some, Bool.not_false, andO, orO, if_true, Option.bind_some, Bool.false_eq_true, if_false, h3, decide_true]
        rw [setO_p (by omega) (by omega)]
        rfl
      · simp [andO, orO, h3]
/-- the walk's places -/
def rho (m z f : Nat) (i : Nat) : Nat := (f + i * z) % m
theorem rho_succ (m z f i : Nat) : ((rho m z f i : Int) + z) % m = (rho m z f (i + 1) : Int) := by
  unfold rho
  have e : (((f + i * z) % m + z) % m : Nat) = (f + (i + 1) * z) % m := by
    rw [Nat.mod_add_mod, Nat.add_mul, Nat.one_mul, Nat.add_assoc]
  rw [← e]
  push_cast
  rfl
theorem walk_is {m z f L : Nat} {T : List (Option Int)} (hm : 0 < m) (hl : T.length = m) (hf : f < m) : forF (ρ := Empty) (fun (_ : Int) s => tb m z s) (rangeL 0 (2 * L : Nat)) ((f : Int), T) = some (.nx ((rho m z f (2 * L) : Int), stt (rho m z f) z T (2 * L))) := by
  have hr : ∀ i, rho m z f i < T.length := fun i => by rw [hl]; exact Nat.mod_lt _ hm
  obtain ⟨s, h1, h2⟩ := forF_range (ρ := Empty) (f := fun (_ : Int) s => tb m z s) (lo := 0) (hi := (2 * L : Nat)) (s := ((f : Int), T)) (fun i s => s = ((rho m z f i : Int), stt (rho m z f) z T i)) (by
    have : rho m z f 0 = f := by simp [rho, Nat.mod_eq_of_lt hf]
    rw [this]
    rfl) (fun i s hi hs => by
      subst hs
      exact ⟨_, tb_is hm (by rw [stt_len]; exact hr i) (by rw [stt_len]; exact hr (i + 1)) (rho_succ m z f i), rfl⟩)
  have e : (((2 * L : Nat) : Int) - 0).toNat = 2 * L := by omega
  rw [e] at h2
  rw [h1, h2]
theorem rho_next (m z f i : Nat) : rho m z f (i + 1) = (rho m z f i + z) % m := by
  unfold rho
  rw [Nat.mod_add_mod, Nat.add_mul, Nat.one_mul, Nat.add_assoc]
/-- T is eased along z at x -/
def Cl (m z : Nat) (T : List (Option Int)) (x : Nat) : Prop := ∀ v, At T x = some v → ∃ u, At T ((x + z) % m) = some u ∧ u ≤ v + z
structure Out (m z : Nat) (P : Nat → Int → Prop) (T0 T : List (Option Int)) : Prop where
  len : T.length = m
  mono : ∀ x, LeO (At T x) (At T0 x)
  snd : ∀ x v, At T x = some v → P x v
theorem stt_snd {m z f : Nat} {P : Nat → Int → Prop} {T : List (Option Int)} (hr : ∀ i, rho m z f i < T.length) (hP : ∀ x v, x < m → P x v → P ((x + z) % m) (v + z)) (hm : T.length = m) (h : ∀ x v, At T x = some v → P x v) : ∀ i x v, At (stt (rho m z f) z T i) x = some v → P x v := by
  intro i
  induction i with
  | zero => exact h
  | succ i ih =>
    intro x v
    refine rl_snd (by rw [stt_len]; exact hr _) P ih (fun v hv => ?_) v
    have hi := hr i
    rw [rho_next]
    exact hP _ _ (by omega) (ih _ _ hv)
theorem stt_oth {ρ : Nat → Nat} {z : Int} {T : List (Option Int)} (hr : ∀ i, ρ i < T.length) {x : Nat} (hx : ∀ i, ρ i ≠ x) (n : Nat) : At (stt ρ z T n) x = At T x := by
  induction n with
  | zero => rfl
  | succ n ih =>
    rw [← ih]
    exact rl_oth (by rw [stt_len]; exact hr _) (fun e => hx _ e.symm)
/-- all the walks of one size -/
theorem walks_are {m z g L : Nat} {P : Nat → Int → Prop} {T0 : List (Option Int)} (hm : 0 < m) (hz : 1 ≤ z) (hg : g = Nat.gcd m z) (hL : L * g = m) (hl : T0.length = m) (hP : ∀ x v, x < m → P x v → P ((x + z) % m) (v + z)) (h0 : ∀ x v, At T0 x = some v → P x v) :
    ∃ T, forF (ρ := Empty) (fun (z18 : Int) (s17 : List (Option Int)) => (forF (ρ := Empty) (fun (_ : Int) s => tb m z s) (rangeL 0 (2 * L : Nat)) (z18, s17)).bind fun o27 => aft o27 (fun (s24 : Int × (List (Option Int))) => some (.nx s24.2)) (fun z => z.elim)) (rangeL 0 g) T0 = some (.nx T) ∧ Out m z P T0 T ∧ ∀ x, x < m → Cl m z T x := by
  have hgp : 0 < g := by rw [hg]; exact Nat.gcd_pos_of_pos_left _ hm
  have hLp : 1 ≤ L := by
    rcases Nat.eq_zero_or_pos L with h | h
    · subst h; omega
    · exact h
  have hgm : g ≤ m := by rw [hg]; exact Nat.gcd_le_left _ hm
  obtain ⟨zz, hzz⟩ : ∃ zz, z = g * zz := by rw [hg]; exact Nat.gcd_dvd_right m z
  have per : ∀ f i, rho m z f (i + L) = rho m z f i := by
    intro f i
    unfold rho
    have e : f + (i + L) * z = f + i * z + m * zz := by
      rw [Nat.add_mul, ← hL]
      have : L * z = L * g * zz := by
        conv => lhs; rw [hzz]
        rw [Nat.mul_assoc]
      omega
    rw [e, Nat.add_mul_mod_self_left]
  have nxt : ∀ f i, rho m z f (i + 1) = (rho m z f i + z) % m := fun f i => rho_next m z f i
  obtain ⟨T, h1, h2⟩ := forF_range (ρ := Empty) (f := fun (z18 : Int) (s17 : List (Option Int)) => (forF (ρ := Empty) (fun (_ : Int) s => tb m z s) (rangeL 0 (2 * L : Nat)) (z18, s17)).bind fun o27 => aft o27 (fun (s24 : Int × (List (Option Int))) => some (.nx s24.2)) (fun z => z.elim)) (lo := 0) (hi := g) (s := T0)
    (fun i T => Out m z P T0 T ∧ ∀ f k, f < i → Cl m z T (rho m z f k)) ⟨⟨hl, fun x => LeO.rf _, h0⟩, fun f k h => absurd h (by omega)⟩ (fun i T hi ⟨o, c⟩ => by
      have him : i < m := by omega
      have hr : ∀ j, rho m z i j < T.length := fun j => by rw [o.len]; exact Nat.mod_lt _ hm
      refine ⟨stt (rho m z i) z T (2 * L), ?_, ⟨?_, fun x => (stt_mono hr (Nat.zero_le (2 * L)) x).tr (o.mono x), stt_snd hr hP o.len o.snd _⟩, fun f k hf => ?_⟩
      · rw [show (0 : Int) + (i : Int) = (i : Int) by omega, walk_is hm o.len him]
        rfl
      · rw [stt_len, o.len]
      · have cl : ∀ k, Cl m z (stt (rho m z i) z T (2 * L)) (rho m z i k) := by
          intro k v hv
          obtain ⟨u, k1, k2⟩ := stt_closed hr (per i) (fun a b e => by rw [nxt, nxt, e]) hLp (by omega) k hv
          rw [nxt] at k1
          exact ⟨u, k1, k2⟩
        by_cases hx : ∃ j, rho m z i j = rho m z f k
        · obtain ⟨j, hj⟩ := hx
          rw [← hj]
          exact cl j
        · have hx : ∀ j, rho m z i j ≠ rho m z f k := fun j e => hx ⟨j, e⟩
          by_cases hfi : f = i
          · subst hfi
            exact absurd rfl (hx k)
          · intro v hv
            rw [stt_oth hr hx] at hv
            obtain ⟨u, k1, k2⟩ := c f k (by omega) v hv
            obtain ⟨u', k3, k4⟩ := stt_mono hr (z := z) (Nat.zero_le (2 * L)) _ u k1
            exact ⟨u', k3, by omega⟩)
  have eg : ((g : Int) - 0).toNat = g := by omega
  rw [eg] at h2
  refine ⟨T, h1, h2.1, fun x hx => ?_⟩
  -- every place lies on a walk
  obtain ⟨X, Y, hXY⟩ := bez m z
  rw [← hg] at hXY
  have hk : ∃ k : Nat, rho m z (x % g) k = x := by
    have hq := Nat.div_add_mod x g
    generalize x / g = q at hq
    generalize x % g = r at hq
    obtain ⟨k, hk⟩ : ∃ k : Nat, (k : Int) = (q : Int) * Y % m := ⟨((q : Int) * Y % m).toNat, Int.toNat_of_nonneg (Int.emod_nonneg _ (by omega))⟩
    refine ⟨k, ?_⟩
    have e2 : ((rho m z r k : Nat) : Int) = x := by
      unfold rho
      push_cast
      rw [hk]
      have e7 : ((r : Int) + (q : Int) * Y % m * z) % m = ((r : Int) + (q : Int) * Y * z) % m := by
        rw [Int.add_emod, Int.mul_emod, Int.emod_emod_of_dvd _ (Int.dvd_refl _), ← Int.mul_emod, ← Int.add_emod]
      rw [e7]
      have e3 : (r : Int) + (q : Int) * Y * z = x + m * (-((q : Int) * X)) := by
        have e4 : (q : Int) * g + r = x := by
          rw [Nat.mul_comm] at hq
          exact_mod_cast hq
        have e5 : (q : Int) * Y * z = (q : Int) * (g - m * X) := by
          rw [← hXY, Int.mul_assoc]
          congr 1
          rw [Int.mul_comm Y]
          omega
        have e6 : (q : Int) * (m * X) = m * ((q : Int) * X) := by
          rw [← Int.mul_assoc, Int.mul_comm (q : Int) (m : Int), Int.mul_assoc]
        rw [e5, Int.mul_sub, Int.mul_neg, e6]
        omega
      rw [e3, Int.add_mul_emod_self_left]
      exact Int.emod_eq_of_lt (by omega) (by omega)
    omega
  obtain ⟨k, hk⟩ := hk
  rw [← hk]
  exact h2.2 _ _ (Nat.mod_lt _ hgp)
end K72

/-! plain law, part 5: the table -/
namespace K72
open PySem L2 Gx
structure Tab (S : List Int) (m : Nat) (T : List (Option Int)) : Prop where
  len : T.length = m
  snd : ∀ x v, At T x = some v → Sm S v ∧ v % m = x
  cmp : ∀ n, Sm S n → ∃ v, At T (n % m).toNat = some v ∧ v ≤ n
theorem Tab.same {S S' : List Int} {m : Nat} {T : List (Option Int)} (h : Tab S m T) (a : ∀ z ∈ S, z ∈ S') (b : ∀ z ∈ S', z ∈ S) : Tab S' m T :=
  ⟨h.len, fun x v e => ⟨(h.snd x v e).1.mono a, (h.snd x v e).2⟩, fun n hn => h.cmp n (hn.mono b)⟩
theorem find_any {α : Type} (p : α → Bool) (xs : List α) : (xs.find? p).isSome = xs.any p := by
  induction xs with
  | nil => rfl
  | cons x xs ih =>
    rw [List.find?_cons, List.any_cons]
    cases h : p x
    · simpa using ih
    · rfl
theorem inA_putL {β : Type} (kvs : List (Int × β)) (k : Int) (v : β) (x : Int) : inA x (putL kvs k v) = (decide (x = k) || inA x kvs) := by
  unfold inA getK
  rw [Option.isSome_map, Option.isSome_map, find_any, find_any]
  unfold putL
  split
  · rename_i h
    rw [List.any_map]
    have e : (List.any kvs ((fun kv => decide (kv.1 = x)) ∘ fun kv => if kv.1 = k then (kv.1, v) else kv)) = kvs.any fun kv => decide (kv.1 = x) := by
      congr 1
      funext p
      simp only [Function.comp]
      split <;> rfl
    rw [e]
    by_cases hx : x = k
    · subst hx
      rw [h]
      simp
    · simp [hx]
  · rw [List.any_append]
    simp only [List.any_cons, List.any_nil, Bool.or_false]
    rw [Bool.or_comm]
    congr 1
    by_cases hx : x = k
    · subst hx; simp
    · have : ¬ k = x := fun e => hx e.symm
      simp [hx, this]
theorem Tab.grow {pre : List Int} {m z : Nat} {T0 T : List (Option Int)} (hm : 0 < m) (h : Tab pre m T0) (o : Out m z (fun x v => Sm (pre ++ [(z : Int)]) v ∧ v % m = x) T0 T) (c : ∀ x, x < m → Cl m z T x) : Tab (pre ++ [(z : Int)]) m T := by
  refine ⟨o.len, o.snd, fun n hn => ?_⟩
  obtain ⟨s, k, h1, rfl⟩ := hn.split
  have hmi : (0 : Int) < m := by omega
  induction k with
  | zero =>
    obtain ⟨v, h2, h3⟩ := h.cmp s h1
    obtain ⟨u, h4, h5⟩ := o.mono _ v h2
    exact ⟨u, by simpa using h4, by simp; omega⟩
  | succ k ih =>
    obtain ⟨v, h2, h3⟩ := ih ((h1.mono fun y hy => List.mem_append_left _ hy).muls (List.mem_append_right _ List.mem_cons_self) k)
    have hx : ((s + (k : Int) * z) % m).toNat < m := by
      have := Int.emod_lt_of_pos (s + (k : Int) * z) hmi
      have := Int.emod_nonneg (s + (k : Int) * z) (show (m : Int) ≠ 0 by omega)
      omega
    obtain ⟨u, h4, h5⟩ := c _ hx v h2
    have e : (s + ((k + 1 : Nat) : Int) * z) = s + (k : Int) * z + z := by
      push_cast
      rw [Int.add_mul]
      omega
    have e2 : ((s + ((k + 1 : Nat) : Int) * z) % m).toNat = (((s + (k : Int) * z) % m).toNat + z) % m := by
      rw [e]
      have h6 := Int.emod_nonneg (s + (k : Int) * z) (show (m : Int) ≠ 0 by omega)
      have h7 : (((((s + (k : Int) * z) % m).toNat + z) % m : Nat) : Int) = (s + (k : Int) * z + z) % m := by
        push_cast
        rw [Int.toNat_of_nonneg h6, Int.emod_add_emod]
      omega
    refine ⟨u, by rw [e2]; exact h4, ?_⟩
    rw [e]
    omega
theorem law_table {S : List Int} {m : Nat} (hm : minL S = some (m : Int)) (h1 : ∀ z ∈ S, 1 ≤ z ∧ z ≤ 720) (hl : S.length ≤ 60) : ∃ T, f_law_table S = some T ∧ Tab S m T := by
  have hmem := (minL_is hm).1
  have hm1 := h1 _ hmem
  have hmp : 0 < m := by omega
  unfold f_law_table
  rw [hm, Option.bind_some, rgS_p (by omega), Option.bind_some, mpO_tot (fun _ => none) (fun _ _ => rfl), Option.bind_some, setO_p (by omega) (by simp [rangeL_len]; omega), Option.bind_some]
  have t0 : Tab [] m (((rangeL 0 m).map fun _ => (none : Option Int)).set (0 : Int).toNat (some 0)) := by
    have hlen : ((rangeL 0 m).map fun _ => (none : Option Int)).length = m := by simp [rangeL_len]
    have hat : ∀ x, At (((rangeL 0 m).map fun _ => (none : Option Int)).set (0 : Int).toNat (some 0)) x = if x = 0 then some 0 else none := by
      intro x
      rw [show (0 : Int).toNat = 0 from rfl, At_set (by rw [hlen]; exact hmp)]
      congr 1
      unfold At
      rw [List.getD_eq_getElem?_getD, List.getElem?_map]
      cases (rangeL 0 (m : Int))[x]? <;> rfl
    refine ⟨by rw [List.length_set]; exact hlen, fun x v e => ?_, fun n hn => ?_⟩
    · rw [hat] at e
      split at e
      · rename_i hx
        cases e
        exact ⟨.zero, by simp [hx]⟩
      · cases e
    · cases hn with
      | zero => exact ⟨0, by rw [hat]; simp, Int.le_refl _⟩
      | step _ hz => cases hz
  obtain ⟨s, k1, k2⟩ := forF_list (ρ := Empty) (xs := S) (f := fun (z10 : Int) (s9 : (List (Int × Bool)) × (List (Option Int))) =>
    (if (!inA z10 s9.1) = true then
      (putO s9.1 z10 true).bind fun t14 =>
      (f_law_gcd m z10).bind fun t15 =>
      (rgO 0 t15).bind fun t16 =>
      (forF (ρ := Empty) (fun (z18 : Int) (s17 : (List (Option Int))) =>
        (divO m t15).bind fun t21 =>
        (mulO 2 t21).bind fun t22 =>
        (rgO 0 t22).bind fun t23 =>
        (forF (ρ := Empty) (fun (z25 : Int) (s24 : Int × (List (Option Int))) => tb m z10 s24) t23 ((z18, s17))).bind fun o27 => aft o27 (fun (s24 : Int × (List (Option Int))) =>
          some (.nx s24.2)) (fun z => z.elim)) t16 s9.2).bind fun o20 => aft o20 (fun (s17 : (List (Option Int))) =>
        some ((t14, s17))) (fun z => z.elim)
    else
      some ((s9.1, s9.2))).bind fun (s13 : (List (Int × Bool)) × (List (Option Int))) =>
      some (.nx ((s13.1, s13.2)))) (s := (([] : List (Int × Bool)), ((rangeL 0 m).map fun _ => (none : Option Int)).set (0 : Int).toNat (some 0)))
    (fun pre s => (∀ z, inA z s.1 = true ↔ z ∈ pre) ∧ s.1.length ≤ pre.length ∧ Tab pre m s.2) ⟨fun z => by simp [inA, getK], Nat.le_refl _, t0⟩ (fun pre z post s e ⟨i1, i2, i3⟩ => by
      have hz := h1 z (by rw [e]; simp)
      have hpl : pre.length < 60 := by
        have := congrArg List.length e
        simp at this
        omega
      obtain ⟨kn, T0⟩ := s
      simp only at i1 i2 i3
      obtain ⟨zn, rfl⟩ : ∃ zn : Nat, z = zn := ⟨z.toNat, by omega⟩
      by_cases hin : inA (zn : Int) kn = true
      · refine ⟨(kn, T0), by simp [hin], fun y => ?_, by simp; omega, i3.same (fun y hy => List.mem_append_left _ hy) fun y hy => ?_⟩
        · rw [i1 y]
          have := (i1 zn).mp hin
          constructor
          · exact fun hy => List.mem_append_left _ hy
          · intro hy
            rcases List.mem_append.mp hy with hy | hy
            · exact hy
            · have : y = zn := by simpa using hy
              rw [this]
              assumption
        · rcases List.mem_append.mp hy with hy | hy
          · exact hy
          · have : y = zn := by simpa using hy
            rw [this]
            exact (i1 zn).mp hin
      · have hg : Nat.gcd m zn ∣ m := Nat.gcd_dvd_left m zn
        have hgp : 0 < Nat.gcd m zn := Nat.gcd_pos_of_pos_left _ hmp
        have hgl : Nat.gcd m zn ≤ m := Nat.gcd_le_left _ hmp
        obtain ⟨L, hL⟩ : ∃ L, m = Nat.gcd m zn * L := hg
        have hLm : L ≤ m := by
          rw [hL]
          exact Nat.le_mul_of_pos_left _ hgp
        obtain ⟨T, w1, w2, w3⟩ := walks_are (z := zn) (L := L) (P := fun x v => Sm (pre ++ [(zn : Int)]) v ∧ v % m = x) hmp (by omega) rfl (by rw [Nat.mul_comm]; exact hL.symm) i3.len (fun x v hx ⟨p1, p2⟩ => ⟨.step p1 (List.mem_append_right _ List.mem_cons_self), by
          push_cast
          rw [← p2, Int.emod_add_emod]⟩) (fun x v hv => ⟨(i3.snd x v hv).1.mono fun y hy => List.mem_append_left _ hy, (i3.snd x v hv).2⟩)
        refine ⟨(putL kn (zn : Int) true, T), ?_, fun y => ?_, ?_, i3.grow hmp w2 w3⟩
        · have e1 : (!inA (zn : Int) kn) = true := by simp [hin]
          simp only [e1, if_true]
          have e2 : putO kn (zn : Int) true = some (putL kn (zn : Int) true) := by
            unfold putO
            exact if_pos (show kn.length < 2 ^ 24 by omega)
          rw [e2, Option.bind_some, law_gcd (by omega), Option.bind_some, rgO_p (by omega), Option.bind_some]
          have e3 : (fun (z18 : Int) (s17 : (List (Option Int))) =>
        (divO m ((Nat.gcd m zn : Nat) : Int)).bind fun t21 =>
        (mulO 2 t21).bind fun t22 =>
        (rgO 0 t22).bind fun t23 =>
        (forF (ρ := Empty) (fun (z25 : Int) (s24 : Int × (List (Option Int))) => tb m zn s24) t23 ((z18, s17))).bind fun o27 => aft (R := Fl (List (Option Int)) Empty) o27 (fun (s24 : Int × (List (Option Int))) =>
          some (.nx s24.2)) (fun z => z.elim)) = fun (z18 : Int) (s17 : List (Option Int)) => (forF (ρ := Empty) (fun (_ : Int) s => tb m zn s) (rangeL 0 (2 * L : Nat)) (z18, s17)).bind fun o27 => aft o27 (fun (s24 : Int × (List (Option Int))) => some (.nx s24.2)) (fun z => z.elim) := by
            funext z18 s17
            have e4 : (m : Int) / ((Nat.gcd m zn : Nat) : Int) = L := by
              have : m / Nat.gcd m zn = L := Nat.div_eq_of_eq_mul_right hgp hL
              exact_mod_cast this
            rw [divO_p (by omega) (by omega), Option.bind_some, e4, mulO_l (by omega), Option.bind_some, rgO_p (by omega), Option.bind_some]
            rfl
          rw [e3, w1]
          rfl
        · rw [inA_putL]
          simp only [Bool.or_eq_true, decide_eq_true_eq, i1 y, List.mem_append, List.mem_singleton]
          exact Or.comm
        · have := putL_len kn (zn : Int) true
          simp
          omega)
  refine ⟨s.2, ?_, k2.2.2⟩
  rw [show ((([] : List (Int × Bool)), ((rangeL 0 m).map fun _ => (none : Option Int)).set (0 : Int).toNat (some 0))) = ([], ((rangeL 0 m).map fun _ => (none : Option Int)).set (0 : Int).toNat (some 0)) from rfl] at k1
  exact (congrArg (fun o => o.bind fun o12 => aft o12 (fun (s9 : (List (Int × Bool)) × (List (Option Int))) => some s9.2) (fun z => z.elim)) k1)
end K72

/-! plain law, part 6: last_sizes and sum_row -/
namespace K72
open PySem L2 Gx
theorem whileF_ok {S ρ : Type} {f : S → Option (Fl S ρ)} (I Q : S → Prop) (μ : S → Nat) (st : ∀ s, I s → (∃ s', f s = some (.nx s') ∧ I s' ∧ μ s' < μ s) ∨ (f s = some (.bk s) ∧ Q s)) : ∀ (n : Nat) (s : S), I s → μ s < n → ∃ s', whileF f n s = some (.nx s') ∧ I s' ∧ Q s'
  | 0, s, _, h => by omega
  | n + 1, s, hi, h => by
    rcases st s hi with ⟨s1, h1, h2, h3⟩ | ⟨h1, h2⟩
    · obtain ⟨s2, k1, k2⟩ := whileF_ok I Q μ st n s1 h2 (by omega)
      refine ⟨s2, ?_, k2⟩
      unfold whileF
      rw [h1]
      exact k1
    · refine ⟨s, ?_, hi, h2⟩
      unfold whileF
      rw [h1]
theorem Sm.back {S : List Int} {n : Int} (hs : ∀ z ∈ S, 1 ≤ z) (h : Sm S n) : n = 0 ∨ ∃ z ∈ S, z ≤ n ∧ Sm S (n - z) := by
  cases h with
  | zero => exact .inl rfl
  | @step n z h hz =>
    have := h.nn hs
    exact .inr ⟨z, hz, by omega, by rw [show n + z - z = n by omega]; exact h⟩
def lsIn (z10 : Int) (z14 : Int) (s13 : List (Option Int)) : Option (Fl (List (Option Int)) Empty) :=
  (andO (decide (z14 ≤ z10)) ((atI s13 ((z10 - z14))).bind fun t17 => some (!t17.isNone))).bind fun t18 =>
      if t18 = true then
        (setO s13 z10 (some z14)).bind fun t19 =>
        some (.bk t19)
      else
        some (.nx s13)
theorem lsIn_ok {T : List (Option Int)} {i : Nat} (hi : i < T.length) : ∀ (S : List Int), (∀ z ∈ S, 1 ≤ z) → ∃ T', forF (lsIn (i : Int)) S T = some (.nx T') ∧
    ((T' = T ∧ ∀ z ∈ S, z ≤ i → At T (i - z).toNat = none) ∨ ∃ z ∈ S, z ≤ i ∧ At T (i - z).toNat ≠ none ∧ T' = T.set i (some z))
  | [], _ => ⟨T, rfl, .inl ⟨rfl, fun z hz => nomatch hz⟩⟩
  | z :: S, hs => by
    have hz := hs z List.mem_cons_self
    by_cases h1 : z ≤ i
    · obtain ⟨j, hj⟩ : ∃ j : Nat, (i : Int) - z = j := ⟨((i : Int) - z).toNat, by omega⟩
      have e1 : atI T ((i : Int) - z) = some (At T j) := by
        rw [hj]
        exact atI_At (by omega)
      have e2 : ((i : Int) - z).toNat = j := by omega
      cases h2 : At T j with
      | none =>
        obtain ⟨T', k1, k2⟩ := lsIn_ok hi S fun y hy => hs y (List.mem_cons_of_mem _ hy)
        refine ⟨T', ?_, ?_⟩
        · unfold forF
          have e3 : lsIn (i : Int) z T = some (.nx T) := by
            unfold lsIn
            rw [e1, h2]
            simp [andO, h1]
          rw [e3]
          exact k1
        · rcases k2 with ⟨k2, k3⟩ | ⟨y, k2, k3⟩
          · refine .inl ⟨k2, fun y hy hle => ?_⟩
            rcases List.mem_cons.mp hy with rfl | hy
            · rw [e2]; exact h2
            · exact k3 y hy hle
          · exact .inr ⟨y, List.mem_cons_of_mem _ k2, k3⟩
      | some v =>
        refine ⟨T.set i (some z), ?_, .inr ⟨z, List.mem_cons_self, h1, by rw [e2, h2]; simp, rfl⟩⟩
        unfold forF
        have e3 : lsIn (i : Int) z T = some (.bk (T.set i (some z))) := by
          unfold lsIn
          rw [e1, h2]
          have e4 : setO T (i : Int) (some z) = some (T.set i (some z)) := by
            rw [setO_p (by omega) (by omega)]
            rfl
          simp [andO, h1, e4]
        rw [e3]
    · obtain ⟨T', k1, k2⟩ := lsIn_ok hi S fun y hy => hs y (List.mem_cons_of_mem _ hy)
      refine ⟨T', ?_, ?_⟩
      · unfold forF
        have e3 : lsIn (i : Int) z T = some (.nx T) := by
          unfold lsIn
          simp [andO, h1]
        rw [e3]
        exact k1
      · rcases k2 with ⟨k2, k3⟩ | ⟨y, k2, k3⟩
        · refine .inl ⟨k2, fun y hy hle => ?_⟩
          rcases List.mem_cons.mp hy with rfl | hy
          · exact absurd hle h1
          · exact k3 y hy hle
        · exact .inr ⟨y, List.mem_cons_of_mem _ k2, k3⟩
/-- the table of last sizes is right up to i -/
structure Last (S : List Int) (i : Nat) (T : List (Option Int)) : Prop where
  no : ∀ x : Nat, x ≤ i → At T x = none → ¬ Sm S x
  yes : ∀ (x : Nat) (z : Int), x ≤ i → At T x = some z → x = 0 ∨ (z ∈ S ∧ z ≤ x ∧ Sm S (x - z))
  zer : At T 0 ≠ none
theorem Last.sum {S : List Int} {i x : Nat} {T : List (Option Int)} (h : Last S i T) (hx : x ≤ i) (ht : At T x ≠ none) : Sm S x := by
  cases h2 : At T x with
  | none => exact absurd h2 ht
  | some z =>
    rcases h.yes x z hx h2 with rfl | ⟨k1, k2, k3⟩
    · exact .zero
    · have := k3.step k1
      rw [show (x : Int) - z + z = x by omega] at this
      exact this
theorem last_ok {S : List Int} {b : Bool} {n : Nat} (hs : ∀ z ∈ S, 1 ≤ z) (hn : n ≤ 100000) : ∃ T, f_last_sizes (b, S) (n : Int) = some T ∧ T.length = n + 1 ∧ Last S n T := by
  unfold f_last_sizes
  rw [rgS_p (by omega), Option.bind_some, mpO_tot (fun _ => none) (fun _ _ => rfl), Option.bind_some, setO_p (by omega) (by rw [List.length_map, rangeL_len]; omega), Option.bind_some, rgO_p (by omega), Option.bind_some]
  have hlen : ((rangeL 0 (n + 1)).map fun _ => (none : Option Int)).length = n + 1 := by rw [List.length_map, rangeL_len]; omega
  have hat : ∀ x, At (((rangeL 0 (n + 1)).map fun _ => (none : Option Int)).set (0 : Int).toNat (some 0)) x = if x = 0 then some 0 else none := by
    intro x
    rw [show (0 : Int).toNat = 0 from rfl, At_set (by rw [hlen]; omega)]
    congr 1
    unfold At
    rw [List.getD_eq_getElem?_getD, List.getElem?_map]
    cases (rangeL 0 ((n : Int) + 1))[x]? <;> rfl
  obtain ⟨T, h1, h2⟩ := forF_range (ρ := Empty) (f := fun (z10 : Int) (s9 : (List (Option Int))) =>
    (forF (ρ := Empty) (lsIn z10) S s9).bind fun o16 => aft o16 (fun (s13 : (List (Option Int))) => some (.nx s13)) (fun z => z.elim)) (lo := 1) (hi := (n : Int) + 1) (s := ((rangeL 0 (n + 1)).map fun _ => (none : Option Int)).set (0 : Int).toNat (some 0))
    (fun i T => T.length = n + 1 ∧ Last S i T ∧ ∀ x, i < x → At T x = none) ⟨by rw [List.length_set]; exact hlen, ⟨(fun x hx h => by
      have hx0 : x = 0 := by omega
      rw [hx0, hat] at h
      simp at h), (fun x z hx h => .inl (by omega)), (by rw [hat]; simp)⟩, (fun x hx => by
      rw [hat, if_neg (by omega)])⟩ (fun i T hi ⟨i1, i2, i3⟩ => by
      have e0 : (1 : Int) + (i : Int) = ((i + 1 : Nat) : Int) := by omega
      obtain ⟨T', k1, k2⟩ := lsIn_ok (T := T) (i := i + 1) (by omega) S hs
      refine ⟨T', by rw [e0, k1]; rfl, ?_⟩
      rcases k2 with ⟨rfl, k3⟩ | ⟨z, k3, k4, k5, rfl⟩
      · refine ⟨i1, ⟨fun x hx h => ?_, fun x z hx h => ?_, i2.zer⟩, fun x hx => i3 x (by omega)⟩
        · by_cases hxi : x ≤ i
          · exact i2.no x hxi h
          · have hxe : x = i + 1 := by omega
            intro hsm
            rcases hsm.back hs with h0 | ⟨z, z1, z2, z3⟩
            · omega
            · have z4 := hs z z1
              obtain ⟨j, hj⟩ : ∃ j : Nat, (x : Int) - z = j := ⟨((x : Int) - z).toNat, by omega⟩
              have z5 := k3 z z1 (by omega)
              rw [show (((i + 1 : Nat) : Int) - z).toNat = j by omega] at z5
              rw [hj] at z3
              exact i2.no j (by omega) z5 z3
        · by_cases hxi : x ≤ i
          · exact i2.yes x z hxi h
          · rw [i3 x (by omega)] at h
            cases h
      · have z4 := hs z k3
        obtain ⟨j, hj⟩ : ∃ j : Nat, ((i + 1 : Nat) : Int) - z = j := ⟨(((i + 1 : Nat) : Int) - z).toNat, by omega⟩
        rw [show (((i + 1 : Nat) : Int) - z).toNat = j by omega] at k5
        have k6 := i2.sum (x := j) (by omega) k5
        refine ⟨by rw [List.length_set]; exact i1, ⟨fun x hx h => ?_, fun x y hx h => ?_, ?_⟩, fun x hx => ?_⟩
        · rw [At_set (by omega)] at h
          split at h
          · cases h
          · exact i2.no x (by omega) h
        · rw [At_set (by omega)] at h
          split at h
          · rename_i hxe
            cases h
            refine .inr ⟨k3, by omega, ?_⟩
            rw [hxe, hj]
            exact k6
          · exact i2.yes x y (by omega) h
        · rw [At_set (by omega), if_neg (by omega)]
          exact i2.zer
        · rw [At_set (by omega), if_neg (by omega)]
          exact i3 x (by omega))
  have e1 : (((n : Int) + 1) - 1).toNat = n := by omega
  rw [e1] at h2
  refine ⟨T, ?_, h2.1, h2.2.1⟩
  exact (congrArg (fun o => o.bind fun o12 => aft o12 (fun (s9 : (List (Option Int))) => some s9) (fun z => z.elim)) h1)
theorem sum_nn : ∀ {row : List Int}, (∀ z ∈ row, 1 ≤ z) → 0 ≤ row.sum
  | [], _ => by simp
  | a :: row, h => by
    have h1 := sum_nn fun z hz => h z (List.mem_cons_of_mem a hz)
    have h2 := h a List.mem_cons_self
    simp
    omega
theorem perm_sum {xs ys : List Int} (h : xs.Perm ys) : xs.sum = ys.sum := by
  induction h with
  | nil => rfl
  | cons x _ ih => simp [ih]
  | swap x y l => simp; omega
  | trans _ _ i1 i2 => rw [i1, i2]
theorem row_ok {S : List Int} {b : Bool} {n : Nat} (hs : ∀ z ∈ S, 1 ≤ z) (hn : n ≤ 100000) : (¬ Sm S n ∧ f_sum_row (b, S) (n : Int) = some none) ∨ (Sm S n ∧ ∃ row, f_sum_row (b, S) (n : Int) = some (some row) ∧ (∀ z ∈ row, z ∈ S) ∧ row.sum = n ∧ row.Pairwise (· ≤ ·)) := by
  obtain ⟨T, h1, h2, h3⟩ := last_ok (b := b) hs hn
  unfold f_sum_row
  rw [h1, Option.bind_some, atI_At (by omega), Option.bind_some]
  cases h4 : At T n with
  | none => exact .inl ⟨h3.no n (Nat.le_refl _) h4, rfl⟩
  | some z0 =>
    have hsm := h3.sum (Nat.le_refl n) (by rw [h4]; simp)
    refine .inr ⟨hsm, ?_⟩
    obtain ⟨s, k1, ⟨k2, k3, k4, k5, k6⟩, k7⟩ := whileF_ok (ρ := Empty) (f := fun (s3 : Int × (List Int)) =>
      if (decide (0 < s3.1)) = true then
        (atI T s3.1).bind fun t6 =>
        (t6).bind fun t7 =>
        (appO s3.2 t7).bind fun t8 =>
        (atI T s3.1).bind fun t9 =>
        (t9).bind fun t10 =>
        some (.nx (((s3.1 - t10), t8)))
      else some (.bk s3)) (fun s => 0 ≤ s.1 ∧ Sm S s.1 ∧ (∀ z ∈ s.2, z ∈ S) ∧ s.1 + s.2.sum = n ∧ s.1 + s.2.length ≤ n) (fun s => s.1 ≤ 0) (fun s => s.1.toNat) (fun s ⟨i1, i2, i3, i4, i5⟩ => by
        obtain ⟨r, row⟩ := s
        simp only at i1 i2 i3 i4 i5
        by_cases h0 : 0 < r
        · left
          have hsum : 0 ≤ row.sum := sum_nn fun z hz => hs z (i3 z hz)
          obtain ⟨x, rfl⟩ : ∃ x : Nat, r = x := ⟨r.toNat, by omega⟩
          cases h5 : At T x with
          | none => exact absurd i2 (h3.no x (by omega) h5)
          | some z =>
            rcases h3.yes x z (by omega) h5 with h6 | ⟨z1, z2, z3⟩
            · omega
            · have z4 := hs z z1
              refine ⟨((x : Int) - z, row ++ [z]), ?_, ⟨by simp; omega, z3, fun y hy => ?_, by simp; omega, by simp; omega⟩, by simp; omega⟩
              · simp only [h0, decide_true, if_true, atI_At (T := T) (a := x) (by omega), Option.bind_some, h5]
                rw [appO_p (by omega)]
                rfl
              · rcases List.mem_append.mp hy with hy | hy
                · exact i3 y hy
                · have : y = z := by simpa using hy
                  rw [this]
                  exact z1
        · right
          exact ⟨by simp [h0], by omega⟩) ((n : Int).toNat + 1) ((n : Int), []) ⟨by simp, hsm, fun z hz => (nomatch hz), by simp, by simp⟩ (by simp)
    refine ⟨sortI s.2, ?_, fun z hz => k4 z ((sortI_perm s.2).mem_iff.mp hz), ?_, sortI_sorted _⟩
    · exact (congrArg (fun o => o.bind fun o5 => aft o5 (fun (s3 : Int × (List Int)) => some (some ((sortI s3.2)))) (fun z => z.elim)) k1)
    · rw [perm_sum (sortI_perm s.2)]
      omega
end K72

/-! plain law, part 7: the heap -/
namespace K72
open PySem L2 Gx
def IsHp (xs : List Int) : Prop := ∀ i, 1 ≤ i → i < xs.length → xs.getD ((i - 1) / 2) 0 ≤ xs.getD i 0
theorem hp_root {xs : List Int} (h : IsHp xs) : ∀ i, i < xs.length → xs.getD 0 0 ≤ xs.getD i 0 := by
  intro i
  induction i using Nat.strongRecOn with
  | ind i ih =>
    intro hi
    by_cases h0 : i = 0
    · subst h0; exact Int.le_refl _
    · exact Int.le_trans (ih ((i - 1) / 2) (by omega) (by omega)) (h i (by omega) hi)
theorem getD_set (xs : List Int) {i : Nat} (hi : i < xs.length) (v : Int) (k : Nat) : (xs.set i v).getD k 0 = if k = i then v else xs.getD k 0 := by
  rw [List.getD_eq_getElem?_getD, List.getD_eq_getElem?_getD, List.getElem?_set]
  by_cases h : k = i
  · subst h
    simp [hi]
  · rw [if_neg (fun e => h e.symm), if_neg h]
theorem sw_at {xs : List Int} {i j : Nat} (hi : i < xs.length) (hj : j < xs.length) (k : Nat) : (sw xs i j).getD k 0 = if k = j then xs.getD i 0 else if k = i then xs.getD j 0 else xs.getD k 0 := by
  unfold sw
  rw [getD_set _ (by simpa using hj), getD_set _ hi]
theorem sw_perm {xs : List Int} {i j : Nat} (hi : i < xs.length) (hj : j < xs.length) : (sw xs i j).Perm xs := by
  unfold sw
  have e1 : xs.getD j 0 = xs[j] := by rw [List.getD_eq_getElem?_getD, List.getElem?_eq_getElem hj]; rfl
  have e2 : xs.getD i 0 = xs[i] := by rw [List.getD_eq_getElem?_getD, List.getElem?_eq_getElem hi]; rfl
  rw [e1, e2]
  exact List.set_set_perm hi hj
theorem up_ok : ∀ (k : Nat) (xs : List Int) (p : Nat), p < k → p < xs.length → (∀ i, 1 ≤ i → i < xs.length → i ≠ p → xs.getD ((i - 1) / 2) 0 ≤ xs.getD i 0) → (1 ≤ p → ∀ c, 1 ≤ c → c < xs.length → (c - 1) / 2 = p → xs.getD ((p - 1) / 2) 0 ≤ xs.getD c 0) →
    IsHp (upN k xs p) ∧ (upN k xs p).Perm xs := by
  intro k
  induction k with
  | zero => intro xs p h; omega
  | succ k ih =>
    intro xs p hk hp h1 h2
    unfold upN
    split
    · rename_i hc
      obtain ⟨hc1, hc2⟩ := hc
      have hq : (p - 1) / 2 < xs.length := by omega
      have at_ := sw_at hq hp
      obtain ⟨r1, r2⟩ := ih (sw xs ((p - 1) / 2) p) ((p - 1) / 2) (by omega) (by rw [sw_len]; exact hq) (fun i hi hl hne => by
        rw [sw_len] at hl
        rw [at_, at_]
        by_cases e : i = p
        · subst e
          rw [if_pos rfl, if_neg (by omega), if_pos rfl]
          omega
        · rw [if_neg e, if_neg hne]
          by_cases e1 : (i - 1) / 2 = p
          · rw [if_pos e1]
            exact h2 (by omega) i hi hl e1
          · rw [if_neg e1]
            have h3 := h1 i hi hl e
            by_cases e2 : (i - 1) / 2 = (p - 1) / 2
            · rw [if_pos e2]
              rw [e2] at h3
              omega
            · rw [if_neg e2]
              exact h3) (fun hq1 c hc hl hpc => by
        rw [sw_len] at hl
        rw [at_, at_, if_neg (by omega), if_neg (by omega)]
        have h3 := h1 ((p - 1) / 2) hq1 hq (by omega)
        by_cases e : c = p
        · rw [if_pos e]
          exact h3
        · rw [if_neg e, if_neg (by omega)]
          have h4 := h1 c hc hl e
          rw [hpc] at h4
          omega)
      exact ⟨r1, r2.trans (sw_perm hq hp)⟩
    · rename_i hc
      refine ⟨fun i hi hl => ?_, List.Perm.refl _⟩
      by_cases e : i = p
      · subst e
        apply Int.not_lt.mp
        intro hlt
        exact hc ⟨by omega, hlt⟩
      · exact h1 i hi hl e
theorem kid_ok {xs : List Int} {p : Nat} (hp : p < xs.length / 2) : kidOf xs p < xs.length ∧ (kidOf xs p = 2 * p + 1 ∨ kidOf xs p = 2 * p + 2) ∧ ∀ c, 1 ≤ c → c < xs.length → (c - 1) / 2 = p → xs.getD (kidOf xs p) 0 ≤ xs.getD c 0 := by
  unfold kidOf
  split
  · rename_i h
    refine ⟨h.1, .inr rfl, fun c h1 h2 h3 => ?_⟩
    rcases (show c = 2 * p + 1 ∨ c = 2 * p + 1 + 1 by omega) with e | e
    · rw [e]
      exact Int.not_lt.mp h.2
    · rw [e]
      exact Int.le_refl _
  · rename_i h
    refine ⟨by omega, .inl rfl, fun c h1 h2 h3 => ?_⟩
    rcases (show c = 2 * p + 1 ∨ c = 2 * p + 1 + 1 by omega) with e | e
    · rw [e]
      exact Int.le_refl _
    · subst e
      apply Int.not_lt.mp
      intro hlt
      exact h ⟨h2, by omega⟩
theorem dn_ok : ∀ (k : Nat) (xs : List Int) (p : Nat), xs.length ≤ p + k → p < xs.length → (∀ i, 1 ≤ i → i < xs.length → i ≠ p → (i - 1) / 2 ≠ p → xs.getD ((i - 1) / 2) 0 ≤ xs.getD i 0) → (1 ≤ p → ∀ c, 1 ≤ c → c < xs.length → (c - 1) / 2 = p → xs.getD ((p - 1) / 2) 0 ≤ xs.getD c 0) →
    IsHp (dnN k xs p) ∧ (dnN k xs p).Perm xs := by
  intro k
  induction k with
  | zero => intro xs p h1 h2; omega
  | succ k ih =>
    intro xs p hk hp h1 h2
    unfold dnN
    split
    · rename_i hc
      obtain ⟨q1, q2, q3⟩ := kid_ok hc
      generalize kidOf xs p = c at q1 q2 q3
      have at_ := sw_at q1 hp
      obtain ⟨r1, r2⟩ := ih (sw xs c p) c (by rw [sw_len]; omega) (by rw [sw_len]; exact q1) (fun i hi hl hne hpe => by
        rw [sw_len] at hl
        rw [at_, at_, if_neg hne, if_neg hpe]
        by_cases e : i = p
        · subst e
          rw [if_neg (by omega), if_pos rfl]
          exact h2 hi c (by omega) q1 (by omega)
        · rw [if_neg e]
          by_cases e1 : (i - 1) / 2 = p
          · rw [if_pos e1]
            exact q3 i hi hl e1
          · rw [if_neg e1]
            exact h1 i hi hl e e1) (fun hq1 d hd hl hpd => by
        rw [sw_len] at hl
        rw [at_, at_, if_pos (by omega), if_neg (by omega), if_neg (by omega)]
        have h3 := h1 d hd hl (by omega) (by omega)
        rw [hpd] at h3
        exact h3)
      exact ⟨r1, r2.trans (sw_perm q1 hp)⟩
    · rename_i hc
      exact up_ok (p + 1) xs p (by omega) hp (fun i hi hl hne => h1 i hi hl hne (by omega)) (fun _ c h3 h4 h5 => by omega)
theorem push_ok {xs : List Int} {v : Int} (h : IsHp xs) : IsHp (hpush xs v) ∧ (hpush xs v).Perm (v :: xs) := by
  unfold hpush
  have e : ∀ i, i < xs.length → (xs ++ [v]).getD i 0 = xs.getD i 0 := fun i hi => by
    rw [List.getD_eq_getElem?_getD, List.getD_eq_getElem?_getD, List.getElem?_append_left hi]
  obtain ⟨r1, r2⟩ := up_ok (xs.length + 1) (xs ++ [v]) xs.length (by omega) (by simp) (fun i hi hl hne => by
    have hl' : i < xs.length := by simp at hl; omega
    rw [e _ (by omega), e _ hl']
    exact h i hi hl') (fun _ c h3 h4 h5 => by simp at h4; omega)
  exact ⟨r1, r2.trans (List.perm_append_singleton _ _)⟩
theorem pop_ok {xs ys : List Int} {m : Int} (h : IsHp xs) (hp : hpop xs = some (m, ys)) : xs.Perm (m :: ys) ∧ IsHp ys ∧ ∀ x ∈ xs, m ≤ x := by
  have hroot : ∀ x ∈ xs, xs.getD 0 0 ≤ x := by
    intro x hx
    obtain ⟨i, hi, rfl⟩ := List.getElem_of_mem hx
    have := hp_root h i hi
    rw [List.getD_eq_getElem?_getD (i := i), List.getElem?_eq_getElem hi] at this
    exact this
  cases xs with
  | nil => cases hp
  | cons a r =>
    unfold hpop at hp
    obtain ⟨rfl, rfl⟩ := Prod.mk.inj (Option.some.inj hp)
    refine ⟨?_, ?_, hroot⟩
    all_goals
      cases r with
      | nil => first | exact List.Perm.refl _ | (intro i h1 h2; simp at h2)
      | cons b r =>
        have e1 : (b :: r).isEmpty = false := rfl
        have e2 : (a :: b :: r).dropLast.set 0 ((a :: b :: r).getLastD 0) = (b :: r).getLast (by simp) :: (b :: r).dropLast := by
          simp [List.getLastD_eq_getLast?, List.getLast?_eq_some_getLast]
        have hlen : ((b :: r).getLast (by simp) :: (b :: r).dropLast).length = (b :: r).length := by simp
        have e3 : ∀ i, 1 ≤ i → i < (b :: r).length → ((b :: r).getLast (by simp) :: (b :: r).dropLast).getD i 0 = (a :: b :: r).getD i 0 := by
          intro i h1 h2
          obtain ⟨j, rfl⟩ : ∃ j, i = j + 1 := ⟨i - 1, by omega⟩
          simp only [List.getD_cons_succ]
          rw [List.getD_eq_getElem?_getD, List.getD_eq_getElem?_getD, List.getElem?_dropLast, if_pos (by simp at h2 ⊢; omega)]
        obtain ⟨r1, r2⟩ := dn_ok (b :: r).length ((b :: r).getLast (by simp) :: (b :: r).dropLast) 0 (by rw [hlen]; omega) (by rw [hlen]; simp) (fun i h1 h2 h3 h4 => by
          rw [hlen] at h2
          rw [e3 i h1 h2, e3 _ (by omega) (by omega)]
          exact h i h1 (by simp at h2 ⊢; omega)) (fun h1 => by omega)
        rw [e1, if_neg (by decide), e2]
        first
          | exact r1
          | (refine List.Perm.cons _ (List.Perm.trans ?_ r2.symm)
             have := List.dropLast_concat_getLast (show (b :: r) ≠ [] by simp)
             conv => lhs; rw [← this]
             exact List.perm_append_singleton _ _)
end K72

/-! plain law, part 8: least_sums -/
namespace K72
open PySem L2 Gx
theorem pigeon : ∀ (m : Nat) (xs : List Int), xs.Nodup → (∀ x ∈ xs, 0 ≤ x ∧ x < m) → xs.length ≤ m
  | 0, xs, _, h => by
    cases xs with
    | nil => simp
    | cons a r =>
      have := h a List.mem_cons_self
      omega
  | m + 1, xs, hn, h => by
    have h1 := pigeon m (xs.erase m) (hn.erase _) (fun x hx => by
      have h2 := hn.mem_erase_iff.mp hx
      have h3 := h x h2.2
      have h4 := h2.1
      omega)
    rw [List.length_erase] at h1
    split at h1 <;> omega
theorem getA_snoc {β : Type} (kvs : List (Int × β)) (k : Int) (v : β) (x : Int) (h : inA k kvs = false) : getA (kvs ++ [(k, v)]) x = if x = k then some v else getA kvs x := by
  unfold getA getK
  rw [List.find?_append]
  by_cases hx : x = k
  · subst hx
    have : kvs.find? (fun kv => decide (kv.1 = x)) = none := by
      unfold inA getK at h
      rw [Option.isSome_map] at h
      cases e : kvs.find? (fun kv => decide (kv.1 = x)) with
      | none => rfl
      | some p => rw [e] at h; cases h
    rw [this]
    simp
  · rw [if_neg hx]
    have h2 : ¬ k = x := fun e => hx e.symm
    simp [h2]
theorem putL_new {β : Type} (kvs : List (Int × β)) (k : Int) (v : β) (h : inA k kvs = false) : putL kvs k v = kvs ++ [(k, v)] := by
  unfold putL
  unfold inA getK at h
  rw [Option.isSome_map, find_any] at h
  rw [h, if_neg (by decide)]
theorem inA_mem {β : Type} (kvs : List (Int × β)) (k : Int) : inA k kvs = true ↔ k ∈ kvs.map (·.1) := by
  unfold inA getK
  rw [Option.isSome_map, find_any, List.any_eq_true]
  constructor
  · rintro ⟨p, hp, e⟩
    have e : p.1 = k := of_decide_eq_true e
    exact List.mem_map.mpr ⟨p, hp, e⟩
  · intro h
    obtain ⟨p, hp, e⟩ := List.mem_map.mp h
    exact ⟨p, hp, decide_eq_true e⟩
theorem inA_get {β : Type} (kvs : List (Int × β)) (k : Int) : inA k kvs = true ↔ ∃ v, getA kvs k = some v := by
  unfold inA getA
  rw [Option.isSome_iff_exists]
/-- v is the least sum of its residue -/
def Lst (S : List Int) (m v : Int) : Prop := Sm S v ∧ ∀ u, Sm S u → u % m = v % m → v ≤ u
structure Dj (S : List Int) (m : Int) (B : List (Int × Int)) (W : List Int) : Prop where
  hp : IsHp W
  sm : ∀ w ∈ W, Sm S w
  set : ∀ r v, getA B r = some v → v % m = r ∧ Lst S m v
  edge : ∀ r v, getA B r = some v → ∀ z ∈ S, v + z ∈ W ∨ inA ((v + z) % m) B = true
  zer : 0 ∈ W ∨ inA 0 B = true
  nd : (B.map (·.1)).Nodup
  rng : ∀ r ∈ B.map (·.1), 0 ≤ r ∧ r < m
theorem Dj.cov {S : List Int} {m : Int} {B : List (Int × Int)} {W : List Int} (hs : ∀ z ∈ S, 1 ≤ z) (h : Dj S m B W) {u : Int} (hu : Sm S u) : inA (u % m) B = true ∨ ∃ w ∈ W, w ≤ u := by
  induction hu with
  | zero =>
    rcases h.zer with h0 | h0
    · exact .inr ⟨0, h0, Int.le_refl _⟩
    · left
      rw [Int.zero_emod]
      exact h0
  | @step n z hn hz ih =>
    have hz1 := hs z hz
    rcases ih with ih | ⟨w, h1, h2⟩
    · obtain ⟨v, hv⟩ := (inA_get _ _).mp ih
      obtain ⟨e, l1, l2⟩ := h.set _ _ hv
      have hle := l2 n hn e.symm
      rcases h.edge _ _ hv z hz with h3 | h3
      · exact .inr ⟨v + z, h3, by omega⟩
      · left
        have : (v + z) % m = (n + z) % m := by rw [Int.add_emod, e, ← Int.add_emod]
        rw [← this]
        exact h3
    · exact .inr ⟨w, h1, by omega⟩
theorem pushes {W : List Int} {w : Int} (S : List Int) (hW : W.length + S.length < 2 ^ 24) (hp : IsHp W) : ∃ W', forF (ρ := Empty) (fun (z11 : Int) (s10 : (List Int)) =>
          (hpushO s10 ((w + z11))).bind fun t14 =>
          some (.nx t14)) S W = some (.nx W') ∧ IsHp W' ∧ (∀ x, x ∈ W' ↔ x ∈ W ∨ ∃ z ∈ S, x = w + z) ∧ W'.length = W.length + S.length := by
  obtain ⟨s, h1, h2⟩ := forF_list (ρ := Empty) (xs := S) (f := fun (z11 : Int) (s10 : (List Int)) =>
          (hpushO s10 ((w + z11))).bind fun t14 =>
          some (.nx t14)) (s := W) (fun pre W' => IsHp W' ∧ (∀ x, x ∈ W' ↔ x ∈ W ∨ ∃ z ∈ pre, x = w + z) ∧ W'.length = W.length + pre.length) ⟨hp, fun x => by simp, by simp⟩ (fun pre z post s e ⟨i1, i2, i3⟩ => by
    have hl : pre.length < S.length := by rw [e]; simp
    obtain ⟨p1, p2⟩ := push_ok (v := w + z) i1
    refine ⟨hpush s (w + z), ?_, p1, fun x => ?_, by rw [hpush_len, i3]; simp; omega⟩
    · have e2 : hpushO s (w + z) = some (hpush s (w + z)) := if_pos (show s.length < 2 ^ 24 by omega)
      rw [e2]
      rfl
    · rw [p2.mem_iff, List.mem_cons, i2 x]
      constructor
      · rintro (h | h | ⟨y, h, h'⟩)
        · exact .inr ⟨z, by simp, h⟩
        · exact .inl h
        · exact .inr ⟨y, by simp [h], h'⟩
      · rintro (h | ⟨y, h, h'⟩)
        · exact .inr (.inl h)
        · rcases List.mem_append.mp h with h | h
          · exact .inr (.inr ⟨y, h, h'⟩)
          · have : y = z := by simpa using h
            subst this
            exact .inl h')
  exact ⟨s, h1, h2⟩
theorem least_ok {S : List Int} {m : Nat} (hm : minL S = some (m : Int)) (h1 : ∀ z ∈ S, 1 ≤ z ∧ z ≤ 720) (hl : S.length ≤ 60) : ∃ B, f_least_sums S = some B ∧ Dj S m B [] ∧ B.length ≤ 720 := by
  have hmem := (minL_is hm).1
  have hm1 := h1 _ hmem
  have hs : ∀ z ∈ S, 1 ≤ z := fun z hz => (h1 z hz).1
  have hmp : (0 : Int) < m := by omega
  unfold f_least_sums
  rw [hm, Option.bind_some]
  obtain ⟨s, k1, ⟨k2, k3⟩, k4⟩ := whileF_ok (ρ := Empty) (f := fun (s2 : (List (Int × Int)) × (List Int)) =>
    if (!s2.2.isEmpty) = true then
      (hpop s2.2).bind fun t5 =>
      (modO t5.1 m).bind fun t6 =>
      (if (!inA t6 s2.1) = true then
        (modO t5.1 m).bind fun t9 =>
        (putO s2.1 t9 t5.1).bind fun t8 =>
        (forF (ρ := Empty) (fun (z11 : Int) (s10 : (List Int)) =>
          (hpushO s10 ((t5.1 + z11))).bind fun t14 =>
          some (.nx t14)) S t5.2).bind fun o13 => aft o13 (fun (s10 : (List Int)) =>
          some ((t8, s10))) (fun z => z.elim)
      else
        some ((s2.1, t5.2))).bind fun (s7 : (List (Int × Int)) × (List Int)) =>
        some (.nx ((s7.1, s7.2)))
    else some (.bk s2)) (fun s => Dj S m s.1 s.2 ∧ s.2.length + (m - s.1.length) * S.length ≤ 1 + m * S.length) (fun s => s.2 = []) (fun s => s.2.length + (m - s.1.length) * S.length) (fun s ⟨i1, i2⟩ => by
      obtain ⟨B, W⟩ := s
      simp only at i1 i2
      have hms : m * S.length ≤ 720 * 60 := Nat.mul_le_mul (by omega) hl
      have hBl : B.length ≤ m := by
        have := pigeon m _ i1.nd i1.rng
        simpa using this
      cases hp : hpop W with
      | none =>
        right
        cases W with
        | nil => exact ⟨rfl, rfl⟩
        | cons a r => cases hp
      | some t =>
        left
        obtain ⟨w, W'⟩ := t
        obtain ⟨p1, p2, p3⟩ := pop_ok i1.hp hp
        have pl := hpop_len hp
        have hne : (!W.isEmpty) = true := by
          cases W with
          | nil => cases hp
          | cons a r => rfl
        have hw := i1.sm w (p1.mem_iff.mpr List.mem_cons_self)
        have inW : ∀ x, x ∈ W ↔ x = w ∨ x ∈ W' := fun x => by rw [p1.mem_iff, List.mem_cons]
        by_cases hin : inA (w % m) B = true
        · refine ⟨(B, W'), ?_, ⟨⟨p2, (fun x hx => i1.sm x ((inW x).mpr (.inr hx))), i1.set, (fun r v hv z hz => ?_), ?_, i1.nd, i1.rng⟩, by simp only; omega⟩, by simp only; omega⟩
          · simp only [hne, if_true, hp, Option.bind_some]
            rw [modO_p hmp]
            simp [hin]
          · rcases i1.edge r v hv z hz with h | h
            · rcases (inW _).mp h with h | h
              · rw [h]
                exact .inr hin
              · exact .inl h
            · exact .inr h
          · rcases i1.zer with h | h
            · rcases (inW _).mp h with h | h
              · right
                rw [← h, Int.zero_emod] at hin
                exact hin
              · exact .inl h
            · exact .inr h
        · have hin' : inA (w % m) B = false := by simpa using hin
          have hnd : ((B ++ [(w % m, w)]).map (·.1)).Nodup := by
            rw [List.map_append, List.nodup_append]
            refine ⟨i1.nd, by simp, fun a ha b hb => ?_⟩
            have hb : b = w % m := by simpa using hb
            subst hb
            intro e
            subst e
            exact hin ((inA_mem _ _).mpr ha)
          have hrng : ∀ r : Int, r ∈ (B ++ [(w % (m : Int), w)]).map (·.1) → 0 ≤ r ∧ r < (m : Int) := by
            intro r hr
            rw [List.map_append] at hr
            rcases List.mem_append.mp hr with hr | hr
            · exact i1.rng r hr
            · have : r = w % m := by simpa using hr
              subst this
              exact ⟨Int.emod_nonneg _ (by omega), Int.emod_lt_of_pos _ hmp⟩
          have hBlt : B.length < m := by
            have := pigeon m _ hnd hrng
            simp at this
            omega
          have hWl : W'.length + S.length < 2 ^ 24 := by omega
          obtain ⟨W2, q1, q2, q3, q4⟩ := pushes (w := w) S hWl p2
          have hlst : Lst S m w := by
            refine ⟨hw, fun u hu e => ?_⟩
            rcases i1.cov hs hu with h | ⟨x, h2, h3⟩
            · rw [e] at h
              exact absurd h hin
            · have := p3 x h2
              omega
          have hmu : W2.length + (m - (B ++ [(w % m, w)]).length) * S.length < W.length + (m - B.length) * S.length := by
            rw [q4, List.length_append, List.length_singleton]
            obtain ⟨d, hd⟩ : ∃ d, m - B.length = d + 1 := ⟨m - B.length - 1, by omega⟩
            rw [hd, show m - (B.length + 1) = d by omega, Nat.add_mul]
            omega
          refine ⟨(B ++ [(w % m, w)], W2), ?_, ⟨⟨q2, (fun x hx => ?_), (fun r v hv => ?_), (fun r v hv z hz => ?_), ?_, hnd, hrng⟩, by simp only; omega⟩, hmu⟩
          · simp only [hne, if_true, hp, Option.bind_some]
            rw [modO_p hmp]
            simp only [Option.bind_some, hin', Bool.not_false, if_true]
            have e2 : putO B (w % m) w = some (B ++ [(w % m, w)]) := by
              unfold putO
              rw [putL_new _ _ _ hin']
              exact if_pos (show B.length < 2 ^ 24 by omega)
            rw [e2, Option.bind_some, q1]
            rfl
          · rcases (q3 x).mp hx with h | ⟨z, h, rfl⟩
            · exact i1.sm x ((inW x).mpr (.inr h))
            · exact hw.step h
          · rw [getA_snoc _ _ _ _ hin'] at hv
            split at hv
            · rename_i e
              cases hv
              exact ⟨e.symm, hlst⟩
            · exact i1.set r v hv
          · have old : ∀ y, inA y B = true → inA y (B ++ [(w % m, w)]) = true := fun y hy => by
              rw [inA_mem] at hy ⊢
              rw [List.map_append]
              exact List.mem_append_left _ hy
            have new : inA (w % m) (B ++ [(w % m, w)]) = true := by
              rw [inA_mem, List.map_append]
              exact List.mem_append_right _ (by simp)
            rw [getA_snoc _ _ _ _ hin'] at hv
            split at hv
            · cases hv
              exact .inl ((q3 _).mpr (.inr ⟨z, hz, rfl⟩))
            · rcases i1.edge r v hv z hz with h | h
              · rcases (inW _).mp h with h | h
                · rw [h]
                  exact .inr new
                · exact .inl ((q3 _).mpr (.inl h))
              · exact .inr (old _ h)
          · rcases i1.zer with h | h
            · rcases (inW _).mp h with h | h
              · right
                rw [inA_mem, List.map_append]
                refine List.mem_append_right _ ?_
                rw [← h]
                simp
              · exact .inl ((q3 _).mpr (.inl h))
            · right
              rw [inA_mem] at h ⊢
              rw [List.map_append]
              exact List.mem_append_left _ h) (720 * 64 + 2) (([] : List (Int × Int)), [0]) ⟨⟨(fun i h2 h3 => by simp at h3; omega), (fun w hw => by
        have : w = 0 := by simpa using hw
        rw [this]
        exact .zero), (fun r v hv => by cases hv), (fun r v hv => by cases hv), .inl (by simp), by simp, (fun r hr => by cases hr)⟩, by simp⟩ (by
        have hms : m * S.length ≤ 720 * 60 := Nat.mul_le_mul (by omega) hl
        simp
        omega)
  rw [k4] at k2
  refine ⟨s.1, ?_, k2, ?_⟩
  · exact (congrArg (fun o => o.bind fun o4 => aft o4 (fun (s2 : (List (Int × Int)) × (List Int)) => some s2.1) (fun z => z.elim)) k1)
  · have := pigeon m _ k2.nd k2.rng
    simp at this
    omega
end K72

/-! plain law, part 9: the two patterns agree -/
namespace K72
open PySem L2 Gx
def gS (S : List Int) : Nat := S.foldl (fun s z => Nat.gcd s z.natAbs) 0
theorem gS_snoc (S : List Int) (z : Int) : gS (S ++ [z]) = Nat.gcd (gS S) z.natAbs := by
  unfold gS
  rw [List.foldl_append] <;> rfl
theorem gS_dvd {S : List Int} : ∀ z ∈ S, gS S ∣ z.natAbs := by
  suffices h : ∀ (ys : List Int) (a : Nat), ys.foldl (fun s z => Nat.gcd s z.natAbs) a ∣ a ∧ ∀ z ∈ ys, ys.foldl (fun s z => Nat.gcd s z.natAbs) a ∣ z.natAbs from (h S 0).2
  intro ys
  induction ys with
  | nil => intro a; exact ⟨Nat.dvd_refl _, fun z hz => nomatch hz⟩
  | cons y ys ih =>
    intro a
    obtain ⟨h1, h2⟩ := ih (Nat.gcd a y.natAbs)
    refine ⟨Nat.dvd_trans h1 (Nat.gcd_dvd_left _ _), fun z hz => ?_⟩
    rcases List.mem_cons.mp hz with rfl | hz
    · exact Nat.dvd_trans h1 (Nat.gcd_dvd_right _ _)
    · exact h2 z hz
theorem step_ok (b : Bool) (S : List Int) : f_common_step (b, S) = some (gS S : Int) := by
  unfold f_common_step
  obtain ⟨s, h1, h2⟩ := forF_list (ρ := Empty) (xs := S) (f := fun (z2 : Int) (s1 : Int) => some (.nx (((Nat.gcd s1.natAbs z2.natAbs : Nat) : Int)))) (s := 0) (fun pre s => s = (gS pre : Int)) rfl (fun pre z post s _ e => by
    subst e
    exact ⟨_, rfl, by rw [gS_snoc]; rfl⟩)
  subst h2
  exact (congrArg (fun o => o.bind fun o4 => aft o4 (fun (s1 : Int) => some s1) (fun z => z.elim)) h1)
theorem mem_dcL (xs : List Int) (x : Int) : inA x (dcL (fun z => z) (fun _ => true) xs) = true ↔ x ∈ xs := by
  suffices h : ∀ (ys : List Int) (a : List (Int × Bool)), inA x (ys.foldl (fun acc z => putL acc z true) a) = true ↔ x ∈ ys ∨ inA x a = true by
    have h2 := h xs []
    unfold dcL
    rw [h2]
    simp [inA, getK]
  intro ys
  induction ys with
  | nil => intro a; simp
  | cons y ys ih =>
    intro a
    rw [List.foldl_cons, ih, inA_putL]
    simp only [Bool.or_eq_true, decide_eq_true_eq, List.mem_cons]
    constructor
    · rintro (h | h | h)
      · exact .inl (.inr h)
      · exact .inl (.inl h)
      · exact .inr h
    · rintro ((h | h) | h)
      · exact .inr (.inl h)
      · exact .inl h
      · exact .inr (.inr h)
theorem len_dcL (xs : List Int) : (dcL (fun z => z) (fun _ => true) xs).length ≤ xs.length := by
  suffices h : ∀ (ys : List Int) (a : List (Int × Bool)), (ys.foldl (fun acc z => putL acc z true) a).length ≤ ys.length + a.length by
    have h2 := h xs []
    unfold dcL
    simpa using h2
  intro ys
  induction ys with
  | nil => intro a; simp
  | cons y ys ih =>
    intro a
    have h1 := ih (putL a y true)
    have h2 := putL_len a y true
    simp only [List.foldl_cons, List.length_cons]
    omega
theorem asc_ok {xs : List Int} (hl : xs.length ≤ 60) : ∃ A, f_ascending xs = some A ∧ (∀ x, x ∈ A ↔ x ∈ xs) ∧ A.length ≤ xs.length := by
  have h1 := len_dcL xs
  unfold f_ascending keysO
  have hz : (dcL (fun z1 => z1) (fun _ => true) xs).length ≤ sizeLine := show (dcL (fun z1 => z1) (fun _ => true) xs).length ≤ 2 ^ 24 by omega
  rw [if_pos hz]
  refine ⟨_, rfl, fun x => ?_, ?_⟩
  · rw [(sortI_perm _).mem_iff, ← inA_mem, mem_dcL]
  · rw [(sortI_perm _).length_eq, List.length_map]
    exact h1
theorem minL_some {xs : List Int} {x : Int} (h : x ∈ xs) : ∃ m, minL xs = some m := by
  cases xs with
  | nil => cases h
  | cons a r => exact ⟨_, rfl⟩
theorem maxL_some {xs : List Int} {x : Int} (h : x ∈ xs) : ∃ m, maxL xs = some m := by
  cases xs with
  | nil => cases h
  | cons a r => exact ⟨_, rfl⟩
theorem Tab.lst {S : List Int} {m : Nat} {T : List (Option Int)} (h : Tab S m T) (v : Int) : (∃ x, At T x = some v) ↔ Lst S m v := by
  constructor
  · rintro ⟨x, hx⟩
    obtain ⟨h1, h2⟩ := h.snd x v hx
    refine ⟨h1, fun u hu e => ?_⟩
    obtain ⟨v', h3, h4⟩ := h.cmp u hu
    rw [e, h2] at h3
    have : ((x : Int)).toNat = x := by omega
    rw [this, hx] at h3
    cases h3
    exact h4
  · rintro ⟨h1, h2⟩
    obtain ⟨v', h3, h4⟩ := h.cmp v h1
    obtain ⟨h5, h6⟩ := h.snd _ v' h3
    have h7 : (((v % m).toNat : Nat) : Int) = v % m := by
      rcases Nat.eq_zero_or_pos m with e | e
      · have hl := h.len
        subst e
        have : T = [] := List.length_eq_zero_iff.mp hl
        subst this
        cases h3
      · exact Int.toNat_of_nonneg (Int.emod_nonneg _ (by omega))
    rw [h7] at h6
    have := h2 v' h5 h6
    have e : v' = v := by omega
    subst e
    exact ⟨_, h3⟩
theorem Dj.lst {S : List Int} {m : Int} {B : List (Int × Int)} (hs : ∀ z ∈ S, 1 ≤ z) (h : Dj S m B []) (v : Int) : (∃ r, getA B r = some v) ↔ Lst S m v := by
  constructor
  · rintro ⟨r, hr⟩
    exact (h.set r v hr).2
  · rintro ⟨h1, h2⟩
    rcases h.cov hs h1 with h3 | ⟨w, h3, _⟩
    · obtain ⟨v', h4⟩ := (inA_get _ _).mp h3
      obtain ⟨h5, h6, h7⟩ := h.set _ _ h4
      have a := h2 v' h6 h5
      have b := h7 v h1 h5.symm
      have e : v' = v := by omega
      subst e
      exact ⟨_, h4⟩
    · cases h3
theorem vals_ok {B : List (Int × Int)} (hl : B.length ≤ 720) : ∃ ys, valsO B = some ys ∧ ∀ v, v ∈ ys ↔ ∃ r, getA B r = some v := by
  unfold valsO
  have hz : B.length < sizeLine := show B.length < 2 ^ 24 by omega
  rw [if_pos hz]
  have has : ∀ p ∈ B, ∃ v, getA B p.1 = some v := fun p hp => (inA_get _ _).mp ((inA_mem _ _).mpr (List.mem_map_of_mem hp))
  refine ⟨_, mpO_tot (fun p => (getA B p.1).getD 0) (fun p hp => ?_), fun v => ?_⟩
  · obtain ⟨v, hv⟩ := has p hp
    rw [hv]
    rfl
  · rw [List.mem_map]
    constructor
    · rintro ⟨p, hp, e⟩
      obtain ⟨v', hv⟩ := has p hp
      rw [hv] at e
      exact ⟨p.1, by rw [hv, ← e]; rfl⟩
    · rintro ⟨r, hr⟩
      have h1 := (inA_mem _ _).mp ((inA_get _ _).mpr ⟨v, hr⟩)
      obtain ⟨p, hp, e⟩ := List.mem_map.mp h1
      exact ⟨p, hp, by rw [e, hr]; rfl⟩
theorem pat_ok {S : List Int} {m : Nat} {T : List (Option Int)} (hm : minL S = some (m : Int)) (h1 : ∀ z ∈ S, 1 ≤ z ∧ z ≤ 720) (hl : S.length ≤ 60) (hT : Tab S m T) :
    ∃ p : Int × Int, f_law_pattern S T = some p ∧ (∀ b, f_sum_pattern (b, S) = some p) ∧ 0 ≤ p.1 ∧ p.1 ≤ 720 := by
  obtain ⟨hmem, hmin⟩ := minL_is hm
  have hm1 := h1 _ hmem
  have hs : ∀ z ∈ S, 1 ≤ z := fun z hz => (h1 z hz).1
  generalize hg : gS S = g
  have hdv : ∀ z ∈ S, g ∣ z.natAbs := by rw [← hg]; exact gS_dvd
  have hgm : g ∣ m := by simpa using hdv _ hmem
  have hgp : 0 < g := Nat.pos_of_dvd_of_pos hgm (by omega)
  have hgl : g ≤ m := Nat.le_of_dvd (by omega) hgm
  have hgi : (0 : Int) < g := by omega
  -- the numbers lowered
  have hlow : ∀ z ∈ S, ∃ y : Int, z = g * y ∧ z / g = y ∧ 1 ≤ y ∧ y ≤ 720 := by
    intro z hz
    obtain ⟨k, hk⟩ := hdv z hz
    have hz1 := h1 z hz
    have e : z = (g : Int) * k := by
      have : (z.natAbs : Int) = ((g * k : Nat) : Int) := by rw [hk]
      push_cast at this
      omega
    refine ⟨k, e, by rw [e]; exact Int.mul_ediv_cancel_left _ (by omega), ?_, ?_⟩
    · rcases Nat.eq_zero_or_pos k with h | h
      · subst h; simp at e; omega
      · omega
    · have : 1 * (k : Int) ≤ g * k := Int.mul_le_mul_of_nonneg_right (by omega) (by omega)
      omega
  obtain ⟨A, a1, a2, a3⟩ := asc_ok (xs := S.map fun z => z / (g : Int)) (by simpa using hl)
  have aS : ∀ y, y ∈ A ↔ ∃ z ∈ S, z = g * y := by
    intro y
    rw [a2, List.mem_map]
    constructor
    · rintro ⟨z, hz, e⟩
      obtain ⟨y', e1, e2, _⟩ := hlow z hz
      exact ⟨z, hz, by rw [← e, e2]; exact e1⟩
    · rintro ⟨z, hz, e⟩
      refine ⟨z, hz, ?_⟩
      rw [e]
      exact Int.mul_ediv_cancel_left _ (by omega)
  have aB : ∀ y ∈ A, 1 ≤ y ∧ y ≤ 720 := by
    intro y hy
    obtain ⟨z, hz, e⟩ := (aS y).mp hy
    obtain ⟨y', e1, e2, e3⟩ := hlow z hz
    have : y = y' := by rw [← e2, e, Int.mul_ediv_cancel_left _ (by omega)]
    rw [this]
    exact e3
  obtain ⟨m0, em0⟩ := hgm
  have hm0 : (m : Int) = g * (m0 : Int) := by rw [em0]; push_cast; rfl
  have m0A : (m0 : Int) ∈ A := (aS _).mpr ⟨m, hmem, hm0⟩
  obtain ⟨m1, hmA⟩ := minL_some m0A
  obtain ⟨q1, q2⟩ := minL_is hmA
  have hm01 : m1 = m0 := by
    have h3 := q2 _ m0A
    obtain ⟨z, hz, e⟩ := (aS _).mp q1
    have h4 := hmin z hz
    rw [e, hm0] at h4
    have := Int.le_of_mul_le_mul_left h4 hgi
    omega
  subst hm01
  obtain ⟨B, b1, b2, b3⟩ := least_ok hmA aB (by rw [List.length_map] at a3; omega)
  obtain ⟨ys, y1, y2⟩ := vals_ok b3
  have sm1 : ∀ w, Sm A w → Sm S (g * w) := by
    intro w hw
    induction hw with
    | zero => simpa using Sm.zero
    | step _ hz ih =>
      obtain ⟨z, hz, e⟩ := (aS _).mp hz
      rw [Int.mul_add, ← e]
      exact ih.step hz
  have sm2 : ∀ v, Sm S v → ∃ w, v = g * w ∧ Sm A w := by
    intro v hv
    induction hv with
    | zero => exact ⟨0, by simp, .zero⟩
    | step _ hz ih =>
      obtain ⟨w, e, hw⟩ := ih
      obtain ⟨y, e1, _⟩ := hlow _ hz
      exact ⟨w + y, by rw [Int.mul_add, ← e, ← e1], hw.step ((aS y).mpr ⟨_, hz, e1⟩)⟩
  have lst1 : ∀ w, Lst A m0 w → Lst S m (g * w) := by
    rintro w ⟨h3, h4⟩
    refine ⟨sm1 w h3, fun u hu e => ?_⟩
    obtain ⟨u', rfl, hu'⟩ := sm2 u hu
    rw [hm0, Int.mul_emod_mul_of_pos _ _ hgi, Int.mul_emod_mul_of_pos _ _ hgi] at e
    have := Int.eq_of_mul_eq_mul_left (by omega) e
    exact Int.mul_le_mul_of_nonneg_left (h4 u' hu' this) (by omega)
  have lst2 : ∀ v, Lst S m v → ∃ w, v = g * w ∧ Lst A m0 w := by
    rintro v ⟨h3, h4⟩
    obtain ⟨w, rfl, hw⟩ := sm2 v h3
    refine ⟨w, rfl, hw, fun u hu e => ?_⟩
    have := h4 (g * u) (sm1 u hu) (by rw [hm0, Int.mul_emod_mul_of_pos _ _ hgi, Int.mul_emod_mul_of_pos _ _ hgi, e])
    exact Int.le_of_mul_le_mul_left this hgi
  -- the values
  have hA1 : ∀ z ∈ A, 1 ≤ z := fun z hz => (aB z hz).1
  have zA : Lst A m0 0 := ⟨.zero, fun u hu _ => hu.nn hA1⟩
  have memY : ∀ v, v ∈ ys ↔ Lst A m0 v := fun v => (y2 v).trans (b2.lst hA1 v)
  obtain ⟨M, hM⟩ := maxL_some ((memY 0).mpr zA)
  obtain ⟨M1, M2⟩ := maxL_is hM
  have hvs : flO (fun (z6 : Option Int) => some (!z6.isNone)) (fun (z6 : Option Int) => (z6).bind fun t10 => some t10) T = some (T.filterMap id) := by
    unfold flO
    refine fmO_tot id fun o _ => ?_
    cases o <;> rfl
  have memT : ∀ v, v ∈ T.filterMap id ↔ Lst S m v := by
    intro v
    rw [← hT.lst v, List.mem_filterMap]
    constructor
    · rintro ⟨o, ho, e⟩
      have e : o = some v := e
      subst e
      obtain ⟨i, hi, e⟩ := List.getElem_of_mem ho
      refine ⟨i, ?_⟩
      unfold At
      rw [List.getD_eq_getElem?_getD, List.getElem?_eq_getElem hi, e]
      rfl
    · rintro ⟨x, hx⟩
      unfold At at hx
      rw [List.getD_eq_getElem?_getD] at hx
      cases h3 : T[x]? with
      | none => rw [h3] at hx; cases hx
      | some o =>
        rw [h3] at hx
        have hx : o = some v := hx
        subst hx
        exact ⟨some v, List.mem_of_getElem? h3, rfl⟩
  have gM : g * M ∈ T.filterMap id := (memT _).mpr (lst1 M ((memY M).mp M1))
  obtain ⟨N, hN⟩ := maxL_some gM
  obtain ⟨N1, N2⟩ := maxL_is hN
  have hNM : N = g * M := by
    have h3 := N2 _ gM
    obtain ⟨w, e, hw⟩ := lst2 N ((memT N).mp N1)
    have h4 := M2 w ((memY w).mpr hw)
    have h5 := Int.mul_le_mul_of_nonneg_left h4 (show (0 : Int) ≤ g by omega)
    omega
  refine ⟨((g : Int), (N - m) + g), ?_, fun b => ?_, by simp only; omega, by simp only; omega⟩
  · unfold f_law_pattern
    obtain ⟨s, k1, k2⟩ := forF_list (ρ := Empty) (xs := S) (f := fun (z2 : Int) (s1 : Int) => (f_law_gcd z2 s1).bind fun t5 => some (.nx t5)) (s := 0) (fun pre s => s = (gS pre : Int) ∧ s ≤ 720) ⟨rfl, by omega⟩ (fun pre z post s e ⟨i1, i2⟩ => by
      subst i1
      have hz := h1 z (by rw [e]; simp)
      obtain ⟨zn, rfl⟩ : ∃ zn : Nat, z = zn := ⟨z.toNat, by omega⟩
      refine ⟨_, by rw [law_gcd (by omega)]; rfl, ?_, ?_⟩
      · rw [gS_snoc, Nat.gcd_comm]
        rfl
      · have := Nat.gcd_le_left (gS pre) (show 0 < zn by omega)
        omega)
    obtain ⟨rfl, _⟩ := k2
    rw [hg] at k1
    have k1 : forF (ρ := Empty) (fun (z2 : Int) (s1 : Int) => (f_law_gcd z2 s1).bind fun t5 => some (.nx t5)) S 0 = some (.nx (g : Int)) := k1
    rw [k1, Option.bind_some, aft_nx, hvs, Option.bind_some, hN, Option.bind_some, hm, Option.bind_some]
  · unfold f_sum_pattern
    rw [step_ok, hg, Option.bind_some]
    have e1 : mpO (fun (z2 : Int) => (divO z2 g).bind fun t6 => some t6) (b, S).2 = some (S.map fun z => z / (g : Int)) := mpO_tot _ fun z hz => by
      rw [divO_p (by omega) (by omega)]
      rfl
    rw [e1, Option.bind_some, a1, Option.bind_some, b1, Option.bind_some, y1, Option.bind_some, hM, Option.bind_some, hmA, Option.bind_some, mulO_r (by omega), Option.bind_some, hNM, hm0]
    congr 2
    rw [Int.add_mul, Int.sub_mul, Int.mul_comm M, Int.mul_comm (m0 : Int)]
    omega
end K72

/-! plain law, part 10: the two judges -/
namespace K72
open PySem L2 Gx
theorem data_ints : ∀ S : List Int, toPs (S.map D.int) = some (S.map PyData.int) ∧ PyData.canLayAll0 (S.map PyData.int) = true ∧ PyData.depthAll (S.map PyData.int) = 0
  | [] => ⟨rfl, rfl, rfl⟩
  | z :: S => by
    obtain ⟨h1, h2, h3⟩ := data_ints S
    refine ⟨?_, ?_, ?_⟩
    · simp only [List.map_cons, toPs, toP, Option.bind_some, h1, Option.map_some]
    · simp only [List.map_cons, PyData.canLayAll0, PyData.canLay0, h2, Bool.and_self]
    · simp only [List.map_cons, PyData.depthAll, PyData.depth, h3, Nat.max_self]
theorem eqO_refl {d : D} {p : PyData} (h : toP d = some p) (h2 : p.canLay0 = true) (h3 : p.depth ≤ 64) : eqO d d = some true := by
  unfold eqO
  rw [h]
  have hs : SeqAt.shaped p = true := by
    unfold SeqAt.shaped
    rw [h2, decide_eq_true h3]
    rfl
  simp only [Option.bind_some]
  rw [if_pos ⟨hs, hs⟩, SeqAt.eqv_refl p h2]
theorem eqO_ints (S : List Int) : eqO (D.lst (S.map D.int)) (D.lst (S.map D.int)) = some true := by
  obtain ⟨h1, h2, h3⟩ := data_ints S
  refine eqO_refl (p := .list (S.map PyData.int)) (by simp [toP, h1]) (by simp [PyData.canLay0, h2]) (by simp [PyData.depth, h3])
theorem eqO_pair (a b : Int) : eqO (encP2 D.int D.int (a, b)) (encP2 D.int D.int (a, b)) = some true := by
  refine eqO_refl (p := .tuple [.int a, .int b]) rfl rfl ?_
  simp [PyData.depth, PyData.depthAll]
theorem isi_ll : kitB "list" "list" = some true := by decide +kernel
theorem isi_tl : kitB "tuple" "list" = some false := by decide +kernel
theorem isi_tt : kitB "tuple" "tuple" = some true := by decide +kernel
theorem isi_ii : kitB "int" "int" = some true := by decide +kernel
theorem isi_ib : kitB "int" "bool" = some false := by decide +kernel
theorem isi_q (b : Bool) (S : List Int) : isiD "list" (encQ D.int (b, S)) = some b := by
  cases b
  · exact isi_tl
  · exact isi_ll
theorem whole_int (i : Int) : f_law_whole (D.int i) = some true := by
  unfold f_law_whole isiD
  simp only [tyD, Option.bind_some, isi_ii, isi_ib, andO, Bool.not_false, if_true]
/-- the numbers of a law -/
structure Good (S : List Int) : Prop where
  b : ∀ z ∈ S, 1 ≤ z ∧ z ≤ 720
  l : S.length ≤ 60
  n : S ≠ []
theorem row_right {S : List Int} {m : Nat} {T : List (Option Int)} (G : Good S) (hm : minL S = some (m : Int)) (hT : Tab S m T) (b : Bool) {n : Int} (h0 : 0 ≤ n) (h1 : n ≤ 20000) : f_law_row_right (b, S) S T n = some true := by
  obtain ⟨hmem, _⟩ := minL_is hm
  have hm1 := G.b _ hmem
  have hs : ∀ z ∈ S, 1 ≤ z := fun z hz => (G.b z hz).1
  obtain ⟨k, rfl⟩ : ∃ k : Nat, n = k := ⟨n.toNat, by omega⟩
  obtain ⟨x, hx⟩ : ∃ x : Nat, (k : Int) % (m : Int) = x := ⟨((k : Int) % m).toNat, (Int.toNat_of_nonneg (Int.emod_nonneg _ (by omega))).symm⟩
  have hxm : x < m := by
    have := Int.emod_lt_of_pos (k : Int) (show (0 : Int) < m by omega)
    omega
  unfold f_law_row_right
  rw [hT.len, modO_p (by omega), Option.bind_some, hx, atI_At (by rw [hT.len]; exact hxm), Option.bind_some, isi_q, Option.bind_some]
  have e1 : ifO b (some ((true, (b, S).2) : Bool × List Int)) (some ((false, (b, S).2) : Bool × List Int)) = some (b, S) := by
    cases b <;> rfl
  rw [e1, Option.bind_some]
  have sums : Sm S k ↔ ∃ v, At T x = some v ∧ v ≤ k := by
    constructor
    · intro h
      obtain ⟨v, h2, h3⟩ := hT.cmp k h
      rw [hx] at h2
      exact ⟨v, by simpa using h2, h3⟩
    · rintro ⟨v, h2, h3⟩
      obtain ⟨h4, h5⟩ := hT.snd x v h2
      have h6 : (m : Int) ∣ k - v := by
        apply Int.dvd_of_emod_eq_zero
        rw [Int.sub_emod, hx, h5]
        simp
      obtain ⟨c, hc⟩ := h6
      have hc0 : 0 ≤ c := by
        rcases Int.lt_or_le c 0 with h | h
        · have : (m : Int) * c < 0 := Int.mul_neg_of_pos_of_neg (by omega) h
          omega
        · exact h
      have := h4.muls hmem c.toNat
      rw [Int.toNat_of_nonneg hc0, Int.mul_comm c, ← hc, show v + ((k : Int) - v) = k by omega] at this
      exact this
  have due : ((orO (At T x).isNone ((At T x).bind fun t7 => some (decide ((k : Int) < t7))))) = some (!decide (∃ v, At T x = some v ∧ v ≤ (k : Int))) := by
    cases h : At T x with
    | none => simp [orO]
    | some v =>
      by_cases h2 : (k : Int) < v
      · have : ¬ v ≤ (k : Int) := by omega
        simp [orO, h2, this]
      · have : v ≤ (k : Int) := by omega
        simp [orO, h2, this]
  rcases row_ok (b := b) (n := k) hs (by omega) with ⟨h2, h3⟩ | ⟨h2, row, h3, h4, h5, h6⟩
  · rw [h3, Option.bind_some]
    show ((eqO (D.lst (S.map D.int)) (D.lst (S.map D.int))).bind _) = _
    rw [eqO_ints, Option.bind_some, due, Option.bind_some]
    have : ¬ ∃ v, At T x = some v ∧ v ≤ (k : Int) := fun h => h2 (sums.mpr h)
    simp [this]
  · rw [h3, Option.bind_some]
    show ((eqO (D.lst (S.map D.int)) (D.lst (S.map D.int))).bind _) = _
    rw [eqO_ints, Option.bind_some, due, Option.bind_some]
    have hd : ∃ v, At T x = some v ∧ v ≤ (k : Int) := sums.mp h2
    have e2 : isiD "tuple" ((encO (encT D.int)) (some row)) = some true := isi_tt
    have e3 : (!decide (∃ v, At T x = some v ∧ v ≤ (k : Int))) = false := by simp [hd]
    rw [e3, e2]
    simp only [Bool.not_true, Bool.false_eq_true, if_false, Option.bind_some]
    obtain ⟨s, k1, k2, k3⟩ := forF_list (ρ := Bool) (xs := row) (f := fun (z12 : Int) (s11 : Int × Int) =>
          (f_law_whole (D.int z12)).bind fun t15 =>
          if ((!t15 || (decide (z12 < s11.1) || !inI z12 S))) = true then
            some (.rt false)
          else
            some (.nx ((z12, (s11.2 + z12))))) (s := (0, 0)) (fun pre s => s.2 = pre.sum ∧ (s.1 = 0 ∨ s.1 ∈ pre)) ⟨rfl, .inl rfl⟩ (fun pre z post s e ⟨i1, i2⟩ => by
        have hz : z ∈ row := by rw [e]; simp
        have hzS := h4 z hz
        have hz1 := hs z hzS
        have hle : s.1 ≤ z := by
          rcases i2 with h | h
          · omega
          · rw [e] at h6
            exact (List.pairwise_append.mp h6).2.2 s.1 h z List.mem_cons_self
        have e5 : inI z S = true := by
          unfold inI
          rw [List.any_eq_true]
          exact ⟨z, hzS, by simp⟩
        refine ⟨(z, s.2 + z), ?_, by simp [i1], .inr (by simp)⟩
        have : ¬ z < s.1 := by omega
        simp [whole_int, this, e5])
    rw [k1, Option.bind_some, aft_nx, k2, h5]
    simp
theorem pattern_right {S : List Int} {p : Int × Int} (b : Bool) (h : f_sum_pattern (b, S) = some p) : f_law_pattern_right (b, S) S p = some true := by
  unfold f_law_pattern_right
  rw [h, Option.bind_some]
  have e2 : isiD "tuple" ((encP2 D.int D.int) p) = some true := isi_tt
  rw [e2, Option.bind_some]
  obtain ⟨p1, p2⟩ := p
  simp only [whole_int, orO, Bool.not_true, Bool.false_eq_true, if_false, Option.bind_some, decide_true]
  rw [eqO_pair]
  simp only [Option.bind_some, andO, if_true]
  show ((eqO (D.lst (S.map D.int)) (D.lst (S.map D.int))).bind _).bind _ = _
  rw [eqO_ints]
  rfl
end K72

/-! plain law, part 11: the drawing of the numbers -/
namespace K72
open PySem L2 Gx
theorem cell_ok {s : List Int} {k : Int} (h0 : 0 ≤ k) (h1 : k ≤ 63) : ∃ c, f_law_cell s k = some c := by
  unfold f_law_cell
  by_cases h : k < (s.length : Int)
  · rw [if_pos (decide_eq_true h), atI_p h0 h]
    exact ⟨_, rfl⟩
  · rw [if_neg (by simp; omega)]
    obtain ⟨t, k1, _⟩ := forF_list (ρ := Empty) (xs := s) (f := fun (z3 : Int) (s2 : Int) =>
      (mulO s2 31).bind fun t6 =>
      (modO z3 1000003).bind fun t7 =>
      (modO ((t6 + t7)) 1000003).bind fun t8 =>
      some (.nx t8)) (s := 17) (fun _ _ => True) True.intro (fun pre z post s _ _ => by
        rw [mulO_r (by omega), Option.bind_some, modO_p (by omega), Option.bind_some, modO_p (by omega)]
        exact ⟨_, rfl, True.intro⟩)
    rw [k1, Option.bind_some, aft_nx, mulO_r (by omega), Option.bind_some, mulO_r (by omega), Option.bind_some, modO_p (by omega)]
    exact ⟨_, rfl⟩
/-- digits of the sizes -/
def Dg (zs row : List Int) : Prop := row.length = zs.length ∧ ∀ i, i < zs.length → 0 ≤ row.getD i 0 ∧ row.getD i 0 < zs.getD i 0
theorem getD_app_l {xs ys : List Int} {i : Nat} (h : i < xs.length) : (xs ++ ys).getD i 0 = xs.getD i 0 := by
  rw [List.getD_eq_getElem?_getD, List.getD_eq_getElem?_getD, List.getElem?_append_left h]
theorem getD_app_m {xs ys : List Int} {y : Int} : (xs ++ y :: ys).getD xs.length 0 = y := by
  rw [List.getD_eq_getElem?_getD, List.getElem?_append_right (Nat.le_refl _)]
  simp
theorem digits_ok {c : Int} {zs : List Int} (hz : ∀ z ∈ zs, 1 ≤ z ∧ z < 1073741824) (hl : zs.length ≤ 1000) : ∃ row, f_law_digits c zs = some row ∧ Dg zs row := by
  unfold f_law_digits
  have e0 : powO 10 18 = some 1000000000000000000 := by decide
  rw [e0, Option.bind_some]
  split
  · rw [Option.bind_some]
    obtain ⟨t, k1, k2, k3⟩ := forF_list (ρ := Empty) (xs := zs) (f := fun (z4 : Int) (s3 : Int × (List Int)) =>
      (modO s3.1 z4).bind fun t7 =>
      (appO s3.2 t7).bind fun t8 =>
      (divO s3.1 z4).bind fun t9 =>
      some (.nx ((t9, t8)))) (s := (c - 1000000000000000000, [])) (fun pre s => s.2.length = pre.length ∧ ∀ i, i < pre.length → 0 ≤ s.2.getD i 0 ∧ s.2.getD i 0 < zs.getD i 0) ⟨rfl, fun i hi => by simp at hi⟩ (fun pre z post s e ⟨i1, i2⟩ => by
        have h1 := hz z (by rw [e]; simp)
        have hp : pre.length < zs.length := by rw [e]; simp
        refine ⟨(s.1 / z, s.2 ++ [s.1 % z]), ?_, by simp [i1], fun i hi => ?_⟩
        · rw [modO_p (by omega), Option.bind_some, appO_p (by omega), Option.bind_some, divO_p (by omega) (by omega)]
          rfl
        · simp at hi
          by_cases h2 : i < pre.length
          · rw [getD_app_l (by rw [i1]; exact h2)]
            exact i2 i h2
          · have h3 : i = pre.length := by omega
            subst h3
            have h4 : (s.2 ++ [s.1 % z]).getD pre.length 0 = s.1 % z := by
              rw [← i1]
              exact getD_app_m
            have h5 : zs.getD pre.length 0 = z := by rw [e]; exact getD_app_m
            rw [h4, h5]
            exact ⟨Int.emod_nonneg _ (by omega), Int.emod_lt_of_pos _ (by omega)⟩)
    rw [k1, Option.bind_some, aft_nx]
    exact ⟨_, rfl, k2, k3⟩
  · rw [modO_p (by omega), Option.bind_some, rgO_p (by omega), Option.bind_some]
    obtain ⟨t, k1, k2, k3⟩ := forF_range (ρ := Empty) (lo := 0) (hi := (zs.length : Int)) (f := fun (z13 : Int) (s12 : Int × (List Int)) =>
      (mulO s12.1 48271).bind fun t16 =>
      (mulO 974711 z13).bind fun t17 =>
      (modO (((t16 + t17) + 12345)) 2147483647).bind fun t18 =>
      (divO t18 65537).bind fun t19 =>
      (mulO t18 ((t19 + 3))).bind fun t20 =>
      (modO t20 2147483629).bind fun t21 =>
      (divO t21 19).bind fun t22 =>
      (atI zs z13).bind fun t23 =>
      (modO t22 t23).bind fun t24 =>
      (appO s12.2 t24).bind fun t25 =>
      some (.nx ((t18, t25)))) (s := (c % 2147483629, [])) (fun n s => s.2.length = n ∧ ∀ i, i < n → 0 ≤ s.2.getD i 0 ∧ s.2.getD i 0 < zs.getD i 0) ⟨rfl, fun i hi => by omega⟩ (fun n s hn ⟨i1, i2⟩ => by
        have hn' : n < zs.length := by omega
        have e1 : atI zs (0 + (n : Int)) = some (zs.getD n 0) := by
          rw [atI_p (by omega) (by omega), List.getD_eq_getElem?_getD, List.getElem?_eq_getElem hn']
          have : ((0 : Int) + n).toNat = n := by omega
          simp [this]
        have h1 : 1 ≤ zs.getD n 0 ∧ zs.getD n 0 < 1073741824 := by
          rw [List.getD_eq_getElem?_getD, List.getElem?_eq_getElem hn']
          exact hz _ (List.getElem_mem _)
        rw [mulO_r (by omega), Option.bind_some, mulO_l (by omega), Option.bind_some, modO_p (by omega), Option.bind_some]
        generalize hg : (s.1 * 48271 + 974711 * (0 + (n : Int)) + 12345) % 2147483647 = g
        have hg1 : 0 ≤ g := by rw [← hg]; exact Int.emod_nonneg _ (by omega)
        have hg2 : g < 2147483647 := by rw [← hg]; exact Int.emod_lt_of_pos _ (by omega)
        rw [divO_p (by omega) (by omega), Option.bind_some, mulO_l (by omega), Option.bind_some, modO_p (by omega), Option.bind_some, divO_p (by omega) (by omega), Option.bind_some, e1, Option.bind_some, modO_p (by omega), Option.bind_some, appO_p (by omega), Option.bind_some]
        refine ⟨_, rfl, by simp [i1], fun i hi => ?_⟩
        by_cases h2 : i < n
        · simp only
          rw [getD_app_l (by rw [i1]; exact h2)]
          exact i2 i h2
        · have h3 : i = n := by omega
          subst h3
          have h4 : ∀ y : Int, (s.2 ++ [y]).getD i 0 = y := by
            intro y
            rw [← i1]
            exact getD_app_m
          simp only [h4]
          exact ⟨Int.emod_nonneg _ (by omega), Int.emod_lt_of_pos _ (by omega)⟩)
    have e2 : ((zs.length : Int) - 0).toNat = zs.length := by omega
    rw [e2] at k2 k3
    rw [k1, Option.bind_some, aft_nx]
    exact ⟨_, rfl, k2, k3⟩
theorem Dg.at {zs row : List Int} (h : Dg zs row) (i : Nat) (hi : i < zs.length) : atI row (i : Int) = some (row.getD i 0) ∧ 0 ≤ row.getD i 0 ∧ row.getD i 0 < zs.getD i 0 := by
  refine ⟨?_, h.2 i hi⟩
  rw [atI_p (by omega) (by rw [h.1]; omega), List.getD_eq_getElem?_getD]
  simp [List.getElem?_eq_getElem (show i < row.length by rw [h.1]; exact hi)]
theorem rep_ok {z : Int} {k : Int} (h0 : 0 ≤ k) (h1 : k ≤ 1000) : repO [z] k = some (List.replicate k.toNat z) := by
  unfold repO
  have hz : -(2 ^ 63) ≤ k ∧ k < 2 ^ 63 ∧ [z].length * k.toNat ≤ sizeLine := ⟨by omega, by omega, show [z].length * k.toNat ≤ 2 ^ 24 by simp; omega⟩
  rw [if_pos hz]
  congr 1
  generalize k.toNat = n
  induction n with
  | zero => rfl
  | succ n ih => rw [List.replicate_succ, List.replicate_succ, List.flatten_cons, ih]; rfl
theorem Dg.rep {z : Int} {n : Nat} {row : List Int} (h : Dg (List.replicate n z) row) : row.length = n ∧ ∀ k ∈ row, 0 ≤ k ∧ k < z := by
  obtain ⟨h1, h2⟩ := h
  rw [List.length_replicate] at h1 h2
  refine ⟨h1, fun k hk => ?_⟩
  obtain ⟨i, hi, rfl⟩ := List.getElem_of_mem hk
  have := h2 i (by omega)
  rw [List.getD_eq_getElem?_getD, List.getElem?_eq_getElem hi, List.getD_eq_getElem?_getD, List.getElem?_replicate, if_pos (by omega)] at this
  exact this
theorem sizes_ok (s : List Int) : ∃ S, f_law_sizes s = some S ∧ Good S := by
  obtain ⟨c0, e0⟩ := cell_ok (s := s) (k := 0) (by omega) (by omega)
  obtain ⟨c1, e1⟩ := cell_ok (s := s) (k := 1) (by omega) (by omega)
  obtain ⟨hd, e2, h2⟩ := digits_ok (c := c0) (zs := [6, 8, 60, 30, 700]) (by intro z hz; simp at hz; rcases hz with rfl | rfl | rfl | rfl | rfl <;> omega) (by simp)
  unfold f_law_sizes
  obtain ⟨a0, b0, d0⟩ := h2.at 0 (by simp)
  obtain ⟨a1, b1, d1⟩ := h2.at 1 (by simp)
  obtain ⟨a2, b2, d2⟩ := h2.at 2 (by simp)
  obtain ⟨a3, b3, d3⟩ := h2.at 3 (by simp)
  obtain ⟨a4, b4, d4⟩ := h2.at 4 (by simp)
  generalize hd.getD 0 0 = y0 at a0 b0 d0
  generalize hd.getD 1 0 = y1 at a1 b1 d1
  generalize hd.getD 2 0 = y2 at a2 b2 d2
  generalize hd.getD 3 0 = y3 at a3 b3 d3
  generalize hd.getD 4 0 = y4 at a4 b4 d4
  have a0 : atI hd 0 = some y0 := a0
  have a1 : atI hd 1 = some y1 := a1
  have a2 : atI hd 2 = some y2 := a2
  have a3 : atI hd 3 = some y3 := a3
  have a4 : atI hd 4 = some y4 := a4
  have d0 : y0 < 6 := d0
  have d1 : y1 < 8 := d1
  have d2 : y2 < 60 := d2
  have d3 : y3 < 30 := d3
  have d4 : y4 < 700 := d4
  obtain ⟨many, em, m1, m2⟩ : ∃ many, atI ([1, 2, 3, 2, 4, 6, 12, (y2 + 1)]) y1 = some many ∧ 1 ≤ many ∧ many ≤ 60 := by
    rcases (show y1 = 0 ∨ y1 = 1 ∨ y1 = 2 ∨ y1 = 3 ∨ y1 = 4 ∨ y1 = 5 ∨ y1 = 6 ∨ y1 = 7 by omega) with h | h | h | h | h | h | h | h <;> subst h
    · exact ⟨1, rfl, by omega, by omega⟩
    · exact ⟨2, rfl, by omega, by omega⟩
    · exact ⟨3, rfl, by omega, by omega⟩
    · exact ⟨2, rfl, by omega, by omega⟩
    · exact ⟨4, rfl, by omega, by omega⟩
    · exact ⟨6, rfl, by omega, by omega⟩
    · exact ⟨12, rfl, by omega, by omega⟩
    · exact ⟨y2 + 1, rfl, by omega, by omega⟩
  obtain ⟨row, e3, h3⟩ := digits_ok (c := c1) (zs := List.replicate many.toNat 720) (fun z hz => by rw [List.eq_of_mem_replicate hz]; omega) (by simp; omega)
  obtain ⟨r1, r2⟩ := h3.rep
  rw [e0, Option.bind_some, e2, Option.bind_some, a2, Option.bind_some, a1, Option.bind_some, em, Option.bind_some, e1, Option.bind_some, rep_ok (by omega) (by omega), Option.bind_some, e3, Option.bind_some]
  simp only [a0, Option.bind_some]
  have fin : ∀ (f : Int → Option Int), (∀ x ∈ row, ∃ y, f x = some y ∧ (1 ≤ y ∧ y ≤ 720)) → ∃ S, ((mpO f row).bind fun t => some t) = some S ∧ Good S := by
    intro f hf
    obtain ⟨ys, k1, k2, k3⟩ := mpO_all (fun y => 1 ≤ y ∧ y ≤ 720) hf
    refine ⟨ys, by rw [k1]; rfl, k3, by omega, ?_⟩
    intro e
    subst e
    simp at k2
    omega
  split
  · exact fin _ fun x hx => ⟨_, rfl, by have := r2 x hx; omega⟩
  · split
    · rw [a3, Option.bind_some]
      refine fin _ fun x hx => ?_
      have h5 := r2 x hx
      have q1 : 1 ≤ 720 / (y3 + 2) := by
        have := Int.ediv_mul_le 720 (show y3 + 2 ≠ 0 by omega)
        have h6 := Int.lt_ediv_add_one_mul_self 720 (show 0 < y3 + 2 by omega)
        rcases Int.lt_or_le (720 / (y3 + 2)) 1 with h | h
        · have h7 : (720 / (y3 + 2) + 1) * (y3 + 2) ≤ 1 * (y3 + 2) := Int.mul_le_mul_of_nonneg_right (by omega) (by omega)
          omega
        · exact h
      rw [divO_p (by omega) (by omega), Option.bind_some, modO_p (by omega), Option.bind_some, mulO_l (by omega), Option.bind_some]
      refine ⟨_, rfl, ?_⟩
      have q2 := Int.emod_nonneg x (show 720 / (y3 + 2) ≠ 0 by omega)
      have q3 := Int.emod_lt_of_pos x (show 0 < 720 / (y3 + 2) by omega)
      have q4 : (y3 + 2) * 1 ≤ (y3 + 2) * (1 + x % (720 / (y3 + 2))) := Int.mul_le_mul_of_nonneg_left (by omega) (by omega)
      have q5 : (y3 + 2) * (1 + x % (720 / (y3 + 2))) ≤ (y3 + 2) * (720 / (y3 + 2)) := Int.mul_le_mul_of_nonneg_left (by omega) (by omega)
      have q6 := Int.mul_ediv_self_le (x := 720) (show y3 + 2 ≠ 0 by omega)
      omega
    · split
      · refine fin _ fun x hx => ?_
        rw [modO_p (by omega)]
        exact ⟨_, rfl, by omega⟩
      · split
        · refine fin _ fun x hx => ?_
          rw [modO_p (by omega)]
          exact ⟨_, rfl, by omega⟩
        · split
          · refine fin _ fun x hx => ?_
            rw [modO_p (by omega), Option.bind_some]
            have q1 := Int.emod_nonneg x (show (17 : Int) ≠ 0 by omega)
            have q2 := Int.emod_lt_of_pos x (show (0 : Int) < 17 by omega)
            rw [atI_p q1 (by simp; omega)]
            refine ⟨_, rfl, ?_⟩
            have : ∀ y ∈ ([6, 2, 3, 4, 5, 6, 8, 10, 12, 15, 20, 24, 30, 40, 60, 120, 1] : List Int), 1 ≤ y ∧ y ≤ 720 := by decide
            exact this _ (List.getElem_mem _)
          · simp only [a4, Option.bind_some]
            refine fin _ fun x hx => ?_
            have h5 := r2 x hx
            rw [modO_p (by omega), Option.bind_some, divO_p (by omega) (by omega), Option.bind_some, modO_p (by omega), Option.bind_some, mulO_l (by omega), Option.bind_some]
            refine ⟨_, rfl, ?_⟩
            rcases (show x % 2 = 0 ∨ x % 2 = 1 by omega) with h | h <;> rw [h] <;> omega
end K72

/-! plain law, part 12: the counts, the law -/
namespace K72
open PySem L2 Gx
theorem counts_ok (s : List Int) {S : List Int} (G : Good S) {p : Int × Int} (hp : 0 ≤ p.1 ∧ p.1 ≤ 720) : ∃ C, f_law_counts s S p = some C ∧ (∀ k ∈ C, 0 ≤ k ∧ k ≤ 20000) ∧ 2 ≤ C.length ∧ C.length ≤ 100 := by
  obtain ⟨c2, e0⟩ := cell_ok (s := s) (k := 2) (by omega) (by omega)
  obtain ⟨c3, e1⟩ := cell_ok (s := s) (k := 3) (by omega) (by omega)
  obtain ⟨hd, e2, h2⟩ := digits_ok (c := c2) (zs := [24, 901, 20001, 7, 4]) (by intro z hz; simp at hz; rcases hz with rfl | rfl | rfl | rfl | rfl <;> omega) (by simp)
  unfold f_law_counts
  obtain ⟨a0, b0, d0⟩ := h2.at 0 (by simp)
  obtain ⟨a1, b1, d1⟩ := h2.at 1 (by simp)
  obtain ⟨a2, b2, d2⟩ := h2.at 2 (by simp)
  obtain ⟨a3, b3, d3⟩ := h2.at 3 (by simp)
  obtain ⟨a4, b4, d4⟩ := h2.at 4 (by simp)
  generalize hd.getD 0 0 = y0 at a0 b0 d0
  generalize hd.getD 1 0 = y1 at a1 b1 d1
  generalize hd.getD 2 0 = y2 at a2 b2 d2
  generalize hd.getD 3 0 = y3 at a3 b3 d3
  generalize hd.getD 4 0 = y4 at a4 b4 d4
  have a0 : atI hd 0 = some y0 := a0
  have a1 : atI hd 1 = some y1 := a1
  have a2 : atI hd 2 = some y2 := a2
  have a3 : atI hd 3 = some y3 := a3
  have a4 : atI hd 4 = some y4 := a4
  have d1 : y1 < 901 := d1
  have d2 : y2 < 20001 := d2
  have d3 : y3 < 7 := d3
  have d4 : y4 < 4 := d4
  obtain ⟨row, e3, h3⟩ := digits_ok (c := c3) (zs := List.replicate (12 : Int).toNat 60) (fun z hz => by rw [List.eq_of_mem_replicate hz]; omega) (by simp)
  rw [e0, Option.bind_some, e2, Option.bind_some, a0, Option.bind_some, e1, Option.bind_some, rep_ok (by omega) (by omega), Option.bind_some, e3, Option.bind_some]
  generalize hmost : (if (decide (y0 = 0)) = true then (20000 : Int) else 900) = most
  have m1 : 900 ≤ most ∧ most ≤ 20000 := by rw [← hmost]; split <;> omega
  have hSl : 0 < S.length := List.length_pos_iff.mpr G.n
  obtain ⟨t, k1, k2⟩ := forF_list (ρ := Empty) (xs := row) (f := fun (z8 : Int) (s7 : Int) =>
    (modO z8 ((S.length : Int))).bind fun t11 =>
    (atI S t11).bind fun t12 =>
    (if (decide (((s7 + t12)) ≤ most)) = true then
      some ((s7 + t12))
    else
      some s7).bind fun (s13 : Int) =>
      some (.nx s13)) (s := 0) (fun _ s => 0 ≤ s ∧ s ≤ most) ⟨by omega, by omega⟩ (fun pre z post s e ⟨i1, i2⟩ => by
        have q1 := Int.emod_nonneg z (show (S.length : Int) ≠ 0 by omega)
        have q2 := Int.emod_lt_of_pos z (show (0 : Int) < S.length by omega)
        rw [modO_p (by omega), Option.bind_some, atI_p q1 q2, Option.bind_some]
        have q3 := G.b _ (List.getElem_mem (show (z % (S.length : Int)).toNat < S.length by omega))
        by_cases h : s + S[(z % (S.length : Int)).toNat]'(by omega) ≤ most
        · rw [if_pos (decide_eq_true h)]
          exact ⟨_, rfl, by omega, h⟩
        · rw [if_neg (by simpa using h)]
          exact ⟨_, rfl, i1, i2⟩)
  rw [k1, Option.bind_some, aft_nx, a4, Option.bind_some, Option.bind_some, a1, Option.bind_some, a3, Option.bind_some, mulO_l (by omega), Option.bind_some, appO_p (by simp), Option.bind_some, Option.bind_some]
  have fin : ∀ (x y : Int) (r : List Int), 0 ≤ x ∧ x ≤ most → 0 ≤ y ∧ y ≤ most → r.length ≤ 50 → ∃ C, ((flO (fun (z23 : Int) => some ((decide (0 ≤ z23) && decide (z23 ≤ most)))) (fun (z23 : Int) => some z23) (x :: y :: r)).bind fun t27 => some t27) = some C ∧ (∀ k ∈ C, 0 ≤ k ∧ k ≤ 20000) ∧ 2 ≤ C.length ∧ C.length ≤ 100 := by
    intro x y r hx hy hr
    have e : flO (fun (z23 : Int) => some ((decide (0 ≤ z23) && decide (z23 ≤ most)))) (fun (z23 : Int) => some z23) (x :: y :: r) = some ((x :: y :: r).filterMap fun z => if 0 ≤ z ∧ z ≤ most then some z else none) := by
      unfold flO
      refine fmO_tot _ fun z _ => ?_
      by_cases h : 0 ≤ z ∧ z ≤ most
      · simp [h]
      · rw [if_neg h]
        have : (decide (0 ≤ z) && decide (z ≤ most)) = false := by
          rw [Bool.and_eq_false_iff]
          by_cases h0 : 0 ≤ z
          · right
            exact decide_eq_false fun h1 => h ⟨h0, h1⟩
          · left
            exact decide_eq_false h0
        simp [this]
    rw [e]
    refine ⟨_, rfl, fun k hk => ?_, ?_, ?_⟩
    · obtain ⟨z, _, hz⟩ := List.mem_filterMap.mp hk
      split at hz
      · cases hz
        omega
      · cases hz
    · rw [List.filterMap_cons, if_pos hx, List.filterMap_cons, if_pos hy]
      simp
    · have := List.length_filterMap_le (fun z => if 0 ≤ z ∧ z ≤ most then some z else none) (x :: y :: r)
      simp at this ⊢
      omega
  by_cases h0 : y0 = 0
  · have hm2 : most = 20000 := by rw [← hmost, if_pos (decide_eq_true h0)]
    rw [if_pos (decide_eq_true h0), a2]
    simp only [Option.bind_some]
    exact fin t y2 _ k2 ⟨b2, by omega⟩ (by simp)
  · rw [if_neg (by simpa using h0)]
    simp only [Option.bind_some, List.cons_append, List.nil_append]
    refine fin t _ _ k2 ?_ (by simp)
    split <;> omega
theorem cut_tail (S : List Int) : cutL S (some 1) none = S.tail := by
  cases S with
  | nil => rfl
  | cons a r =>
    unfold cutL
    have e1 : HT.sIx (a :: r).length 0 (some 1) = 1 := by
      unfold HT.sIx
      simp
    have e2 : HT.sIx (a :: r).length (a :: r).length none = (a :: r).length := rfl
    rw [e1, e2]
    simp
theorem plain (ns : List Int) (h : ns.length ≤ 63) : f_law ns = some true := by
  obtain ⟨S, s1, G⟩ := sizes_ok ns
  have tab : ∀ S, Good S → ∃ (m : Nat) (T : List (Option Int)) (p : Int × Int), minL S = some (m : Int) ∧ f_law_table S = some T ∧ Tab S m T ∧ f_law_pattern S T = some p ∧ (∀ b, f_sum_pattern (b, S) = some p) ∧ 0 ≤ p.1 ∧ p.1 ≤ 720 := by
    intro S G
    obtain ⟨x, hx⟩ := List.exists_mem_of_ne_nil S G.n
    obtain ⟨m, hm⟩ := minL_some hx
    have hm1 := G.b m (minL_is hm).1
    obtain ⟨m, rfl⟩ : ∃ k : Nat, m = k := ⟨m.toNat, by omega⟩
    obtain ⟨T, h1, h2⟩ := law_table hm G.b G.l
    obtain ⟨p, h3, h4⟩ := pat_ok hm G.b G.l h2
    exact ⟨m, T, p, hm, h1, h2, h3, h4⟩
  obtain ⟨m, T, p, t1, t2, t3, t4, t5, t6⟩ := tab S G
  obtain ⟨C, c1, c2, c3, c4⟩ := counts_ok ns G t6
  unfold f_law
  rw [s1, Option.bind_some, t2, Option.bind_some, t4, Option.bind_some, c1, Option.bind_some, pattern_right true (t5 true), Option.bind_some]
  rw [if_neg (by decide), rgO_p (by omega), Option.bind_some]
  have cat : ∀ i : Nat, i < C.length → ∃ c, atI C (i : Int) = some c ∧ 0 ≤ c ∧ c ≤ 20000 := by
    intro i hi
    rw [atI_p (by omega) (by omega)]
    exact ⟨_, rfl, c2 _ (List.getElem_mem _)⟩
  obtain ⟨u, k1, _⟩ := forF_range (ρ := Bool) (lo := 0) (hi := (C.length : Int)) (f := fun (z8 : Int) (s7 : Unit) =>
      (modO z8 2).bind fun t11 =>
      (ifO (decide (t11 = 0)) (some ((true, S))) (some ((false, S)))).bind fun t12 =>
      (atI C z8).bind fun t13 =>
      (f_law_row_right t12 S T t13).bind fun t14 =>
      if (!t14) = true then
        some (.rt false)
      else
        some (.nx (()))) (s := ()) (fun _ _ => True) True.intro (fun i s hi _ => by
        obtain ⟨c, h1, h2, h3⟩ := cat i (by omega)
        rw [modO_p (by omega), Option.bind_some]
        rw [show (0 : Int) + (i : Int) = (i : Int) by omega]
        have e : ifO (decide ((i : Int) % 2 = 0)) (some ((true, S))) (some ((false, S))) = some (decide ((i : Int) % 2 = 0), S) := by
          unfold ifO
          split
          · rename_i hh
            rw [hh]
          · rename_i hh
            simp only [Bool.not_eq_true] at hh
            rw [hh]
        rw [e, Option.bind_some, h1, Option.bind_some, row_right G t1 t3 _ h2 h3]
        exact ⟨(), rfl, True.intro⟩)
  rw [k1, Option.bind_some, aft_nx]
  obtain ⟨c4', e4⟩ := cell_ok (s := ns) (k := 4) (by omega) (by omega)
  rw [e4, Option.bind_some, modO_p (by omega), Option.bind_some, cut_tail]
  have q1 := Int.emod_nonneg c4' (show (720 : Int) ≠ 0 by omega)
  have q2 := Int.emod_lt_of_pos c4' (show (0 : Int) < 720 by omega)
  have q3 : 1 ≤ 1 + c4' % 720 ∧ 1 + c4' % 720 ≤ 720 := by omega
  generalize 1 + c4' % 720 = x at q3 ⊢
  obtain ⟨a, r, rfl⟩ : ∃ a r, S = a :: r := by
    cases S with
    | nil => exact absurd rfl G.n
    | cons a r => exact ⟨a, r, rfl⟩
  have G' : Good (x :: r) := by
    refine ⟨fun z hz => ?_, by have := G.l; simpa using this, by simp⟩
    rcases List.mem_cons.mp hz with rfl | hz
    · exact q3
    · exact G.b z (List.mem_cons_of_mem _ hz)
  obtain ⟨m', T', p', v1, v2, v3, v4, v5, v6⟩ := tab (x :: r) G'
  have hr : r.length ≤ 60 := by
    have := G.l
    simp at this
    omega
  have e5 : catO [x] (a :: r).tail = some (x :: r) := by
    have hz : [x].length + (a :: r).tail.length ≤ sizeLine := show [x].length + (a :: r).tail.length ≤ 2 ^ 24 by simp; omega
    unfold catO
    rw [if_pos hz] <;> rfl
  have e6 : atI (x :: r) 0 = some x := by
    rw [atI_p (by omega) (by simp)] <;> rfl
  have e7 : setO (a :: r) 0 x = some (x :: r) := by
    rw [setO_p (by omega) (by simp)] <;> rfl
  rw [e5, Option.bind_some, v2, Option.bind_some, e6, Option.bind_some, e7, Option.bind_some, v4, Option.bind_some, pattern_right true (v5 true), Option.bind_some]
  rw [if_neg (by decide)]
  obtain ⟨u2, k2, _⟩ := forF_list (ρ := Bool) (xs := ([0, 1] : List Int)) (f := fun (z24 : Int) (s23 : Unit) =>
          (atI C z24).bind fun t27 =>
          (f_law_row_right ((true, (x :: r))) (x :: r) T' t27).bind fun t28 =>
          if (!t28) = true then
            some (.rt false)
          else
            some (.nx (()))) (s := ()) (fun _ _ => True) True.intro (fun pre z post s e _ => by
        have hz : z ∈ ([0, 1] : List Int) := by rw [e]; simp
        obtain ⟨i, rfl, hi⟩ : ∃ i : Nat, z = (i : Int) ∧ i < 2 := by
          simp at hz
          rcases hz with rfl | rfl
          · exact ⟨0, rfl, by omega⟩
          · exact ⟨1, rfl, by omega⟩
        obtain ⟨c, h1, h2, h3⟩ := cat i (by omega)
        rw [h1, Option.bind_some, row_right G' v1 v3 _ h2 h3]
        exact ⟨(), rfl, True.intro⟩)
  rw [k2, Option.bind_some, aft_nx, pattern_right false (t5 false), Option.bind_some]
  obtain ⟨c, h1, h2, h3⟩ := cat 0 (by omega)
  have h1 : atI C 0 = some c := h1
  unfold andO
  rw [if_pos rfl, h1, Option.bind_some, row_right G t1 t3 _ h2 h3]
  rfl
end K72

namespace K72
open PySem L2 PySem.Spec PyProof.Rows Gx
def topS (i : Nat) : Stmt := PySem.Challenge.pw_likemakeslike_k72_sums.main.body.getD i (.Pass ⟨0, 0, 0, 0⟩)
structure MgN (mg : Str → Option Value) : Prop where
  bool : mg "bool" = none
  int : mg "int" = none
  isinstance : mg "isinstance" = none
  len : mg "len" = none
  list : mg "list" = none
  max : mg "max" = none
  min : mg "min" = none
  range : mg "range" = none
  sorted : mg "sorted" = none
  tuple : mg "tuple" = none
  gcd : mg "gcd" = some (.builtin "math.gcd")
  heappop : mg "heappop" = some (.builtin "_heapq.heappop")
  heappush : mg "heappush" = some (.builtin "_heapq.heappush")
section
variable {P : Program} {w : World} {K : PySem.W.Frag} {mg : Str → Option Value} {base : Heap}
theorem sc_last_sizes : FnScope ["sizes", "count", "last", "number", "size"] ["sizes", "count"] (defScope (topS 5)) := ⟨rfl, rfl, rfl, by decide +kernel, rfl, by decide +kernel, by decide +kernel⟩
theorem k_last_sizes {f : Addr} {fd : FuncData} (Fn : Fun K "last_sizes" "last_sizes" (topS 5) f fd) (hm : mg "last_sizes" = some (.ref f)) (hb : Binds K fd ["sizes", "count"] []) (M : MgN mg) :
    Kn P w K mg base 1 "last_sizes" R_last_sizes := by
  refine fun_kn Fn hm hb sc_last_sizes (by rintro ds d ⟨_, _,  r, rfl, _, _⟩; rfl) ?_
  rintro cdv A outer s F0 H0 vs ds d Q E hr g0 ra ⟨a_sizes, a_count,  rr, rfl, h, rfl⟩ q
  have hu64 : (A.deeper (envOfC "last_sizes" (defScope (topS 5)) s.heap.objs.size f cdv)).units + 64 < cLine := by have := hr.un; omega
  have hu1 : (A.deeper (envOfC "last_sizes" (defScope (topS 5)) s.heap.objs.size f cdv)).units + 1 < cLine := by have := hr.un; omega
  obtain ⟨v_sizes, v_count, rfl, r_sizes, r_count⟩ := ra.n2
  obtain rfl := r_count.int_
  have nd := sc_last_sizes.nd
  unfold f_last_sizes at h
  obtain ⟨t1, e1, h⟩ := bnd h
  obtain ⟨t6, e6, h⟩ := bnd h
  refine s_lcM (enc2 := (encO D.int)) 2 [("number", 3)] 3 sc_last_sizes.nd g0 (lsR1 (x_add (x_var 1 (.int a_count)) x_int) e1 M.range) e6 (blkOk_by (N := ["sizes", "count", "last", "number", "size"]) (sc := defScope (topS 5)) (by decide +kernel)) (by intro F1 z2 v3 b eF4 rv5 h; obtain rfl := rv5.int_; cases h; exact fun _ _ _ _ _ => x_non) (fun l_last F H g g0 nlast o_last => ?_)
  have r_sizes := r_sizes.up g.f
  obtain ⟨t7, e7, h⟩ := bnd h
  refine s_setI 2 g0 o_last x_int x_int (setO_map (f := (encO D.int)) e7) (fun F H eF g0 o_last oth => ?_)
  have r_sizes := r_sizes.up eF
  obtain ⟨t8, e8, h⟩ := bnd h
  obtain ⟨o12, ho12, h⟩ := bnd h
  refine s_forR2 (rp := ⟨0, 0, 0, 0⟩) 3 (fun (s9 : (List (Option Int))) F σ H => ∃ (y_number : Option V) (y_size : Option V), σ = [some v_sizes, some (.int a_count), some (.ref l_last), y_number, y_size] ∧ OwnL K H0 F H l_last (s9.map (encO D.int))) (fun (_ : Empty) _ _ => False) sc_last_sizes.nd g0 x_int (x_add (x_var 1 (.int a_count)) x_int) e8 ho12 (fun F H g g0 => ⟨_, _, rfl, o_last.up g⟩) ?_ ?_ ?_ M.range
  · rintro z10 s9 o1 v_number F σ H h eF g0 rv ⟨y_number, y_size, rfl, o_last⟩
    have eT11 := g0.f.rf
    obtain rfl := rv.int_
    have r_sizes := r_sizes.up eF
    obtain ⟨o16, ho16, h⟩ := bnd h
    refine s_forQ 4 (fun (s13 : (List (Option Int))) F σ H => ∃ (y_size : Option V), σ = [some v_sizes, some (.int a_count), some (.ref l_last), some (.int z10), y_size] ∧ OwnL K H0 F H l_last (s13.map (encO D.int))) (fun (_ : Empty) _ _ => False) sc_last_sizes.nd g0 (x_var 0 r_sizes) ho16 (fun F H g g0 => ⟨_, rfl, o_last.up g⟩) ?_ ?_ ?_
    · rintro z14 s13 o1 v_size F σ H h eF g0 rv ⟨y_size, rfl, o_last⟩
      have eT15 := g0.f.rf
      obtain rfl := rv.int_
      have r_sizes := r_sizes.up eF
      obtain ⟨t18, e18, h⟩ := bnd h
      refine s_if g0 (xw_tb (xw_andM (xb_cmp (c_le (x_var 4 (.int z14)) (x_var 3 (.int z10)))) e18 (fun h => by obtain ⟨t17, e17, h⟩ := bnd h; cases h; exact (xw_1 (xb_cmp (c_noO (x_ix (xs_rd 2 ((o_last.rd).up g0.fh)) (x_sub (x_var 3 (.int z10)) (x_var 4 (.int z14))) (atI_map (f := (encO D.int)) (xs := s13) e17)))))))) (fun hb H e g0 => ?_) (fun hb H e g0 => ?_)
      · rw [if_pos hb] at h
        have o_last := o_last.hop e
        obtain ⟨t19, e19, h⟩ := bnd h
        refine s_setI 2 g0 o_last (x_var 4 (.int z14)) (x_var 3 (.int z10)) (setO_map (f := (encO D.int)) e19) (fun F H eF g0 o_last oth => ?_)
        have eT15 := eT15.trans eF
        have r_sizes := r_sizes.up eF
        refine s_brk ?_
        cases h
        exact ⟨_, _, rfl, eT15, g0, _, rfl, o_last⟩
      · rw [if_neg (by rw [hb]; decide)] at h
        have o_last := o_last.hop e
        refine s_nil ?_
        refine s_nil ?_
        cases h
        exact ⟨_, _, rfl, eT15, g0, _, rfl, o_last⟩
    · rintro s13 F σ H rfl eF g0 ⟨y_size, rfl, o_last⟩
      have eT11 := eT11.trans eF
      have r_sizes := r_sizes.up eF
      simp only [aft] at h
      refine s_nil ?_
      cases h
      exact ⟨_, _, rfl, eT11, g0, _, _, rfl, o_last⟩
    · exact fun z => z.elim
  · rintro s9 F σ H rfl eF g0 ⟨y_number, y_size, rfl, o_last⟩
    have r_sizes := r_sizes.up eF
    simp only [aft] at h
    obtain ⟨F, eF, g0, r_last, fz⟩ := o_last.frz g0
    have r_sizes := r_sizes.up eF
    refine s_ret g0 (x_var 2 r_last) (fun v F H g0 r => ?_)
    cases h
    exact q _ _ _ g0 r
  · exact fun z => z.elim
theorem sc_sum_row : FnScope ["sizes", "count", "last", "row", "rest"] ["sizes", "count"] (defScope (topS 6)) := ⟨rfl, rfl, rfl, by decide +kernel, rfl, by decide +kernel, by decide +kernel⟩
theorem k_sum_row {f : Addr} {fd : FuncData} (Fn : Fun K "sum_row" "sum_row" (topS 6) f fd) (hm : mg "sum_row" = some (.ref f)) (hb : Binds K fd ["sizes", "count"] []) (M : MgN mg) (k_last_sizes : Kn P w K mg base 1 "last_sizes" R_last_sizes) :
    Kn P w K mg base 2 "sum_row" R_sum_row := by
  refine fun_kn Fn hm hb sc_sum_row (by rintro ds d ⟨_, _,  r, rfl, _, _⟩; rfl) ?_
  rintro cdv A outer s F0 H0 vs ds d Q E hr g0 ra ⟨a_sizes, a_count,  rr, rfl, h, rfl⟩ q
  have hu64 : (A.deeper (envOfC "sum_row" (defScope (topS 6)) s.heap.objs.size f cdv)).units + 64 < cLine := by have := hr.un; omega
  have hu1 : (A.deeper (envOfC "sum_row" (defScope (topS 6)) s.heap.objs.size f cdv)).units + 1 < cLine := by have := hr.un; omega
  obtain ⟨v_sizes, v_count, rfl, r_sizes, r_count⟩ := ra.n2
  obtain rfl := r_count.int_
  unfold f_sum_row at h
  obtain ⟨t1, e1, h⟩ := bnd h
  refine s_asg 2 sc_sum_row.nd g0 (x_call k_last_sizes hr (xa_cons (x_var 0 r_sizes) (xa_cons (x_var 1 (.int a_count)) xa_nil)) ⟨_, _, _, rfl, e1, rfl⟩) (fun v_last F H g g0 r_last => ?_)
  have r_sizes := r_sizes.up g.f
  obtain ⟨t2, e2, h⟩ := bnd h
  refine s_if g0 (xb_cmp (c_isO (x_ix (x_s (x_var 2 (r_last.up g0.fh))) (x_var 1 (.int a_count)) (atI_map (f := (encO D.int)) (xs := t1) e2)))) (fun hb H e g0 => ?_) (fun hb H e g0 => ?_)
  · rw [if_pos hb] at h
    refine s_ret g0 x_non (fun v F H g0 r => ?_)
    cases h
    exact q _ _ _ g0 r
  · rw [if_neg (by rw [hb]; decide)] at h
    refine s_nil ?_
    refine s_asgNM 3 sc_sum_row.nd g0 (n_lst xa_nil) (fun l_row F H g g0 nrow o_row => ?_)
    have r_sizes := r_sizes.up g.f
    have r_last := r_last.up g.f
    refine s_asgF 4 sc_sum_row.nd g0 (x_var 1 (.int a_count)) (fun H e g0 => ?_)
    have o_row := o_row.hop e
    obtain ⟨o5, ho5, h⟩ := bnd h
    refine s_while (fun (s3 : Int × (List Int)) F σ H => σ = [some v_sizes, some (.int a_count), some v_last, some (.ref l_row), some (.int s3.1)] ∧ OwnL K H0 F H l_row (s3.2.map D.int)) (fun (_ : Empty) _ _ => False) g0 ho5 ⟨rfl, o_row⟩ ?_ ?_ ?_
    · rintro s3 o1 F σ H h eF g0 ⟨rfl, o_row⟩
      have r_sizes := r_sizes.up eF
      have r_last := r_last.up eF
      refine ⟨_, (xb_cmp (c_gt (x_var 4 (.int s3.1)) x_int)), fun hb H e g0 => ?_, fun hb H e g0 => ?_⟩
      · rw [if_pos hb] at h
        have eT4 := g0.f.rf
        have o_row := o_row.hop e
        obtain ⟨t6, e6, h⟩ := bnd h
        obtain ⟨t7, e7, h⟩ := bnd h
        obtain ⟨t8, e8, h⟩ := bnd h
        refine s_app 3 g0 o_row (EvR.un (enc := D.int) e7 (x_ix (x_s (x_var 2 r_last)) (x_var 4 (.int s3.1)) (atI_map (f := (encO D.int)) (xs := t1) e6))) (appO_map (f := D.int) e8) (fun F H eF g0 o_row oth => ?_)
        have eT4 := eT4.trans eF
        have r_sizes := r_sizes.up eF
        have r_last := r_last.up eF
        obtain ⟨t9, e9, h⟩ := bnd h
        obtain ⟨t10, e10, h⟩ := bnd h
        refine s_asgF 4 sc_sum_row.nd g0 (x_sub (x_var 4 (.int s3.1)) (EvR.un (enc := D.int) e10 (x_ix (x_s (x_var 2 (r_last.up g0.fh))) (x_var 4 (.int s3.1)) (atI_map (f := (encO D.int)) (xs := t1) e9)))) (fun H e g0 => ?_)
        have o_row := o_row.hop e
        refine s_nil ?_
        cases h
        exact ⟨_, _, rfl, eT4, g0, rfl, o_row⟩
      · rw [if_neg (by rw [hb]; decide)] at h
        have o_row := o_row.hop e
        cases h
        exact ⟨_, rfl, rfl, o_row⟩
    · rintro s3 F σ H rfl eF g0 ⟨rfl, o_row⟩
      have r_sizes := r_sizes.up eF
      have r_last := r_last.up eF
      simp only [aft] at h
      refine s_ret g0 (x_tupleOf (n_s (n_sortedI (xs_rd 3 (o_row.rd)) M.sorted)) M.tuple) (fun v F H g0 r => ?_)
      cases h
      exact q _ _ _ g0 r
    · exact fun z => z.elim
theorem sc_common_step : FnScope ["sizes", "step", "size"] ["sizes"] (defScope (topS 7)) := ⟨rfl, rfl, rfl, by decide +kernel, rfl, by decide +kernel, by decide +kernel⟩
theorem k_common_step {f : Addr} {fd : FuncData} (Fn : Fun K "common_step" "common_step" (topS 7) f fd) (hm : mg "common_step" = some (.ref f)) (hb : Binds K fd ["sizes"] []) (M : MgN mg) :
    Kn P w K mg base 1 "common_step" R_common_step := by
  refine fun_kn Fn hm hb sc_common_step (by rintro ds d ⟨_,  r, rfl, _, _⟩; rfl) ?_
  rintro cdv A outer s F0 H0 vs ds d Q E hr g0 ra ⟨a_sizes,  rr, rfl, h, rfl⟩ q
  have hu64 : (A.deeper (envOfC "common_step" (defScope (topS 7)) s.heap.objs.size f cdv)).units + 64 < cLine := by have := hr.un; omega
  have hu1 : (A.deeper (envOfC "common_step" (defScope (topS 7)) s.heap.objs.size f cdv)).units + 1 < cLine := by have := hr.un; omega
  obtain ⟨v_sizes, rfl, r_sizes⟩ := ra.n1
  unfold f_common_step at h
  refine s_asgF 1 sc_common_step.nd g0 x_int (fun H e g0 => ?_)
  obtain ⟨o4, ho4, h⟩ := bnd h
  refine s_forQ 2 (fun (s1 : Int) F σ H => ∃ (y_size : Option V), σ = [some v_sizes, some (.int s1), y_size]) (fun (_ : Empty) _ _ => False) sc_common_step.nd g0 (x_var 0 r_sizes) ho4 (fun F H g g0 => ⟨_, rfl⟩) ?_ ?_ ?_
  · rintro z2 s1 o1 v_size F σ H h eF g0 rv ⟨y_size, rfl⟩
    have eT3 := g0.f.rf
    obtain rfl := rv.int_
    have r_sizes := r_sizes.up eF
    refine s_asgF 1 sc_common_step.nd g0 (x_gcd (x_var 1 (.int s1)) (x_var 2 (.int z2)) M.gcd) (fun H e g0 => ?_)
    refine s_nil ?_
    cases h
    exact ⟨_, _, rfl, eT3, g0, _, rfl⟩
  · rintro s1 F σ H rfl eF g0 ⟨y_size, rfl⟩
    have r_sizes := r_sizes.up eF
    simp only [aft] at h
    refine s_retF g0 (x_var 1 (.int s1)) (fun H e g0 => ?_)
    cases h
    exact q _ _ _ g0 (.int _)
  · exact fun z => z.elim
theorem sc_ascending : FnScope ["values", "known", "value"] ["values"] (defScope (topS 3)) := ⟨rfl, rfl, rfl, by decide +kernel, rfl, by decide +kernel, by decide +kernel⟩
theorem k_ascending {f : Addr} {fd : FuncData} (Fn : Fun K "ascending" "ascending" (topS 3) f fd) (hm : mg "ascending" = some (.ref f)) (hb : Binds K fd ["values"] []) (M : MgN mg) :
    Kn P w K mg base 1 "ascending" R_ascending := by
  refine fun_kn Fn hm hb sc_ascending (by rintro ds d ⟨_,  r, rfl, _, _⟩; rfl) ?_
  rintro cdv A outer s F0 H0 vs ds d Q E hr g0 ra ⟨a_values,  rr, rfl, h, rfl⟩ q
  have hu64 : (A.deeper (envOfC "ascending" (defScope (topS 3)) s.heap.objs.size f cdv)).units + 64 < cLine := by have := hr.un; omega
  have hu1 : (A.deeper (envOfC "ascending" (defScope (topS 3)) s.heap.objs.size f cdv)).units + 1 < cLine := by have := hr.un; omega
  obtain ⟨v_values, rfl, r_values⟩ := ra.n1
  have nd := sc_ascending.nd
  unfold f_ascending at h
  refine s_dcK (enc2 := D.bl) 1 [("value", 2)] 2 (fun (z1 : Int) => z1) (fun (z1 : Int) => true) sc_ascending.nd g0 (x_var 0 r_values) (blkOk_by (N := ["values", "known", "value"]) (sc := defScope (topS 3)) (by decide +kernel)) (by intro F1 z1 v2 eF3 rv4; obtain rfl := rv4.int_; exact fun _ _ _ _ _ => (x_var 2 (.int z1))) (by intro F1 z1 v2 eF3 rv4; obtain rfl := rv4.int_; exact fun _ _ _ _ _ => x_bl) (fun l_known F H g g0 nknown o_known => ?_)
  have r_values := r_values.up g.f
  obtain ⟨t5, e5, h⟩ := bnd h
  refine s_ret g0 (x_tupleOf (n_s (n_sortedI (n_s (n_listOfD (xd_rd 1 (o_known.rdD)) e5 M.list)) M.sorted)) M.tuple) (fun v F H g0 r => ?_)
  cases h
  exact q _ _ _ g0 r
theorem sc_least_sums : FnScope ["sizes", "least", "best", "waiting", "total", "size"] ["sizes"] (defScope (topS 8)) := ⟨rfl, rfl, rfl, by decide +kernel, rfl, by decide +kernel, by decide +kernel⟩
theorem k_least_sums {f : Addr} {fd : FuncData} (Fn : Fun K "least_sums" "least_sums" (topS 8) f fd) (hm : mg "least_sums" = some (.ref f)) (hb : Binds K fd ["sizes"] []) (M : MgN mg) :
    Kn P w K mg base 1 "least_sums" R_least_sums := by
  refine fun_kn Fn hm hb sc_least_sums (by rintro ds d ⟨_,  r, rfl, _, _⟩; rfl) ?_
  rintro cdv A outer s F0 H0 vs ds d Q E hr g0 ra ⟨a_sizes,  rr, rfl, h, rfl⟩ q
  have hu64 : (A.deeper (envOfC "least_sums" (defScope (topS 8)) s.heap.objs.size f cdv)).units + 64 < cLine := by have := hr.un; omega
  have hu1 : (A.deeper (envOfC "least_sums" (defScope (topS 8)) s.heap.objs.size f cdv)).units + 1 < cLine := by have := hr.un; omega
  obtain ⟨v_sizes, rfl, r_sizes⟩ := ra.n1
  unfold f_least_sums at h
  obtain ⟨t1, e1, h⟩ := bnd h
  refine s_asgF 1 sc_least_sums.nd g0 (x_minT (x_var 0 (r_sizes.up g0.fh)) e1 M.min) (fun H e g0 => ?_)
  refine s_asgDk 2 sc_least_sums.nd g0 (fun l_best H e g0 nbest o_best => ?_)
  refine s_asgNM 3 sc_least_sums.nd g0 (n_lst (xa_cons x_int xa_nil)) (fun l_waiting F H g g0 nwaiting o_waiting => ?_)
  have n_best_waiting := o_best.ne nwaiting
  have r_sizes := r_sizes.up g.f
  have o_best := o_best.up g
  obtain ⟨o4, ho4, h⟩ := bnd h
  refine s_while (fun (s2 : (List (Int × Int)) × (List Int)) F σ H => ∃ (y_total : Option V) (y_size : Option V), σ = [some v_sizes, some (.int t1), some (.ref l_best), some (.ref l_waiting), y_total, y_size] ∧ OwnKI K H0 F H l_best D.int s2.1 ∧ OwnL K H0 F H l_waiting (s2.2.map D.int)) (fun (_ : Empty) _ _ => False) g0 ho4 ⟨_, _, rfl, o_best, o_waiting⟩ ?_ ?_ ?_
  · rintro s2 o1 F σ H h eF g0 ⟨y_total, y_size, rfl, o_best, o_waiting⟩
    have r_sizes := r_sizes.up eF
    refine ⟨_, (xb_truL (xs_rd 3 ((o_waiting.rd).up g0.fh))), fun hb H e g0 => ?_, fun hb H e g0 => ?_⟩
    · rw [if_pos hb] at h
      have eT3 := g0.f.rf
      have o_best := o_best.hop e
      have o_waiting := o_waiting.hop e
      obtain ⟨t5, e5, h⟩ := bnd h
      refine s_hpop 4 3 sc_least_sums.nd g0 o_waiting e5 M.heappop (fun H g0 o_waiting oth => ?_)
      have o_best := oth _ _ (n_best_waiting) o_best
      obtain ⟨t6, e6, h⟩ := bnd h
      obtain ⟨s7, hs7, h⟩ := bnd h
      refine s_ifj (fun F σ H => ∃ (y_size : Option V), σ = [some v_sizes, some (.int t1), some (.ref l_best), some (.ref l_waiting), some (.int t5.1), y_size] ∧ OwnKI K H0 F H l_best D.int s7.1 ∧ OwnL K H0 F H l_waiting (s7.2.map D.int)) g0 (xb_cmp (c_niA hu1 (x_mod (x_var 4 (.int t5.1)) (x_var 1 (.int t1)) e6) (xd_rd 2 ((o_best.rdD).up g0.fh)))) (fun hb H e g0 => ?_) (fun hb H e g0 => ?_) ?_
      · rw [if_pos hb] at hs7
        have h := hs7
        have eJ := g0.f.rf
        have o_best := o_best.hop e
        have o_waiting := o_waiting.hop e
        obtain ⟨t9, e9, h⟩ := bnd h
        obtain ⟨t8, e8, h⟩ := bnd h
        refine s_putA 2 hu1 g0 o_best (x_var 4 (.int t5.1)) (x_mod (x_var 4 (.int t5.1)) (x_var 1 (.int t1)) e9) e8 (fun F H eF g0 o_best oth => ?_)
        have eJ := eJ.trans eF
        have eT3 := eT3.trans eF
        have r_sizes := r_sizes.up eF
        have o_waiting := oth _ _ (Ne.symm n_best_waiting) o_waiting
        obtain ⟨o13, ho13, h⟩ := bnd h
        refine s_forT 5 (fun (s10 : (List Int)) F σ H => ∃ (y_size : Option V), σ = [some v_sizes, some (.int t1), some (.ref l_best), some (.ref l_waiting), some (.int t5.1), y_size] ∧ OwnKI K H0 F H l_best D.int t8 ∧ OwnL K H0 F H l_waiting (s10.map D.int)) (fun (_ : Empty) _ _ => False) sc_least_sums.nd g0 (x_var 0 r_sizes) ho13 (fun F H g g0 => ⟨_, rfl, o_best.up g, o_waiting.up g⟩) ?_ ?_ ?_
        · rintro z11 s10 o1 v_size F σ H h eF g0 rv ⟨y_size, rfl, o_best, o_waiting⟩
          have eT12 := g0.f.rf
          obtain rfl := rv.int_
          have r_sizes := r_sizes.up eF
          obtain ⟨t14, e14, h⟩ := bnd h
          refine s_hpush 3 g0 o_waiting (x_add (x_var 4 (.int t5.1)) (x_var 5 (.int z11))) e14 M.heappush (fun F H eF g0 o_waiting oth => ?_)
          have eT12 := eT12.trans eF
          have r_sizes := r_sizes.up eF
          have o_best := oth _ _ (n_best_waiting) o_best
          refine s_nil ?_
          cases h
          exact ⟨_, _, rfl, eT12, g0, _, rfl, o_best, o_waiting⟩
        · rintro s10 F σ H rfl eF g0 ⟨y_size, rfl, o_best, o_waiting⟩
          have eJ := eJ.trans eF
          have eT3 := eT3.trans eF
          have r_sizes := r_sizes.up eF
          simp only [aft] at h
          refine s_nil ?_
          cases h
          exact ⟨_, eJ, g0, _, rfl, o_best, o_waiting⟩
        · exact fun z => z.elim
      · rw [if_neg (by rw [hb]; decide)] at hs7
        have h := hs7
        have eJ := g0.f.rf
        have o_best := o_best.hop e
        have o_waiting := o_waiting.hop e
        refine s_nil ?_
        cases h
        exact ⟨_, eJ, g0, _, rfl, o_best, o_waiting⟩
      · rintro F σ H eF g0 ⟨y_size, rfl, o_best, o_waiting⟩
        have eT3 := eT3.trans eF
        have r_sizes := r_sizes.up eF
        refine s_nil ?_
        cases h
        exact ⟨_, _, rfl, eT3, g0, _, _, rfl, o_best, o_waiting⟩
    · rw [if_neg (by rw [hb]; decide)] at h
      have o_best := o_best.hop e
      have o_waiting := o_waiting.hop e
      cases h
      exact ⟨_, rfl, _, _, rfl, o_best, o_waiting⟩
  · rintro s2 F σ H rfl eF g0 ⟨y_total, y_size, rfl, o_best, o_waiting⟩
    have r_sizes := r_sizes.up eF
    simp only [aft] at h
    obtain ⟨F, eF, g0, r_best, fz⟩ := o_best.frz g0
    have r_sizes := r_sizes.up eF
    have o_waiting := fz _ _ (Ne.symm n_best_waiting) o_waiting
    refine s_ret g0 (x_var 2 r_best) (fun v F H g0 r => ?_)
    cases h
    exact q _ _ _ g0 r
  · exact fun z => z.elim
theorem sc_sum_pattern : FnScope ["sizes", "step", "lowered", "best", "start", "size", "rest"] ["sizes"] (defScope (topS 9)) := ⟨rfl, rfl, rfl, by decide +kernel, rfl, by decide +kernel, by decide +kernel⟩
theorem k_sum_pattern {f : Addr} {fd : FuncData} (Fn : Fun K "sum_pattern" "sum_pattern" (topS 9) f fd) (hm : mg "sum_pattern" = some (.ref f)) (hb : Binds K fd ["sizes"] []) (M : MgN mg) (k_ascending : Kn P w K mg base 1 "ascending" R_ascending) (k_common_step : Kn P w K mg base 1 "common_step" R_common_step) (k_least_sums : Kn P w K mg base 1 "least_sums" R_least_sums) :
    Kn P w K mg base 2 "sum_pattern" R_sum_pattern := by
  refine fun_kn Fn hm hb sc_sum_pattern (by rintro ds d ⟨_,  r, rfl, _, _⟩; rfl) ?_
  rintro cdv A outer s F0 H0 vs ds d Q E hr g0 ra ⟨a_sizes,  rr, rfl, h, rfl⟩ q
  have hu64 : (A.deeper (envOfC "sum_pattern" (defScope (topS 9)) s.heap.objs.size f cdv)).units + 64 < cLine := by have := hr.un; omega
  have hu1 : (A.deeper (envOfC "sum_pattern" (defScope (topS 9)) s.heap.objs.size f cdv)).units + 1 < cLine := by have := hr.un; omega
  obtain ⟨v_sizes, rfl, r_sizes⟩ := ra.n1
  have nd := sc_sum_pattern.nd
  unfold f_sum_pattern at h
  obtain ⟨t1, e1, h⟩ := bnd h
  refine s_asgF 1 sc_sum_pattern.nd g0 (x_call k_common_step hr (xa_cons (x_var 0 (r_sizes.up g0.fh)) xa_nil) ⟨_, _, rfl, e1, rfl⟩) (fun H e g0 => ?_)
  obtain ⟨t7, e7, h⟩ := bnd h
  obtain ⟨t8, e8, h⟩ := bnd h
  refine s_asg 2 sc_sum_pattern.nd g0 (x_call k_ascending hr (xa_cons (n_r (n_lcM (enc2 := D.int) [("size", 5)] 5 sc_sum_pattern.nd (lsQ (x_var 0 r_sizes)) e7 (blkOk_by (N := ["sizes", "step", "lowered", "best", "start", "size", "rest"]) (sc := defScope (topS 9)) (by decide +kernel)) (by intro F1 z2 v3 b eF4 rv5 h; obtain rfl := rv5.int_; obtain ⟨t6, e6, h⟩ := bnd h; cases h; exact fun _ _ _ _ _ => (x_div (x_var 5 (.int z2)) (x_var 1 (.int t1)) e6)))) xa_nil) ⟨_, _, rfl, e8, rfl⟩) (fun v_lowered F H g g0 r_lowered => ?_)
  have r_sizes := r_sizes.up g.f
  obtain ⟨t9, e9, h⟩ := bnd h
  refine s_asg 3 sc_sum_pattern.nd g0 (x_call k_least_sums hr (xa_cons (x_var 2 r_lowered) xa_nil) ⟨_, _, rfl, e9, rfl⟩) (fun v_best F H g g0 r_best => ?_)
  have r_sizes := r_sizes.up g.f
  have r_lowered := r_lowered.up g.f
  obtain ⟨l_best, rfl⟩ := r_best.dicR
  obtain ⟨t10, e10, h⟩ := bnd h
  obtain ⟨t11, e11, h⟩ := bnd h
  obtain ⟨t12, e12, h⟩ := bnd h
  refine s_asgF 4 sc_sum_pattern.nd g0 (x_add (x_sub (x_maxL (n_s (n_lcDK [("rest", 6)] 3 6 sc_sum_pattern.nd ((r_best.up g0.fh).rdD (Ex.refl _)) e10 hu1 (blkOk_by (N := ["sizes", "step", "lowered", "best", "start", "size", "rest"]) (sc := defScope (topS 9)) (by decide +kernel)))) e11 M.max) (x_minT (x_var 2 (r_lowered.up g0.fh)) e12 M.min)) x_int) (fun H e g0 => ?_)
  obtain ⟨t13, e13, h⟩ := bnd h
  refine s_ret g0 (x_tup (xa_cons (x_var 1 (.int t1)) (xa_cons (x_mul (x_var 4 (.int (((t11 - t12) + 1)))) (x_var 1 (.int t1)) e13) xa_nil))) (fun v F H g0 r => ?_)
  cases h
  exact q _ _ _ g0 r
theorem sc_law_whole : FnScope ["thing"] ["thing"] (defScope (topS 11)) := ⟨rfl, rfl, rfl, by decide +kernel, rfl, by decide +kernel, by decide +kernel⟩
theorem k_law_whole {f : Addr} {fd : FuncData} (Fn : Fun K "_law_whole" "_law_whole" (topS 11) f fd) (hm : mg "_law_whole" = some (.ref f)) (hb : Binds K fd ["thing"] []) (M : MgN mg) :
    Kn P w K mg base 1 "_law_whole" R_law_whole := by
  refine fun_kn Fn hm hb sc_law_whole (by rintro ds d ⟨_,  r, rfl, _, _⟩; rfl) ?_
  rintro cdv A outer s F0 H0 vs ds d Q E hr g0 ra ⟨a_thing,  rr, rfl, h, rfl⟩ q
  have hu64 : (A.deeper (envOfC "_law_whole" (defScope (topS 11)) s.heap.objs.size f cdv)).units + 64 < cLine := by have := hr.un; omega
  have hu1 : (A.deeper (envOfC "_law_whole" (defScope (topS 11)) s.heap.objs.size f cdv)).units + 1 < cLine := by have := hr.un; omega
  obtain ⟨v_thing, rfl, r_thing⟩ := ra.n1
  unfold f_law_whole at h
  obtain ⟨t1, e1, h⟩ := bnd h
  obtain ⟨t3, e3, h⟩ := bnd h
  refine s_retF g0 (xv_andM (x_isi (x_var 0 (r_thing.up g0.fh)) e1 M.isinstance M.int) e3 (fun h => by obtain ⟨t2, e2, h⟩ := bnd h; cases h; exact (xv_1 (xv_not (x_isi (x_var 0 (r_thing.up g0.fh)) e2 M.isinstance M.bool))))) (fun H e g0 => ?_)
  cases h
  exact q _ _ _ g0 (.bl _)
theorem sc_law_cell : FnScope ["script", "k", "seed", "cell"] ["script", "k"] (defScope (topS 12)) := ⟨rfl, rfl, rfl, by decide +kernel, rfl, by decide +kernel, by decide +kernel⟩
theorem k_law_cell {f : Addr} {fd : FuncData} (Fn : Fun K "_law_cell" "_law_cell" (topS 12) f fd) (hm : mg "_law_cell" = some (.ref f)) (hb : Binds K fd ["script", "k"] []) (M : MgN mg) :
    Kn P w K mg base 1 "_law_cell" R_law_cell := by
  refine fun_kn Fn hm hb sc_law_cell (by rintro ds d ⟨_, _,  r, rfl, _, _⟩; rfl) ?_
  rintro cdv A outer s F0 H0 vs ds d Q E hr g0 ra ⟨a_script, a_k,  rr, rfl, h, rfl⟩ q
  have hu64 : (A.deeper (envOfC "_law_cell" (defScope (topS 12)) s.heap.objs.size f cdv)).units + 64 < cLine := by have := hr.un; omega
  have hu1 : (A.deeper (envOfC "_law_cell" (defScope (topS 12)) s.heap.objs.size f cdv)).units + 1 < cLine := by have := hr.un; omega
  obtain ⟨v_script, v_k, rfl, r_script, r_k⟩ := ra.n2
  obtain rfl := r_k.int_
  unfold f_law_cell at h
  refine s_if g0 (xb_cmp (c_lt (x_var 1 (.int a_k)) (x_lenC (x_var 0 (r_script.up g0.fh)) M.len))) (fun hb H e g0 => ?_) (fun hb H e g0 => ?_)
  · rw [if_pos hb] at h
    obtain ⟨t1, e1, h⟩ := bnd h
    refine s_retF g0 (x_ixC (x_var 0 (r_script.up g0.fh)) (x_var 1 (.int a_k)) e1) (fun H e g0 => ?_)
    cases h
    exact q _ _ _ g0 (.int _)
  · rw [if_neg (by rw [hb]; decide)] at h
    refine s_nil ?_
    refine s_asgF 2 sc_law_cell.nd g0 x_int (fun H e g0 => ?_)
    obtain ⟨o5, ho5, h⟩ := bnd h
    refine s_forC 3 (fun (s2 : Int) F σ H => ∃ (y_cell : Option V), σ = [some v_script, some (.int a_k), some (.int s2), y_cell]) (fun (_ : Empty) _ _ => False) sc_law_cell.nd g0 (x_var 0 r_script) ho5 (fun F H g g0 => ⟨_, rfl⟩) ?_ ?_ ?_
    · rintro z3 s2 o1 v_cell F σ H h eF g0 rv ⟨y_cell, rfl⟩
      have eT4 := g0.f.rf
      obtain rfl := rv.int_
      have r_script := r_script.up eF
      obtain ⟨t6, e6, h⟩ := bnd h
      obtain ⟨t7, e7, h⟩ := bnd h
      obtain ⟨t8, e8, h⟩ := bnd h
      refine s_asgF 2 sc_law_cell.nd g0 (x_mod (x_int1 (x_add (x_mul (x_var 2 (.int s2)) x_int e6) (x_mod (x_int1 (x_var 3 (.int z3)) M.int) x_int e7)) M.int) x_int e8) (fun H e g0 => ?_)
      refine s_nil ?_
      cases h
      exact ⟨_, _, rfl, eT4, g0, _, rfl⟩
    · rintro s2 F σ H rfl eF g0 ⟨y_cell, rfl⟩
      have r_script := r_script.up eF
      simp only [aft] at h
      obtain ⟨t9, e9, h⟩ := bnd h
      obtain ⟨t10, e10, h⟩ := bnd h
      obtain ⟨t11, e11, h⟩ := bnd h
      refine s_retF g0 (x_mod (x_int1 (x_mul (x_mul (x_add (x_var 2 (.int s2)) x_int) (x_add (x_var 1 (.int a_k)) x_int) e9) x_int e10) M.int) x_int e11) (fun H e g0 => ?_)
      cases h
      exact q _ _ _ g0 (.int _)
    · exact fun z => z.elim
theorem sc_law_digits : FnScope ["cell", "sizes", "row", "rest", "size", "seed", "k", "twice"] ["cell", "sizes"] (defScope (topS 13)) := ⟨rfl, rfl, rfl, by decide +kernel, rfl, by decide +kernel, by decide +kernel⟩
theorem k_law_digits {f : Addr} {fd : FuncData} (Fn : Fun K "_law_digits" "_law_digits" (topS 13) f fd) (hm : mg "_law_digits" = some (.ref f)) (hb : Binds K fd ["cell", "sizes"] []) (M : MgN mg) :
    Kn P w K mg base 1 "_law_digits" R_law_digits := by
  refine fun_kn Fn hm hb sc_law_digits (by rintro ds d ⟨_, _,  r, rfl, _, _⟩; rfl) ?_
  rintro cdv A outer s F0 H0 vs ds d Q E hr g0 ra ⟨a_cell, a_sizes,  rr, rfl, h, rfl⟩ q
  have hu64 : (A.deeper (envOfC "_law_digits" (defScope (topS 13)) s.heap.objs.size f cdv)).units + 64 < cLine := by have := hr.un; omega
  have hu1 : (A.deeper (envOfC "_law_digits" (defScope (topS 13)) s.heap.objs.size f cdv)).units + 1 < cLine := by have := hr.un; omega
  obtain ⟨v_cell, v_sizes, rfl, r_cell, r_sizes⟩ := ra.n2
  obtain rfl := r_cell.int_
  unfold f_law_digits at h
  refine s_asgNM 2 sc_law_digits.nd g0 (n_lst xa_nil) (fun l_row F H g g0 nrow o_row => ?_)
  have r_sizes := r_sizes.up g.f
  refine s_asgF 3 sc_law_digits.nd g0 (x_int1 (x_var 0 (.int a_cell)) M.int) (fun H e g0 => ?_)
  have o_row := o_row.hop e
  obtain ⟨t1, e1, h⟩ := bnd h
  refine s_if g0 (xb_cmp (c_ge (x_var 3 (.int a_cell)) (x_pow x_int x_int e1))) (fun hb H e g0 => ?_) (fun hb H e g0 => ?_)
  · rw [if_pos hb] at h
    have o_row := o_row.hop e
    obtain ⟨t2, e2, h⟩ := bnd h
    refine s_asgF 3 sc_law_digits.nd g0 (x_sub (x_var 3 (.int a_cell)) (x_pow x_int x_int e2)) (fun H e g0 => ?_)
    have o_row := o_row.hop e
    obtain ⟨o6, ho6, h⟩ := bnd h
    refine s_forL 4 (fun (s3 : Int × (List Int)) F σ H => ∃ (y_size : Option V) (y_seed : Option V) (y_k : Option V) (y_twice : Option V), σ = [some (.int a_cell), some v_sizes, some (.ref l_row), some (.int s3.1), y_size, y_seed, y_k, y_twice] ∧ OwnL K H0 F H l_row (s3.2.map D.int)) (fun (_ : Empty) _ _ => False) sc_law_digits.nd g0 (x_var 1 r_sizes) ho6 (fun F H g g0 => ⟨_, _, _, _, rfl, o_row.up g⟩) ?_ ?_ ?_
    · rintro z4 s3 o1 v_size F σ H h eF g0 rv ⟨y_size, y_seed, y_k, y_twice, rfl, o_row⟩
      have eT5 := g0.f.rf
      obtain rfl := rv.int_
      have r_sizes := r_sizes.up eF
      obtain ⟨t7, e7, h⟩ := bnd h
      obtain ⟨t8, e8, h⟩ := bnd h
      refine s_app 2 g0 o_row (x_mod (x_int1 (x_var 3 (.int s3.1)) M.int) (x_var 4 (.int z4)) e7) (appO_map (f := D.int) e8) (fun F H eF g0 o_row oth => ?_)
      have eT5 := eT5.trans eF
      have r_sizes := r_sizes.up eF
      obtain ⟨t9, e9, h⟩ := bnd h
      refine s_asgF 3 sc_law_digits.nd g0 (x_div (x_int1 (x_var 3 (.int s3.1)) M.int) (x_var 4 (.int z4)) e9) (fun H e g0 => ?_)
      have o_row := o_row.hop e
      refine s_nil ?_
      cases h
      exact ⟨_, _, rfl, eT5, g0, _, _, _, _, rfl, o_row⟩
    · rintro s3 F σ H rfl eF g0 ⟨y_size, y_seed, y_k, y_twice, rfl, o_row⟩
      have r_sizes := r_sizes.up eF
      simp only [aft] at h
      obtain ⟨F, eF, g0, r_row, fz⟩ := o_row.frz g0
      have r_sizes := r_sizes.up eF
      refine s_ret g0 (x_var 2 r_row) (fun v F H g0 r => ?_)
      cases h
      exact q _ _ _ g0 r
    · exact fun z => z.elim
  · rw [if_neg (by rw [hb]; decide)] at h
    have o_row := o_row.hop e
    refine s_nil ?_
    obtain ⟨t10, e10, h⟩ := bnd h
    refine s_asgF 5 sc_law_digits.nd g0 (x_mod (x_int1 (x_var 3 (.int a_cell)) M.int) x_int e10) (fun H e g0 => ?_)
    have o_row := o_row.hop e
    obtain ⟨t11, e11, h⟩ := bnd h
    obtain ⟨o15, ho15, h⟩ := bnd h
    refine s_forR1 (rp := ⟨0, 0, 0, 0⟩) 6 (fun (s12 : Int × (List Int)) F σ H => ∃ (y_size : Option V) (y_k : Option V) (y_twice : Option V), σ = [some (.int a_cell), some v_sizes, some (.ref l_row), some (.int a_cell), y_size, some (.int s12.1), y_k, y_twice] ∧ OwnL K H0 F H l_row (s12.2.map D.int)) (fun (_ : Empty) _ _ => False) sc_law_digits.nd g0 (x_lenM (x_s (x_var 1 (r_sizes.up g0.fh))) M.len) e11 ho15 (fun F H g g0 => ⟨_, _, _, rfl, o_row.up g⟩) ?_ ?_ ?_ M.range
    · rintro z13 s12 o1 v_k F σ H h eF g0 rv ⟨y_size, y_k, y_twice, rfl, o_row⟩
      have eT14 := g0.f.rf
      obtain rfl := rv.int_
      have r_sizes := r_sizes.up eF
      obtain ⟨t16, e16, h⟩ := bnd h
      obtain ⟨t17, e17, h⟩ := bnd h
      obtain ⟨t18, e18, h⟩ := bnd h
      refine s_asgF 5 sc_law_digits.nd g0 (x_mod (x_int1 (x_add (x_add (x_mul (x_var 5 (.int s12.1)) x_int e16) (x_mul x_int (x_var 6 (.int z13)) e17)) x_int) M.int) x_int e18) (fun H e g0 => ?_)
      have o_row := o_row.hop e
      obtain ⟨t19, e19, h⟩ := bnd h
      obtain ⟨t20, e20, h⟩ := bnd h
      obtain ⟨t21, e21, h⟩ := bnd h
      refine s_asgF 7 sc_law_digits.nd g0 (x_mod (x_int1 (x_mul (x_var 5 (.int t18)) (x_add (x_div (x_var 5 (.int t18)) x_int e19) x_int) e20) M.int) x_int e21) (fun H e g0 => ?_)
      have o_row := o_row.hop e
      obtain ⟨t22, e22, h⟩ := bnd h
      obtain ⟨t23, e23, h⟩ := bnd h
      obtain ⟨t24, e24, h⟩ := bnd h
      obtain ⟨t25, e25, h⟩ := bnd h
      refine s_app 2 g0 o_row (x_mod (x_int1 (x_div (x_var 7 (.int t21)) x_int e22) M.int) (x_ix (x_s (x_var 1 r_sizes)) (x_var 6 (.int z13)) (atI_map (f := D.int) (xs := a_sizes) e23)) e24) (appO_map (f := D.int) e25) (fun F H eF g0 o_row oth => ?_)
      have eT14 := eT14.trans eF
      have r_sizes := r_sizes.up eF
      refine s_nil ?_
      cases h
      exact ⟨_, _, rfl, eT14, g0, _, _, _, rfl, o_row⟩
    · rintro s12 F σ H rfl eF g0 ⟨y_size, y_k, y_twice, rfl, o_row⟩
      have r_sizes := r_sizes.up eF
      simp only [aft] at h
      obtain ⟨F, eF, g0, r_row, fz⟩ := o_row.frz g0
      have r_sizes := r_sizes.up eF
      refine s_ret g0 (x_var 2 r_row) (fun v F H g0 r => ?_)
      cases h
      exact q _ _ _ g0 r
    · exact fun z => z.elim
theorem sc_law_gcd : FnScope ["one", "two", "low", "high", "k", "rest"] ["one", "two"] (defScope (topS 14)) := ⟨rfl, rfl, rfl, by decide +kernel, rfl, by decide +kernel, by decide +kernel⟩
theorem k_law_gcd {f : Addr} {fd : FuncData} (Fn : Fun K "_law_gcd" "_law_gcd" (topS 14) f fd) (hm : mg "_law_gcd" = some (.ref f)) (hb : Binds K fd ["one", "two"] []) (M : MgN mg) :
    Kn P w K mg base 1 "_law_gcd" R_law_gcd := by
  refine fun_kn Fn hm hb sc_law_gcd (by rintro ds d ⟨_, _,  r, rfl, _, _⟩; rfl) ?_
  rintro cdv A outer s F0 H0 vs ds d Q E hr g0 ra ⟨a_one, a_two,  rr, rfl, h, rfl⟩ q
  have hu64 : (A.deeper (envOfC "_law_gcd" (defScope (topS 14)) s.heap.objs.size f cdv)).units + 64 < cLine := by have := hr.un; omega
  have hu1 : (A.deeper (envOfC "_law_gcd" (defScope (topS 14)) s.heap.objs.size f cdv)).units + 1 < cLine := by have := hr.un; omega
  obtain ⟨v_one, v_two, rfl, r_one, r_two⟩ := ra.n2
  obtain rfl := r_one.int_
  obtain rfl := r_two.int_
  unfold f_law_gcd at h
  refine s_asgF 2 sc_law_gcd.nd g0 (x_var 0 (.int a_one)) (fun H e g0 => ?_)
  refine s_asgF 3 sc_law_gcd.nd g0 (x_var 1 (.int a_two)) (fun H e g0 => ?_)
  obtain ⟨t1, e1, h⟩ := bnd h
  obtain ⟨o5, ho5, h⟩ := bnd h
  refine s_forR1 (rp := ⟨0, 0, 0, 0⟩) 4 (fun (s2 : Int × Int) F σ H => ∃ (y_k : Option V) (y_rest : Option V), σ = [some (.int a_one), some (.int a_two), some (.int s2.1), some (.int s2.2), y_k, y_rest]) (fun (_ : Empty) _ _ => False) sc_law_gcd.nd g0 x_int e1 ho5 (fun F H g g0 => ⟨_, _, rfl⟩) ?_ ?_ ?_ M.range
  · rintro z3 s2 o1 v_k F σ H h eF g0 rv ⟨y_k, y_rest, rfl⟩
    have eT4 := g0.f.rf
    obtain rfl := rv.int_
    obtain ⟨s6, hs6, h⟩ := bnd h
    refine s_ifj (fun F σ H => ∃ (y_rest : Option V), σ = [some (.int a_one), some (.int a_two), some (.int s6.1), some (.int s6.2), some (.int z3), y_rest]) g0 (xb_cmp (c_ne (x_var 3 (.int s2.2)) x_int)) (fun hb H e g0 => ?_) (fun hb H e g0 => ?_) ?_
    · rw [if_pos hb] at hs6
      have h := hs6
      have eJ := g0.f.rf
      obtain ⟨t7, e7, h⟩ := bnd h
      refine s_asgF 5 sc_law_gcd.nd g0 (x_mod (x_int1 (x_var 2 (.int s2.1)) M.int) (x_var 3 (.int s2.2)) e7) (fun H e g0 => ?_)
      refine s_asgF 2 sc_law_gcd.nd g0 (x_var 3 (.int s2.2)) (fun H e g0 => ?_)
      refine s_asgF 3 sc_law_gcd.nd g0 (x_var 5 (.int t7)) (fun H e g0 => ?_)
      refine s_nil ?_
      cases h
      exact ⟨_, eJ, g0, _, rfl⟩
    · rw [if_neg (by rw [hb]; decide)] at hs6
      have h := hs6
      have eJ := g0.f.rf
      refine s_nil ?_
      cases h
      exact ⟨_, eJ, g0, _, rfl⟩
    · rintro F σ H eF g0 ⟨y_rest, rfl⟩
      have eT4 := eT4.trans eF
      refine s_nil ?_
      cases h
      exact ⟨_, _, rfl, eT4, g0, _, _, rfl⟩
  · rintro s2 F σ H rfl eF g0 ⟨y_k, y_rest, rfl⟩
    simp only [aft] at h
    refine s_retF g0 (x_var 2 (.int s2.1)) (fun H e g0 => ?_)
    cases h
    exact q _ _ _ g0 (.int _)
  · exact fun z => z.elim
theorem sc_law_table : FnScope ["numbers", "least", "table", "known", "size", "step", "first", "at", "turn", "after", "k"] ["numbers"] (defScope (topS 15)) := ⟨rfl, rfl, rfl, by decide +kernel, rfl, by decide +kernel, by decide +kernel⟩
theorem k_law_table {f : Addr} {fd : FuncData} (Fn : Fun K "_law_table" "_law_table" (topS 15) f fd) (hm : mg "_law_table" = some (.ref f)) (hb : Binds K fd ["numbers"] []) (M : MgN mg) (k_law_gcd : Kn P w K mg base 1 "_law_gcd" R_law_gcd) :
    Kn P w K mg base 2 "_law_table" R_law_table := by
  refine fun_kn Fn hm hb sc_law_table (by rintro ds d ⟨_,  r, rfl, _, _⟩; rfl) ?_
  rintro cdv A outer s F0 H0 vs ds d Q E hr g0 ra ⟨a_numbers,  rr, rfl, h, rfl⟩ q
  have hu64 : (A.deeper (envOfC "_law_table" (defScope (topS 15)) s.heap.objs.size f cdv)).units + 64 < cLine := by have := hr.un; omega
  have hu1 : (A.deeper (envOfC "_law_table" (defScope (topS 15)) s.heap.objs.size f cdv)).units + 1 < cLine := by have := hr.un; omega
  obtain ⟨v_numbers, rfl, r_numbers⟩ := ra.n1
  have nd := sc_law_table.nd
  unfold f_law_table at h
  obtain ⟨t1, e1, h⟩ := bnd h
  refine s_asgF 1 sc_law_table.nd g0 (x_minL (x_s (x_var 0 (r_numbers.up g0.fh))) e1 M.min) (fun H e g0 => ?_)
  obtain ⟨t2, e2, h⟩ := bnd h
  obtain ⟨t7, e7, h⟩ := bnd h
  refine s_lcM (enc2 := (encO D.int)) 2 [("k", 10)] 10 sc_law_table.nd g0 (lsR1 (x_var 1 (.int t1)) e2 M.range) e7 (blkOk_by (N := ["numbers", "least", "table", "known", "size", "step", "first", "at", "turn", "after", "k"]) (sc := defScope (topS 15)) (by decide +kernel)) (by intro F1 z3 v4 b eF5 rv6 h; obtain rfl := rv6.int_; cases h; exact fun _ _ _ _ _ => x_non) (fun l_table F H g g0 ntable o_table => ?_)
  have r_numbers := r_numbers.up g.f
  obtain ⟨t8, e8, h⟩ := bnd h
  refine s_setI 2 g0 o_table x_int x_int (setO_map (f := (encO D.int)) e8) (fun F H eF g0 o_table oth => ?_)
  have r_numbers := r_numbers.up eF
  refine s_asgDk 3 sc_law_table.nd g0 (fun l_known H e g0 nknown o_known => ?_)
  have n_table_known := o_table.ne nknown
  have o_table := o_table.hop e
  obtain ⟨o12, ho12, h⟩ := bnd h
  refine s_forL 4 (fun (s9 : (List (Int × Bool)) × (List (Option Int))) F σ H => ∃ (y_size : Option V) (y_step : Option V) (y_first : Option V) (y_at : Option V) (y_turn : Option V) (y_after : Option V) (y_k : Option V), σ = [some v_numbers, some (.int t1), some (.ref l_table), some (.ref l_known), y_size, y_step, y_first, y_at, y_turn, y_after, y_k] ∧ OwnL K H0 F H l_table (s9.2.map (encO D.int)) ∧ OwnKI K H0 F H l_known D.bl s9.1) (fun (_ : Empty) _ _ => False) sc_law_table.nd g0 (x_var 0 r_numbers) ho12 (fun F H g g0 => ⟨_, _, _, _, _, _, _, rfl, o_table.up g, o_known.up g⟩) ?_ ?_ ?_
  · rintro z10 s9 o1 v_size F σ H h eF g0 rv ⟨y_size, y_step, y_first, y_at, y_turn, y_after, y_k, rfl, o_table, o_known⟩
    have eT11 := g0.f.rf
    obtain rfl := rv.int_
    have r_numbers := r_numbers.up eF
    obtain ⟨s13, hs13, h⟩ := bnd h
    refine s_ifj (fun F σ H => ∃ (y_step : Option V) (y_first : Option V) (y_at : Option V) (y_turn : Option V) (y_after : Option V) (y_k : Option V), σ = [some v_numbers, some (.int t1), some (.ref l_table), some (.ref l_known), some (.int z10), y_step, y_first, y_at, y_turn, y_after, y_k] ∧ OwnL K H0 F H l_table (s13.2.map (encO D.int)) ∧ OwnKI K H0 F H l_known D.bl s13.1) g0 (xb_cmp (c_niA hu1 (x_var 4 (.int z10)) (xd_rd 3 ((o_known.rdD).up g0.fh)))) (fun hb H e g0 => ?_) (fun hb H e g0 => ?_) ?_
    · rw [if_pos hb] at hs13
      have h := hs13
      have eJ := g0.f.rf
      have o_table := o_table.hop e
      have o_known := o_known.hop e
      obtain ⟨t14, e14, h⟩ := bnd h
      refine s_putA 3 hu1 g0 o_known x_bl (x_var 4 (.int z10)) e14 (fun F H eF g0 o_known oth => ?_)
      have eJ := eJ.trans eF
      have eT11 := eT11.trans eF
      have r_numbers := r_numbers.up eF
      have o_table := oth _ _ (n_table_known) o_table
      obtain ⟨t15, e15, h⟩ := bnd h
      refine s_asgF 5 sc_law_table.nd g0 (x_call k_law_gcd hr (xa_cons (x_var 1 (.int t1)) (xa_cons (x_var 4 (.int z10)) xa_nil)) ⟨_, _, _, rfl, e15, rfl⟩) (fun H e g0 => ?_)
      have o_table := o_table.hop e
      have o_known := o_known.hop e
      obtain ⟨t16, e16, h⟩ := bnd h
      obtain ⟨o20, ho20, h⟩ := bnd h
      refine s_forR1 (rp := ⟨0, 0, 0, 0⟩) 6 (fun (s17 : (List (Option Int))) F σ H => ∃ (y_first : Option V) (y_at : Option V) (y_turn : Option V) (y_after : Option V) (y_k : Option V), σ = [some v_numbers, some (.int t1), some (.ref l_table), some (.ref l_known), some (.int z10), some (.int t15), y_first, y_at, y_turn, y_after, y_k] ∧ OwnL K H0 F H l_table (s17.map (encO D.int)) ∧ OwnKI K H0 F H l_known D.bl t14) (fun (_ : Empty) _ _ => False) sc_law_table.nd g0 (x_var 5 (.int t15)) e16 ho20 (fun F H g g0 => ⟨_, _, _, _, _, rfl, o_table.up g, o_known.up g⟩) ?_ ?_ ?_ M.range
      · rintro z18 s17 o1 v_first F σ H h eF g0 rv ⟨y_first, y_at, y_turn, y_after, y_k, rfl, o_table, o_known⟩
        have eT19 := g0.f.rf
        obtain rfl := rv.int_
        have r_numbers := r_numbers.up eF
        refine s_asgF 7 sc_law_table.nd g0 (x_var 6 (.int z18)) (fun H e g0 => ?_)
        have o_table := o_table.hop e
        have o_known := o_known.hop e
        obtain ⟨t21, e21, h⟩ := bnd h
        obtain ⟨t22, e22, h⟩ := bnd h
        obtain ⟨t23, e23, h⟩ := bnd h
        obtain ⟨o27, ho27, h⟩ := bnd h
        refine s_forR1 (rp := ⟨0, 0, 0, 0⟩) 8 (fun (s24 : Int × (List (Option Int))) F σ H => ∃ (y_turn : Option V) (y_after : Option V) (y_k : Option V), σ = [some v_numbers, some (.int t1), some (.ref l_table), some (.ref l_known), some (.int z10), some (.int t15), some (.int z18), some (.int s24.1), y_turn, y_after, y_k] ∧ OwnL K H0 F H l_table (s24.2.map (encO D.int)) ∧ OwnKI K H0 F H l_known D.bl t14) (fun (_ : Empty) _ _ => False) sc_law_table.nd g0 (x_mul x_int (x_div (x_var 1 (.int t1)) (x_var 5 (.int t15)) e21) e22) e23 ho27 (fun F H g g0 => ⟨_, _, _, rfl, o_table.up g, o_known.up g⟩) ?_ ?_ ?_ M.range
        · rintro z25 s24 o1 v_turn F σ H h eF g0 rv ⟨y_turn, y_after, y_k, rfl, o_table, o_known⟩
          have eT26 := g0.f.rf
          obtain rfl := rv.int_
          have r_numbers := r_numbers.up eF
          obtain ⟨t28, e28, h⟩ := bnd h
          refine s_asgF 9 sc_law_table.nd g0 (x_mod (x_int1 (x_add (x_var 7 (.int s24.1)) (x_var 4 (.int z10))) M.int) (x_var 1 (.int t1)) e28) (fun H e g0 => ?_)
          have o_table := o_table.hop e
          have o_known := o_known.hop e
          obtain ⟨t29, e29, h⟩ := bnd h
          obtain ⟨t36, e36, h⟩ := bnd h
          obtain ⟨s37, hs37, h⟩ := bnd h
          refine s_ifj (fun F σ H => ∃ (y_k : Option V), σ = [some v_numbers, some (.int t1), some (.ref l_table), some (.ref l_known), some (.int z10), some (.int t15), some (.int z18), some (.int s24.1), some (.int z25), some (.int t28), y_k] ∧ OwnL K H0 F H l_table (s37.map (encO D.int)) ∧ OwnKI K H0 F H l_known D.bl t14) g0 (xw_tb (xw_andM (xb_cmp (c_noO (x_ix (xs_rd 2 ((o_table.rd).up g0.fh)) (x_var 7 (.int s24.1)) (atI_map (f := (encO D.int)) (xs := s24.2) e29)))) e36 (fun h => by obtain ⟨t30, e30, h⟩ := bnd h; obtain ⟨t35, e35, h⟩ := bnd h; cases h; exact (xw_1 (xw_tb (xw_orM (xb_cmp (c_isO (x_ix (xs_rd 2 ((o_table.rd).up g0.fh)) (x_var 9 (.int t28)) (atI_map (f := (encO D.int)) (xs := s24.2) e30)))) e35 (fun h => by obtain ⟨t31, e31, h⟩ := bnd h; obtain ⟨t32, e32, h⟩ := bnd h; obtain ⟨t33, e33, h⟩ := bnd h; obtain ⟨t34, e34, h⟩ := bnd h; cases h; exact (xw_1 (xb_cmp (c_lt (x_add (EvR.un (enc := D.int) e32 (x_ix (xs_rd 2 ((o_table.rd).up g0.fh)) (x_var 7 (.int s24.1)) (atI_map (f := (encO D.int)) (xs := s24.2) e31))) (x_var 4 (.int z10))) (EvR.un (enc := D.int) e34 (x_ix (xs_rd 2 ((o_table.rd).up g0.fh)) (x_var 9 (.int t28)) (atI_map (f := (encO D.int)) (xs := s24.2) e33))))))))))))) (fun hb H e g0 => ?_) (fun hb H e g0 => ?_) ?_
          · rw [if_pos hb] at hs37
            have h := hs37
            have eJ := g0.f.rf
            have o_table := o_table.hop e
            have o_known := o_known.hop e
            obtain ⟨t39, e39, h⟩ := bnd h
            obtain ⟨t40, e40, h⟩ := bnd h
            obtain ⟨t38, e38, h⟩ := bnd h
            refine s_setI 2 g0 o_table (x_add (EvR.un (enc := D.int) e40 (x_ix (xs_rd 2 (o_table.rd)) (x_var 7 (.int s24.1)) (atI_map (f := (encO D.int)) (xs := s24.2) e39))) (x_var 4 (.int z10))) (x_var 9 (.int t28)) (setO_map (f := (encO D.int)) e38) (fun F H eF g0 o_table oth => ?_)
            have eJ := eJ.trans eF
            have eT26 := eT26.trans eF
            have r_numbers := r_numbers.up eF
            have o_known := oth _ _ (Ne.symm n_table_known) o_known
            refine s_nil ?_
            cases h
            exact ⟨_, eJ, g0, _, rfl, o_table, o_known⟩
          · rw [if_neg (by rw [hb]; decide)] at hs37
            have h := hs37
            have eJ := g0.f.rf
            have o_table := o_table.hop e
            have o_known := o_known.hop e
            refine s_nil ?_
            cases h
            exact ⟨_, eJ, g0, _, rfl, o_table, o_known⟩
          · rintro F σ H eF g0 ⟨y_k, rfl, o_table, o_known⟩
            have eT26 := eT26.trans eF
            have r_numbers := r_numbers.up eF
            refine s_asgF 7 sc_law_table.nd g0 (x_var 9 (.int t28)) (fun H e g0 => ?_)
            have o_table := o_table.hop e
            have o_known := o_known.hop e
            refine s_nil ?_
            cases h
            exact ⟨_, _, rfl, eT26, g0, _, _, _, rfl, o_table, o_known⟩
        · rintro s24 F σ H rfl eF g0 ⟨y_turn, y_after, y_k, rfl, o_table, o_known⟩
          have eT19 := eT19.trans eF
          have r_numbers := r_numbers.up eF
          simp only [aft] at h
          refine s_nil ?_
          cases h
          exact ⟨_, _, rfl, eT19, g0, _, _, _, _, _, rfl, o_table, o_known⟩
        · exact fun z => z.elim
      · rintro s17 F σ H rfl eF g0 ⟨y_first, y_at, y_turn, y_after, y_k, rfl, o_table, o_known⟩
        have eJ := eJ.trans eF
        have eT11 := eT11.trans eF
        have r_numbers := r_numbers.up eF
        simp only [aft] at h
        refine s_nil ?_
        cases h
        exact ⟨_, eJ, g0, _, _, _, _, _, _, rfl, o_table, o_known⟩
      · exact fun z => z.elim
    · rw [if_neg (by rw [hb]; decide)] at hs13
      have h := hs13
      have eJ := g0.f.rf
      have o_table := o_table.hop e
      have o_known := o_known.hop e
      refine s_nil ?_
      cases h
      exact ⟨_, eJ, g0, _, _, _, _, _, _, rfl, o_table, o_known⟩
    · rintro F σ H eF g0 ⟨y_step, y_first, y_at, y_turn, y_after, y_k, rfl, o_table, o_known⟩
      have eT11 := eT11.trans eF
      have r_numbers := r_numbers.up eF
      refine s_nil ?_
      cases h
      exact ⟨_, _, rfl, eT11, g0, _, _, _, _, _, _, _, rfl, o_table, o_known⟩
  · rintro s9 F σ H rfl eF g0 ⟨y_size, y_step, y_first, y_at, y_turn, y_after, y_k, rfl, o_table, o_known⟩
    have r_numbers := r_numbers.up eF
    simp only [aft] at h
    obtain ⟨F, eF, g0, r_table, fz⟩ := o_table.frz g0
    have r_numbers := r_numbers.up eF
    have o_known := fz _ _ (Ne.symm n_table_known) o_known
    refine s_ret g0 (x_var 2 r_table) (fun v F H g0 r => ?_)
    cases h
    exact q _ _ _ g0 r
  · exact fun z => z.elim
theorem sc_law_pattern : FnScope ["numbers", "table", "step", "size", "due"] ["numbers", "table"] (defScope (topS 16)) := ⟨rfl, rfl, rfl, by decide +kernel, rfl, by decide +kernel, by decide +kernel⟩
theorem k_law_pattern {f : Addr} {fd : FuncData} (Fn : Fun K "_law_pattern" "_law_pattern" (topS 16) f fd) (hm : mg "_law_pattern" = some (.ref f)) (hb : Binds K fd ["numbers", "table"] []) (M : MgN mg) (k_law_gcd : Kn P w K mg base 1 "_law_gcd" R_law_gcd) :
    Kn P w K mg base 2 "_law_pattern" R_law_pattern := by
  refine fun_kn Fn hm hb sc_law_pattern (by rintro ds d ⟨_, _,  r, rfl, _, _⟩; rfl) ?_
  rintro cdv A outer s F0 H0 vs ds d Q E hr g0 ra ⟨a_numbers, a_table,  rr, rfl, h, rfl⟩ q
  have hu64 : (A.deeper (envOfC "_law_pattern" (defScope (topS 16)) s.heap.objs.size f cdv)).units + 64 < cLine := by have := hr.un; omega
  have hu1 : (A.deeper (envOfC "_law_pattern" (defScope (topS 16)) s.heap.objs.size f cdv)).units + 1 < cLine := by have := hr.un; omega
  obtain ⟨v_numbers, v_table, rfl, r_numbers, r_table⟩ := ra.n2
  have nd := sc_law_pattern.nd
  unfold f_law_pattern at h
  refine s_asgF 2 sc_law_pattern.nd g0 x_int (fun H e g0 => ?_)
  obtain ⟨o4, ho4, h⟩ := bnd h
  refine s_forL 3 (fun (s1 : Int) F σ H => ∃ (y_size : Option V) (y_due : Option V), σ = [some v_numbers, some v_table, some (.int s1), y_size, y_due]) (fun (_ : Empty) _ _ => False) sc_law_pattern.nd g0 (x_var 0 r_numbers) ho4 (fun F H g g0 => ⟨_, _, rfl⟩) ?_ ?_ ?_
  · rintro z2 s1 o1 v_size F σ H h eF g0 rv ⟨y_size, y_due, rfl⟩
    have eT3 := g0.f.rf
    obtain rfl := rv.int_
    have r_numbers := r_numbers.up eF
    have r_table := r_table.up eF
    obtain ⟨t5, e5, h⟩ := bnd h
    refine s_asgF 2 sc_law_pattern.nd g0 (x_call k_law_gcd hr (xa_cons (x_var 3 (.int z2)) (xa_cons (x_var 2 (.int s1)) xa_nil)) ⟨_, _, _, rfl, e5, rfl⟩) (fun H e g0 => ?_)
    refine s_nil ?_
    cases h
    exact ⟨_, _, rfl, eT3, g0, _, _, rfl⟩
  · rintro s1 F σ H rfl eF g0 ⟨y_size, y_due, rfl⟩
    have r_numbers := r_numbers.up eF
    have r_table := r_table.up eF
    simp only [aft] at h
    obtain ⟨t11, e11, h⟩ := bnd h
    obtain ⟨t12, e12, h⟩ := bnd h
    obtain ⟨t13, e13, h⟩ := bnd h
    refine s_ret g0 (x_tup (xa_cons (x_var 2 (.int s1)) (xa_cons (x_add (x_sub (x_maxL (n_s (n_lcF (enc2 := D.int) [("due", 4)] 4 sc_law_pattern.nd (lsL (x_var 1 r_table)) e11 (blkOk_by (N := ["numbers", "table", "step", "size", "due"]) (sc := defScope (topS 16)) (by decide +kernel)) (by intro F1 z6 v7 b eF8 rv9 h; obtain rfl := rv9.flat (flat_oi _); cases h; exact fun _ _ _ _ _ => (xb_cmp (c_noO (x_var 4 (rp_oi z6))))) (by intro F1 z6 v7 b eF8 rv9 h; obtain rfl := rv9.flat (flat_oi _); obtain ⟨t10, e10, h⟩ := bnd h; cases h; exact fun _ _ _ _ _ => (EvR.un (enc := D.int) e10 (x_var 4 (rp_oi z6)))))) e12 M.max) (x_minL (x_s (x_var 0 r_numbers)) e13 M.min)) (x_var 2 (.int s1))) xa_nil))) (fun v F H g0 r => ?_)
    cases h
    exact q _ _ _ g0 r
  · exact fun z => z.elim
theorem sc_law_sizes : FnScope ["script", "head", "many", "row", "step", "menu", "k"] ["script"] (defScope (topS 17)) := ⟨rfl, rfl, rfl, by decide +kernel, rfl, by decide +kernel, by decide +kernel⟩
theorem k_law_sizes {f : Addr} {fd : FuncData} (Fn : Fun K "_law_sizes" "_law_sizes" (topS 17) f fd) (hm : mg "_law_sizes" = some (.ref f)) (hb : Binds K fd ["script"] []) (M : MgN mg) (k_law_cell : Kn P w K mg base 1 "_law_cell" R_law_cell) (k_law_digits : Kn P w K mg base 1 "_law_digits" R_law_digits) :
    Kn P w K mg base 2 "_law_sizes" R_law_sizes := by
  refine fun_kn Fn hm hb sc_law_sizes (by rintro ds d ⟨_,  r, rfl, _, _⟩; rfl) ?_
  rintro cdv A outer s F0 H0 vs ds d Q E hr g0 ra ⟨a_script,  rr, rfl, h, rfl⟩ q
  have hu64 : (A.deeper (envOfC "_law_sizes" (defScope (topS 17)) s.heap.objs.size f cdv)).units + 64 < cLine := by have := hr.un; omega
  have hu1 : (A.deeper (envOfC "_law_sizes" (defScope (topS 17)) s.heap.objs.size f cdv)).units + 1 < cLine := by have := hr.un; omega
  obtain ⟨v_script, rfl, r_script⟩ := ra.n1
  have nd := sc_law_sizes.nd
  unfold f_law_sizes at h
  obtain ⟨t1, e1, h⟩ := bnd h
  obtain ⟨t2, e2, h⟩ := bnd h
  refine s_asg 1 sc_law_sizes.nd g0 (x_call k_law_digits hr (xa_cons (x_call k_law_cell hr (xa_cons (x_var 0 r_script) (xa_cons x_int xa_nil)) ⟨_, _, _, rfl, e1, rfl⟩) (xa_cons (n_r (n_lst (xa_cons x_int (xa_cons x_int (xa_cons x_int (xa_cons x_int (xa_cons x_int xa_nil))))))) xa_nil)) ⟨_, _, _, rfl, e2, rfl⟩) (fun v_head F H g g0 r_head => ?_)
  have r_script := r_script.up g.f
  obtain ⟨t3, e3, h⟩ := bnd h
  obtain ⟨t4, e4, h⟩ := bnd h
  obtain ⟨t5, e5, h⟩ := bnd h
  refine s_asgF 2 sc_law_sizes.nd g0 (x_ix (n_s (n_lst (xa_cons x_int (xa_cons x_int (xa_cons x_int (xa_cons x_int (xa_cons x_int (xa_cons x_int (xa_cons x_int (xa_cons (x_add (x_ix (x_s (x_var 1 (r_head.up g0.fh))) x_int (atI_map (f := D.int) (xs := t2) e3)) x_int) xa_nil)))))))))) (x_ix (x_s (x_var 1 (r_head.up g0.fh))) x_int (atI_map (f := D.int) (xs := t2) e4)) (show atI [D.int 1, D.int 2, D.int 3, D.int 2, D.int 4, D.int 6, D.int 12, D.int ((t3 + 1))] t4 = some (D.int t5) from atI_map (f := D.int) e5)) (fun H e g0 => ?_)
  obtain ⟨t6, e6, h⟩ := bnd h
  obtain ⟨t7, e7, h⟩ := bnd h
  obtain ⟨t8, e8, h⟩ := bnd h
  refine s_asg 3 sc_law_sizes.nd g0 (x_call k_law_digits hr (xa_cons (x_call k_law_cell hr (xa_cons (x_var 0 r_script) (xa_cons x_int xa_nil)) ⟨_, _, _, rfl, e6, rfl⟩) (xa_cons (n_r (n_rep (n_s (n_lst (xa_cons x_int xa_nil))) (x_var 2 (.int t5)) (repO_map (f := D.int) e7))) xa_nil)) ⟨_, _, _, rfl, e8, rfl⟩) (fun v_row F H g g0 r_row => ?_)
  have r_script := r_script.up g.f
  have r_head := r_head.up g.f
  obtain ⟨t9, e9, h⟩ := bnd h
  refine s_if g0 (xb_cmp (c_eq (x_ix (x_s (x_var 1 (r_head.up g0.fh))) x_int (atI_map (f := D.int) (xs := t2) e9)) x_int)) (fun hb H e g0 => ?_) (fun hb H e g0 => ?_)
  · rw [if_pos hb] at h
    obtain ⟨t14, e14, h⟩ := bnd h
    refine s_ret g0 (n_r (n_lcM (enc2 := D.int) [("k", 6)] 6 sc_law_sizes.nd (lsL (x_var 3 r_row)) e14 (blkOk_by (N := ["script", "head", "many", "row", "step", "menu", "k"]) (sc := defScope (topS 17)) (by decide +kernel)) (by intro F1 z10 v11 b eF12 rv13 h; obtain rfl := rv13.int_; cases h; exact fun _ _ _ _ _ => (x_add (x_var 6 (.int z10)) x_int)))) (fun v F H g0 r => ?_)
    cases h
    exact q _ _ _ g0 r
  · rw [if_neg (by rw [hb]; decide)] at h
    refine s_nil ?_
    obtain ⟨t15, e15, h⟩ := bnd h
    refine s_if g0 (xb_cmp (c_eq (x_ix (x_s (x_var 1 (r_head.up g0.fh))) x_int (atI_map (f := D.int) (xs := t2) e15)) x_int)) (fun hb H e g0 => ?_) (fun hb H e g0 => ?_)
    · rw [if_pos hb] at h
      obtain ⟨t16, e16, h⟩ := bnd h
      refine s_asgF 4 sc_law_sizes.nd g0 (x_add (x_ix (x_s (x_var 1 (r_head.up g0.fh))) x_int (atI_map (f := D.int) (xs := t2) e16)) x_int) (fun H e g0 => ?_)
      obtain ⟨t24, e24, h⟩ := bnd h
      refine s_ret g0 (n_r (n_lcM (enc2 := D.int) [("k", 6)] 6 sc_law_sizes.nd (lsL (x_var 3 r_row)) e24 (blkOk_by (N := ["script", "head", "many", "row", "step", "menu", "k"]) (sc := defScope (topS 17)) (by decide +kernel)) (by intro F1 z17 v18 b eF19 rv20 h; obtain rfl := rv20.int_; obtain ⟨t21, e21, h⟩ := bnd h; obtain ⟨t22, e22, h⟩ := bnd h; obtain ⟨t23, e23, h⟩ := bnd h; cases h; exact fun _ _ _ _ _ => (x_mul (x_var 4 (.int ((t16 + 2)))) (x_add x_int (x_mod (x_int1 (x_var 6 (.int z17)) M.int) (x_div x_int (x_var 4 (.int ((t16 + 2)))) e21) e22)) e23)))) (fun v F H g0 r => ?_)
      cases h
      exact q _ _ _ g0 r
    · rw [if_neg (by rw [hb]; decide)] at h
      refine s_nil ?_
      obtain ⟨t25, e25, h⟩ := bnd h
      refine s_if g0 (xb_cmp (c_eq (x_ix (x_s (x_var 1 (r_head.up g0.fh))) x_int (atI_map (f := D.int) (xs := t2) e25)) x_int)) (fun hb H e g0 => ?_) (fun hb H e g0 => ?_)
      · rw [if_pos hb] at h
        obtain ⟨t31, e31, h⟩ := bnd h
        refine s_ret g0 (n_r (n_lcM (enc2 := D.int) [("k", 6)] 6 sc_law_sizes.nd (lsL (x_var 3 r_row)) e31 (blkOk_by (N := ["script", "head", "many", "row", "step", "menu", "k"]) (sc := defScope (topS 17)) (by decide +kernel)) (by intro F1 z26 v27 b eF28 rv29 h; obtain rfl := rv29.int_; obtain ⟨t30, e30, h⟩ := bnd h; cases h; exact fun _ _ _ _ _ => (x_sub x_int (x_mod (x_int1 (x_var 6 (.int z26)) M.int) x_int e30))))) (fun v F H g0 r => ?_)
        cases h
        exact q _ _ _ g0 r
      · rw [if_neg (by rw [hb]; decide)] at h
        refine s_nil ?_
        obtain ⟨t32, e32, h⟩ := bnd h
        refine s_if g0 (xb_cmp (c_eq (x_ix (x_s (x_var 1 (r_head.up g0.fh))) x_int (atI_map (f := D.int) (xs := t2) e32)) x_int)) (fun hb H e g0 => ?_) (fun hb H e g0 => ?_)
        · rw [if_pos hb] at h
          obtain ⟨t38, e38, h⟩ := bnd h
          refine s_ret g0 (n_r (n_lcM (enc2 := D.int) [("k", 6)] 6 sc_law_sizes.nd (lsL (x_var 3 r_row)) e38 (blkOk_by (N := ["script", "head", "many", "row", "step", "menu", "k"]) (sc := defScope (topS 17)) (by decide +kernel)) (by intro F1 z33 v34 b eF35 rv36 h; obtain rfl := rv36.int_; obtain ⟨t37, e37, h⟩ := bnd h; cases h; exact fun _ _ _ _ _ => (x_add x_int (x_mod (x_int1 (x_var 6 (.int z33)) M.int) x_int e37))))) (fun v F H g0 r => ?_)
          cases h
          exact q _ _ _ g0 r
        · rw [if_neg (by rw [hb]; decide)] at h
          refine s_nil ?_
          obtain ⟨t39, e39, h⟩ := bnd h
          refine s_if g0 (xb_cmp (c_eq (x_ix (x_s (x_var 1 (r_head.up g0.fh))) x_int (atI_map (f := D.int) (xs := t2) e39)) x_int)) (fun hb H e g0 => ?_) (fun hb H e g0 => ?_)
          · rw [if_pos hb] at h
            refine s_asg 5 sc_law_sizes.nd g0 (n_r (n_lst (xa_cons x_int (xa_cons x_int (xa_cons x_int (xa_cons x_int (xa_cons x_int (xa_cons x_int (xa_cons x_int (xa_cons x_int (xa_cons x_int (xa_cons x_int (xa_cons x_int (xa_cons x_int (xa_cons x_int (xa_cons x_int (xa_cons x_int (xa_cons x_int (xa_cons x_int xa_nil))))))))))))))))))) (fun v_menu F H g g0 r_menu => ?_)
            have r_script := r_script.up g.f
            have r_head := r_head.up g.f
            have r_row := r_row.up g.f
            obtain ⟨t46, e46, h⟩ := bnd h
            refine s_ret g0 (n_r (n_lcM (enc2 := D.int) [("k", 6)] 6 sc_law_sizes.nd (lsL (x_var 3 r_row)) e46 (blkOk_by (N := ["script", "head", "many", "row", "step", "menu", "k"]) (sc := defScope (topS 17)) (by decide +kernel)) (by intro F1 z40 v41 b eF42 rv43 h; obtain rfl := rv43.int_; obtain ⟨t44, e44, h⟩ := bnd h; obtain ⟨t45, e45, h⟩ := bnd h; cases h; exact fun _ _ _ _ _ => (x_ix (x_s (x_var 5 (r_menu.up eF42))) (x_mod (x_int1 (x_var 6 (.int z40)) M.int) x_int e44) (atI_map (f := D.int) (xs := [6, 2, 3, 4, 5, 6, 8, 10, 12, 15, 20, 24, 30, 40, 60, 120, 1]) e45))))) (fun v F H g0 r => ?_)
            cases h
            exact q _ _ _ g0 r
          · rw [if_neg (by rw [hb]; decide)] at h
            refine s_nil ?_
            obtain ⟨t56, e56, h⟩ := bnd h
            refine s_ret g0 (n_r (n_lcM (enc2 := D.int) [("k", 6)] 6 sc_law_sizes.nd (lsL (x_var 3 r_row)) e56 (blkOk_by (N := ["script", "head", "many", "row", "step", "menu", "k"]) (sc := defScope (topS 17)) (by decide +kernel)) (by intro F1 z47 v48 b eF49 rv50 h; obtain rfl := rv50.int_; obtain ⟨t51, e51, h⟩ := bnd h; obtain ⟨t52, e52, h⟩ := bnd h; obtain ⟨t53, e53, h⟩ := bnd h; obtain ⟨t54, e54, h⟩ := bnd h; obtain ⟨t55, e55, h⟩ := bnd h; cases h; exact fun _ _ _ _ _ => (x_add (x_add (x_ix (x_s (x_var 1 (r_head.up eF49))) x_int (atI_map (f := D.int) (xs := t2) e51)) x_int) (x_mul (x_mod (x_int1 (x_var 6 (.int z47)) M.int) x_int e52) (x_add x_int (x_mod (x_div (x_int1 (x_var 6 (.int z47)) M.int) x_int e53) x_int e54)) e55))))) (fun v F H g0 r => ?_)
            cases h
            exact q _ _ _ g0 r
theorem sc_law_counts : FnScope ["script", "numbers", "pattern", "head", "most", "planted", "k", "size", "asked"] ["script", "numbers", "pattern"] (defScope (topS 18)) := ⟨rfl, rfl, rfl, by decide +kernel, rfl, by decide +kernel, by decide +kernel⟩
theorem k_law_counts {f : Addr} {fd : FuncData} (Fn : Fun K "_law_counts" "_law_counts" (topS 18) f fd) (hm : mg "_law_counts" = some (.ref f)) (hb : Binds K fd ["script", "numbers", "pattern"] []) (M : MgN mg) (k_law_cell : Kn P w K mg base 1 "_law_cell" R_law_cell) (k_law_digits : Kn P w K mg base 1 "_law_digits" R_law_digits) :
    Kn P w K mg base 2 "_law_counts" R_law_counts := by
  refine fun_kn Fn hm hb sc_law_counts (by rintro ds d ⟨_, _, _,  r, rfl, _, _⟩; rfl) ?_
  rintro cdv A outer s F0 H0 vs ds d Q E hr g0 ra ⟨a_script, a_numbers, a_pattern,  rr, rfl, h, rfl⟩ q
  have hu64 : (A.deeper (envOfC "_law_counts" (defScope (topS 18)) s.heap.objs.size f cdv)).units + 64 < cLine := by have := hr.un; omega
  have hu1 : (A.deeper (envOfC "_law_counts" (defScope (topS 18)) s.heap.objs.size f cdv)).units + 1 < cLine := by have := hr.un; omega
  obtain ⟨v_script, v_numbers, v_pattern, rfl, r_script, r_numbers, r_pattern⟩ := ra.n3
  have nd := sc_law_counts.nd
  unfold f_law_counts at h
  obtain ⟨t1, e1, h⟩ := bnd h
  obtain ⟨t2, e2, h⟩ := bnd h
  refine s_asg 3 sc_law_counts.nd g0 (x_call k_law_digits hr (xa_cons (x_call k_law_cell hr (xa_cons (x_var 0 r_script) (xa_cons x_int xa_nil)) ⟨_, _, _, rfl, e1, rfl⟩) (xa_cons (n_r (n_lst (xa_cons x_int (xa_cons x_int (xa_cons x_int (xa_cons x_int (xa_cons x_int xa_nil))))))) xa_nil)) ⟨_, _, _, rfl, e2, rfl⟩) (fun v_head F H g g0 r_head => ?_)
  have r_script := r_script.up g.f
  have r_numbers := r_numbers.up g.f
  have r_pattern := r_pattern.up g.f
  obtain ⟨t3, e3, h⟩ := bnd h
  refine s_asgF 4 sc_law_counts.nd g0 (x_ifI (xb_cmp (c_eq (x_ix (x_s (x_var 3 (r_head.up g0.fh))) x_int (atI_map (f := D.int) (xs := t2) e3)) x_int)) x_int x_int) (fun H e g0 => ?_)
  refine s_asgF 5 sc_law_counts.nd g0 x_int (fun H e g0 => ?_)
  obtain ⟨t4, e4, h⟩ := bnd h
  obtain ⟨t5, e5, h⟩ := bnd h
  obtain ⟨t6, e6, h⟩ := bnd h
  obtain ⟨o10, ho10, h⟩ := bnd h
  refine s_forL 6 (fun (s7 : Int) F σ H => ∃ (y_k : Option V) (y_size : Option V) (y_asked : Option V), σ = [some v_script, some v_numbers, some v_pattern, some v_head, some (.int ((if (decide (t3 = 0)) = true then 20000 else 900))), some (.int s7), y_k, y_size, y_asked]) (fun (_ : Empty) _ _ => False) sc_law_counts.nd g0 (x_call k_law_digits hr (xa_cons (x_call k_law_cell hr (xa_cons (x_var 0 r_script) (xa_cons x_int xa_nil)) ⟨_, _, _, rfl, e4, rfl⟩) (xa_cons (n_r (n_rep (n_s (n_lst (xa_cons x_int xa_nil))) x_int (repO_map (f := D.int) e5))) xa_nil)) ⟨_, _, _, rfl, e6, rfl⟩) ho10 (fun F H g g0 => ⟨_, _, _, rfl⟩) ?_ ?_ ?_
  · rintro z8 s7 o1 v_k F σ H h eF g0 rv ⟨y_k, y_size, y_asked, rfl⟩
    have eT9 := g0.f.rf
    obtain rfl := rv.int_
    have r_script := r_script.up eF
    have r_numbers := r_numbers.up eF
    have r_pattern := r_pattern.up eF
    have r_head := r_head.up eF
    obtain ⟨t11, e11, h⟩ := bnd h
    obtain ⟨t12, e12, h⟩ := bnd h
    refine s_asgF 7 sc_law_counts.nd g0 (x_ix (x_s (x_var 1 (r_numbers.up g0.fh))) (x_mod (x_int1 (x_var 6 (.int z8)) M.int) (x_lenM (x_s (x_var 1 (r_numbers.up g0.fh))) M.len) e11) (atI_map (f := D.int) (xs := a_numbers) e12)) (fun H e g0 => ?_)
    obtain ⟨s13, hs13, h⟩ := bnd h
    refine s_ifj (fun F σ H => ∃ (y_asked : Option V), σ = [some v_script, some v_numbers, some v_pattern, some v_head, some (.int ((if (decide (t3 = 0)) = true then 20000 else 900))), some (.int s13), some (.int z8), some (.int t12), y_asked]) g0 (xb_cmp (c_le (x_add (x_var 5 (.int s7)) (x_var 7 (.int t12))) (x_var 4 (.int ((if (decide (t3 = 0)) = true then 20000 else 900)))))) (fun hb H e g0 => ?_) (fun hb H e g0 => ?_) ?_
    · rw [if_pos hb] at hs13
      have h := hs13
      have eJ := g0.f.rf
      refine s_asgF 5 sc_law_counts.nd g0 (x_add (x_var 5 (.int s7)) (x_var 7 (.int t12))) (fun H e g0 => ?_)
      refine s_nil ?_
      cases h
      exact ⟨_, eJ, g0, _, rfl⟩
    · rw [if_neg (by rw [hb]; decide)] at hs13
      have h := hs13
      have eJ := g0.f.rf
      refine s_nil ?_
      cases h
      exact ⟨_, eJ, g0, _, rfl⟩
    · rintro F σ H eF g0 ⟨y_asked, rfl⟩
      have eT9 := eT9.trans eF
      have r_script := r_script.up eF
      have r_numbers := r_numbers.up eF
      have r_pattern := r_pattern.up eF
      have r_head := r_head.up eF
      refine s_nil ?_
      cases h
      exact ⟨_, _, rfl, eT9, g0, _, _, _, rfl⟩
  · rintro s7 F σ H rfl eF g0 ⟨y_k, y_size, y_asked, rfl⟩
    have r_script := r_script.up eF
    have r_numbers := r_numbers.up eF
    have r_pattern := r_pattern.up eF
    have r_head := r_head.up eF
    simp only [aft] at h
    obtain ⟨t14, e14, h⟩ := bnd h
    obtain ⟨t15, e15, h⟩ := bnd h
    obtain ⟨t16, e16, h⟩ := bnd h
    refine s_asgNM 8 sc_law_counts.nd g0 (n_lst (xa_cons (x_var 5 (.int s7)) (xa_cons (x_min2 (x_var 4 (.int ((if (decide (t3 = 0)) = true then 20000 else 900)))) (x_add (x_var 5 (.int s7)) (x_ix (x_s (x_var 3 r_head)) x_int (atI_map (f := D.int) (xs := t2) e14))) M.min) (xa_cons (x_max2 x_int (x_sub (x_var 5 (.int s7)) (x_ix (x_s (x_var 3 r_head)) x_int (atI_map (f := D.int) (xs := t2) e15))) M.max) (xa_cons (x_ixT (x_var 2 r_pattern) x_int rfl) (xa_cons (x_sub (x_ixT (x_var 2 r_pattern) x_int rfl) (x_ixT (x_var 2 r_pattern) x_int rfl)) (xa_cons (x_ix (x_s (x_var 3 r_head)) x_int (atI_map (f := D.int) (xs := t2) e16)) (xa_cons x_int xa_nil)))))))) (fun l_asked F H g g0 nasked o_asked => ?_)
    have r_script := r_script.up g.f
    have r_numbers := r_numbers.up g.f
    have r_pattern := r_pattern.up g.f
    have r_head := r_head.up g.f
    obtain ⟨t17, e17, h⟩ := bnd h
    obtain ⟨t18, e18, h⟩ := bnd h
    obtain ⟨t19, e19, h⟩ := bnd h
    refine s_app 8 g0 o_asked (x_sub (x_ixT (x_var 2 r_pattern) x_int rfl) (x_mul (x_ixT (x_var 2 r_pattern) x_int rfl) (x_add x_int (x_ix (x_s (x_var 3 r_head)) x_int (atI_map (f := D.int) (xs := t2) e17))) e18)) (appO_map (f := D.int) e19) (fun F H eF g0 o_asked oth => ?_)
    have r_script := r_script.up eF
    have r_numbers := r_numbers.up eF
    have r_pattern := r_pattern.up eF
    have r_head := r_head.up eF
    obtain ⟨t20, e20, h⟩ := bnd h
    obtain ⟨s21, hs21, h⟩ := bnd h
    refine s_ifj (fun F σ H => ∃ (y_k : Option V) (y_size : Option V) (l_asked : Addr), σ = [some v_script, some v_numbers, some v_pattern, some v_head, some (.int ((if (decide (t3 = 0)) = true then 20000 else 900))), some (.int s7), y_k, y_size, some (.ref l_asked)] ∧ OwnL K H0 F H l_asked (s21.map D.int)) g0 (xb_cmp (c_eq (x_ix (x_s (x_var 3 (r_head.up g0.fh))) x_int (atI_map (f := D.int) (xs := t2) e20)) x_int)) (fun hb H e g0 => ?_) (fun hb H e g0 => ?_) ?_
    · rw [if_pos hb] at hs21
      have h := hs21
      have eJ := g0.f.rf
      have o_asked := o_asked.hop e
      obtain ⟨t22, e22, h⟩ := bnd h
      refine s_asgNM 8 sc_law_counts.nd g0 (n_lst (xa_cons (x_var 5 (.int s7)) (xa_cons (x_ix (x_s (x_var 3 r_head)) x_int (atI_map (f := D.int) (xs := t2) e22)) (xa_cons (x_sub (x_ixT (x_var 2 r_pattern) x_int rfl) (x_ixT (x_var 2 r_pattern) x_int rfl)) (xa_cons x_int xa_nil))))) (fun l_asked F H g g0 nasked o_asked => ?_)
      have eJ := eJ.trans g.f
      have r_script := r_script.up g.f
      have r_numbers := r_numbers.up g.f
      have r_pattern := r_pattern.up g.f
      have r_head := r_head.up g.f
      refine s_nil ?_
      cases h
      exact ⟨_, eJ, g0, _, _, _, rfl, o_asked⟩
    · rw [if_neg (by rw [hb]; decide)] at hs21
      have h := hs21
      have eJ := g0.f.rf
      have o_asked := o_asked.hop e
      refine s_nil ?_
      cases h
      exact ⟨_, eJ, g0, _, _, _, rfl, o_asked⟩
    · rintro F σ H eF g0 ⟨y_k, y_size, l_asked, rfl, o_asked⟩
      have r_script := r_script.up eF
      have r_numbers := r_numbers.up eF
      have r_pattern := r_pattern.up eF
      have r_head := r_head.up eF
      obtain ⟨t27, e27, h⟩ := bnd h
      refine s_ret g0 (n_r (n_lcF (enc2 := D.int) [("k", 6)] 6 sc_law_counts.nd (lsS (xs_rd 8 (o_asked.rd))) e27 (blkOk_by (N := ["script", "numbers", "pattern", "head", "most", "planted", "k", "size", "asked"]) (sc := defScope (topS 18)) (by decide +kernel)) (by intro F1 z23 v24 b eF25 rv26 h; obtain rfl := rv26.int_; cases h; exact fun _ _ _ _ _ => (xw_tb (xw_and (xb_cmp (c_le x_int (x_var 6 (.int z23)))) (xw_1 (xb_cmp (c_le (x_var 6 (.int z23)) (x_var 4 (.int ((if (decide (t3 = 0)) = true then 20000 else 900)))))))))) (by intro F1 z23 v24 b eF25 rv26 h; obtain rfl := rv26.int_; cases h; exact fun _ _ _ _ _ => (x_var 6 (.int z23))))) (fun v F H g0 r => ?_)
      cases h
      exact q _ _ _ g0 r
  · exact fun z => z.elim
theorem sc_law_row_right : FnScope ["passed", "numbers", "table", "asked", "due", "handed", "actual", "total", "before", "size"] ["passed", "numbers", "table", "asked"] (defScope (topS 19)) := ⟨rfl, rfl, rfl, by decide +kernel, rfl, by decide +kernel, by decide +kernel⟩
theorem k_law_row_right {f : Addr} {fd : FuncData} (Fn : Fun K "_law_row_right" "_law_row_right" (topS 19) f fd) (hm : mg "_law_row_right" = some (.ref f)) (hb : Binds K fd ["passed", "numbers", "table", "asked"] []) (M : MgN mg) (k_law_whole : Kn P w K mg base 1 "_law_whole" R_law_whole) (k_sum_row : Kn P w K mg base 2 "sum_row" R_sum_row) :
    Kn P w K mg base 3 "_law_row_right" R_law_row_right := by
  refine fun_kn Fn hm hb sc_law_row_right (by rintro ds d ⟨_, _, _, _,  r, rfl, _, _⟩; rfl) ?_
  rintro cdv A outer s F0 H0 vs ds d Q E hr g0 ra ⟨a_passed, a_numbers, a_table, a_asked,  rr, rfl, h, rfl⟩ q
  have hu64 : (A.deeper (envOfC "_law_row_right" (defScope (topS 19)) s.heap.objs.size f cdv)).units + 64 < cLine := by have := hr.un; omega
  have hu1 : (A.deeper (envOfC "_law_row_right" (defScope (topS 19)) s.heap.objs.size f cdv)).units + 1 < cLine := by have := hr.un; omega
  obtain ⟨v_passed, v_numbers, v_table, v_asked, rfl, r_passed, r_numbers, r_table, r_asked⟩ := ra.n4
  obtain rfl := r_asked.int_
  unfold f_law_row_right at h
  obtain ⟨t1, e1, h⟩ := bnd h
  obtain ⟨t2, e2, h⟩ := bnd h
  refine s_asgF 4 sc_law_row_right.nd g0 (x_ix (x_s (x_var 2 (r_table.up g0.fh))) (x_mod (x_int1 (x_var 3 (.int a_asked)) M.int) (x_lenM (x_s (x_var 2 (r_table.up g0.fh))) M.len) e1) (atI_map (f := (encO D.int)) (xs := a_table) e2)) (fun H e g0 => ?_) (hw := flat_oi t2)
  obtain ⟨t3, e3, h⟩ := bnd h
  obtain ⟨t4, e4, h⟩ := bnd h
  refine s_asg 5 sc_law_row_right.nd g0 (x_ifM (encQ D.int) (xb_val (x_isi (x_var 0 r_passed) e3 M.isinstance M.list)) e4 (fun h => by  cases h; exact (n_r (n_listOfQ (q := a_passed) (x_var 0 r_passed) M.list))) (fun h => by  cases h; exact (x_tupleOfQ (q := a_passed) (x_var 0 r_passed) M.tuple))) (fun v_handed F H g g0 r_handed => ?_)
  have r_passed := r_passed.up g.f
  have r_numbers := r_numbers.up g.f
  have r_table := r_table.up g.f
  obtain ⟨t5, e5, h⟩ := bnd h
  refine s_asg 6 sc_law_row_right.nd g0 (x_call k_sum_row hr (xa_cons (x_var 5 r_handed) (xa_cons (x_var 3 (.int a_asked)) xa_nil)) ⟨_, _, _, rfl, e5, rfl⟩) (fun v_actual F H g g0 r_actual => ?_)
  have r_passed := r_passed.up g.f
  have r_numbers := r_numbers.up g.f
  have r_table := r_table.up g.f
  have r_handed := r_handed.up g.f
  obtain ⟨t6, e6, h⟩ := bnd h
  refine s_if g0 (xb_cmp (c_neD hu64 (n_r (n_listOfQ (q := t4) (x_var 5 (r_handed.up g0.fh)) M.list)) (x_var 1 (r_numbers.up g0.fh)) e6)) (fun hb H e g0 => ?_) (fun hb H e g0 => ?_)
  · rw [if_pos hb] at h
    refine s_retF g0 x_bl (fun H e g0 => ?_)
    cases h
    exact q _ _ _ g0 (.bl _)
  · rw [if_neg (by rw [hb]; decide)] at h
    refine s_nil ?_
    obtain ⟨t8, e8, h⟩ := bnd h
    refine s_if g0 (xw_tb (xw_orM (xb_cmp (c_isO (x_var 4 (rp_oi t2)))) e8 (fun h => by obtain ⟨t7, e7, h⟩ := bnd h; cases h; exact (xw_1 (xb_cmp (c_gt (EvR.un (enc := D.int) e7 (x_var 4 (rp_oi t2))) (x_var 3 (.int a_asked)))))))) (fun hb H e g0 => ?_) (fun hb H e g0 => ?_)
    · rw [if_pos hb] at h
      refine s_retF g0 (x_cmp (c_isO (x_var 6 (r_actual.up g0.fh)))) (fun H e g0 => ?_)
      cases h
      exact q _ _ _ g0 (.bl _)
    · rw [if_neg (by rw [hb]; decide)] at h
      refine s_nil ?_
      obtain ⟨t9, e9, h⟩ := bnd h
      refine s_if g0 (xb_not (xb_val (x_isi (x_var 6 (r_actual.up g0.fh)) e9 M.isinstance M.tuple))) (fun hb H e g0 => ?_) (fun hb H e g0 => ?_)
      · rw [if_pos hb] at h
        refine s_retF g0 x_bl (fun H e g0 => ?_)
        cases h
        exact q _ _ _ g0 (.bl _)
      · rw [if_neg (by rw [hb]; decide)] at h
        refine s_nil ?_
        refine s_asgF 7 sc_law_row_right.nd g0 x_int (fun H e g0 => ?_)
        refine s_asgF 8 sc_law_row_right.nd g0 x_int (fun H e g0 => ?_)
        obtain ⟨t10, e10, h⟩ := bnd h
        obtain ⟨o14, ho14, h⟩ := bnd h
        refine s_forT 9 (fun (s11 : Int × Int) F σ H => ∃ (y_size : Option V), σ = [some v_passed, some v_numbers, some v_table, some (.int a_asked), some (vOI t2), some v_handed, some v_actual, some (.int s11.2), some (.int s11.1), y_size]) (fun (r : Bool) v H => ∃ F, Gr F0 H0 F H ∧ Rp K F v (D.bl r)) sc_law_row_right.nd g0 (EvR.un (enc := (encT D.int)) e10 (x_var 6 r_actual)) ho14 (fun F H g g0 => ⟨_, rfl⟩) ?_ ?_ ?_
        · rintro z12 s11 o1 v_size F σ H h eF g0 rv ⟨y_size, rfl⟩
          have eT13 := g0.f.rf
          obtain rfl := rv.int_
          have r_passed := r_passed.up eF
          have r_numbers := r_numbers.up eF
          have r_table := r_table.up eF
          have r_handed := r_handed.up eF
          have r_actual := r_actual.up eF
          obtain ⟨t15, e15, h⟩ := bnd h
          refine s_if g0 (xw_tb (xw_or (xb_not (xb_val (x_call k_law_whole hr (xa_cons (x_var 9 (.int z12)) xa_nil) ⟨_, _, rfl, e15, rfl⟩))) (xw_or (xb_cmp (c_lt (x_var 9 (.int z12)) (x_var 8 (.int s11.1)))) (xw_1 (xb_cmp (c_niI (x_var 9 (.int z12)) (x_s (x_var 1 (r_numbers.up g0.fh))))))))) (fun hb H e g0 => ?_) (fun hb H e g0 => ?_)
          · rw [if_pos hb] at h
            refine s_retF g0 x_bl (fun H e g0 => ?_)
            cases h
            exact ⟨_, rfl, _, g0, (.bl _)⟩
          · rw [if_neg (by rw [hb]; decide)] at h
            refine s_nil ?_
            refine s_asgF 8 sc_law_row_right.nd g0 (x_var 9 (.int z12)) (fun H e g0 => ?_)
            refine s_asgF 7 sc_law_row_right.nd g0 (x_add (x_var 7 (.int s11.2)) (x_var 9 (.int z12))) (fun H e g0 => ?_)
            refine s_nil ?_
            cases h
            exact ⟨_, _, rfl, eT13, g0, _, rfl⟩
        · rintro s11 F σ H rfl eF g0 ⟨y_size, rfl⟩
          have r_passed := r_passed.up eF
          have r_numbers := r_numbers.up eF
          have r_table := r_table.up eF
          have r_handed := r_handed.up eF
          have r_actual := r_actual.up eF
          simp only [aft] at h
          refine s_retF g0 (x_cmp (c_eq (x_var 7 (.int s11.2)) (x_var 3 (.int a_asked)))) (fun H e g0 => ?_)
          cases h
          exact q _ _ _ g0 (.bl _)
        · rintro r v H rfl ⟨F, g, rr⟩
          simp only [aft] at h
          cases h
          exact q _ _ _ g rr
theorem sc_law_pattern_right : FnScope ["passed", "numbers", "pattern", "actual"] ["passed", "numbers", "pattern"] (defScope (topS 20)) := ⟨rfl, rfl, rfl, by decide +kernel, rfl, by decide +kernel, by decide +kernel⟩
theorem k_law_pattern_right {f : Addr} {fd : FuncData} (Fn : Fun K "_law_pattern_right" "_law_pattern_right" (topS 20) f fd) (hm : mg "_law_pattern_right" = some (.ref f)) (hb : Binds K fd ["passed", "numbers", "pattern"] []) (M : MgN mg) (k_law_whole : Kn P w K mg base 1 "_law_whole" R_law_whole) (k_sum_pattern : Kn P w K mg base 2 "sum_pattern" R_sum_pattern) :
    Kn P w K mg base 3 "_law_pattern_right" R_law_pattern_right := by
  refine fun_kn Fn hm hb sc_law_pattern_right (by rintro ds d ⟨_, _, _,  r, rfl, _, _⟩; rfl) ?_
  rintro cdv A outer s F0 H0 vs ds d Q E hr g0 ra ⟨a_passed, a_numbers, a_pattern,  rr, rfl, h, rfl⟩ q
  have hu64 : (A.deeper (envOfC "_law_pattern_right" (defScope (topS 20)) s.heap.objs.size f cdv)).units + 64 < cLine := by have := hr.un; omega
  have hu1 : (A.deeper (envOfC "_law_pattern_right" (defScope (topS 20)) s.heap.objs.size f cdv)).units + 1 < cLine := by have := hr.un; omega
  obtain ⟨v_passed, v_numbers, v_pattern, rfl, r_passed, r_numbers, r_pattern⟩ := ra.n3
  unfold f_law_pattern_right at h
  obtain ⟨t1, e1, h⟩ := bnd h
  refine s_asg 3 sc_law_pattern_right.nd g0 (x_call k_sum_pattern hr (xa_cons (x_var 0 r_passed) xa_nil) ⟨_, _, rfl, e1, rfl⟩) (fun v_actual F H g g0 r_actual => ?_)
  have r_passed := r_passed.up g.f
  have r_numbers := r_numbers.up g.f
  have r_pattern := r_pattern.up g.f
  obtain ⟨t2, e2, h⟩ := bnd h
  obtain ⟨t7, e7, h⟩ := bnd h
  refine s_if g0 (xw_tb (xw_orM (xb_not (xb_val (x_isi (x_var 3 (r_actual.up g0.fh)) e2 M.isinstance M.tuple))) e7 (fun h => by obtain ⟨t6, e6, h⟩ := bnd h; cases h; exact (xw_orM (xb_cmp (c_ne (x_lenT (x_var 3 (r_actual.up g0.fh)) M.len) x_int)) e6 (fun h => by obtain ⟨t3, e3, h⟩ := bnd h; obtain ⟨t5, e5, h⟩ := bnd h; cases h; exact (xw_orM (xb_not (xb_val (x_call k_law_whole hr (xa_cons (x_ixT (x_var 3 (r_actual.up g0.fh)) x_int rfl) xa_nil) ⟨_, _, rfl, e3, rfl⟩))) e5 (fun h => by obtain ⟨t4, e4, h⟩ := bnd h; cases h; exact (xw_1 (xb_not (xb_val (x_call k_law_whole hr (xa_cons (x_ixT (x_var 3 (r_actual.up g0.fh)) x_int rfl) xa_nil) ⟨_, _, rfl, e4, rfl⟩))))))))))) (fun hb H e g0 => ?_) (fun hb H e g0 => ?_)
  · rw [if_pos hb] at h
    refine s_retF g0 x_bl (fun H e g0 => ?_)
    cases h
    exact q _ _ _ g0 (.bl _)
  · rw [if_neg (by rw [hb]; decide)] at h
    refine s_nil ?_
    obtain ⟨t8, e8, h⟩ := bnd h
    obtain ⟨t10, e10, h⟩ := bnd h
    refine s_retF g0 (xv_andM (x_cmp (c_eqD hu64 (x_var 3 (r_actual.up g0.fh)) (x_var 2 (r_pattern.up g0.fh)) e8)) e10 (fun h => by obtain ⟨t9, e9, h⟩ := bnd h; cases h; exact (xv_1 (x_cmp (c_eqD hu64 (n_r (n_listOfQ (q := a_passed) (x_var 0 (r_passed.up g0.fh)) M.list)) (x_var 1 (r_numbers.up g0.fh)) e9))))) (fun H e g0 => ?_)
    cases h
    exact q _ _ _ g0 (.bl _)
theorem sc_law : FnScope ["script", "numbers", "table", "pattern", "asked", "passed", "k", "other", "others"] ["script"] (defScope (topS 21)) := ⟨rfl, rfl, rfl, by decide +kernel, rfl, by decide +kernel, by decide +kernel⟩
theorem k_law {f : Addr} {fd : FuncData} (Fn : Fun K "law" "law" (topS 21) f fd) (M : MgN mg) (k_law_cell : Kn P w K mg base 1 "_law_cell" R_law_cell) (k_law_counts : Kn P w K mg base 2 "_law_counts" R_law_counts) (k_law_pattern : Kn P w K mg base 2 "_law_pattern" R_law_pattern) (k_law_pattern_right : Kn P w K mg base 3 "_law_pattern_right" R_law_pattern_right) (k_law_row_right : Kn P w K mg base 3 "_law_row_right" R_law_row_right) (k_law_sizes : Kn P w K mg base 2 "_law_sizes" R_law_sizes) (k_law_table : Kn P w K mg base 2 "_law_table" R_law_table) :
    FnOk P w K mg base CX0 4 f fd ["script"] (spR K R_law) := by
  refine fun_fn Fn sc_law (by rintro ds d ⟨_,  r, rfl, _, _⟩; rfl) ?_
  rintro cdv A outer s F0 H0 vs ds d Q E hr g0 ra ⟨a_script,  rr, rfl, h, rfl⟩ q
  have hu64 : (A.deeper (envOfC "law" (defScope (topS 21)) s.heap.objs.size f cdv)).units + 64 < cLine := by have := hr.un; omega
  have hu1 : (A.deeper (envOfC "law" (defScope (topS 21)) s.heap.objs.size f cdv)).units + 1 < cLine := by have := hr.un; omega
  obtain ⟨v_script, rfl, r_script⟩ := ra.n1
  unfold f_law at h
  obtain ⟨t1, e1, h⟩ := bnd h
  refine s_asg 1 sc_law.nd g0 (x_call k_law_sizes hr (xa_cons (x_var 0 r_script) xa_nil) ⟨_, _, rfl, e1, rfl⟩) (fun v_numbers F H g g0 r_numbers => ?_)
  have r_script := r_script.up g.f
  obtain ⟨t2, e2, h⟩ := bnd h
  refine s_asg 2 sc_law.nd g0 (x_call k_law_table hr (xa_cons (x_var 1 r_numbers) xa_nil) ⟨_, _, rfl, e2, rfl⟩) (fun v_table F H g g0 r_table => ?_)
  have r_script := r_script.up g.f
  have r_numbers := r_numbers.up g.f
  obtain ⟨t3, e3, h⟩ := bnd h
  refine s_asg 3 sc_law.nd g0 (x_call k_law_pattern hr (xa_cons (x_var 1 r_numbers) (xa_cons (x_var 2 r_table) xa_nil)) ⟨_, _, _, rfl, e3, rfl⟩) (fun v_pattern F H g g0 r_pattern => ?_)
  have r_script := r_script.up g.f
  have r_numbers := r_numbers.up g.f
  have r_table := r_table.up g.f
  obtain ⟨t4, e4, h⟩ := bnd h
  refine s_asg 4 sc_law.nd g0 (x_call k_law_counts hr (xa_cons (x_var 0 r_script) (xa_cons (x_var 1 r_numbers) (xa_cons (x_var 3 r_pattern) xa_nil))) ⟨_, _, _, _, rfl, e4, rfl⟩) (fun v_asked F H g g0 r_asked => ?_)
  have r_script := r_script.up g.f
  have r_numbers := r_numbers.up g.f
  have r_table := r_table.up g.f
  have r_pattern := r_pattern.up g.f
  refine s_asgNM 5 sc_law.nd g0 (n_listOf (x_s (x_var 1 r_numbers)) M.list) (fun l_passed F H g g0 npassed o_passed => ?_)
  have r_script := r_script.up g.f
  have r_numbers := r_numbers.up g.f
  have r_table := r_table.up g.f
  have r_pattern := r_pattern.up g.f
  have r_asked := r_asked.up g.f
  obtain ⟨t5, e5, h⟩ := bnd h
  refine s_if g0 (xb_not (xb_val (x_call k_law_pattern_right hr (xa_cons (x_var 5 (o_passed.now g0.fh)) (xa_cons (x_var 1 (r_numbers.up g0.fh)) (xa_cons (x_var 3 (r_pattern.up g0.fh)) xa_nil))) ⟨_, _, _, _, rfl, e5, rfl⟩))) (fun hb H e g0 => ?_) (fun hb H e g0 => ?_)
  · rw [if_pos hb] at h
    have o_passed := o_passed.hop e
    refine s_retF g0 x_bl (fun H e g0 => ?_)
    cases h
    exact q _ _ _ g0 (.bl _)
  · rw [if_neg (by rw [hb]; decide)] at h
    have o_passed := o_passed.hop e
    refine s_nil ?_
    obtain ⟨t6, e6, h⟩ := bnd h
    obtain ⟨o10, ho10, h⟩ := bnd h
    refine s_forR1 (rp := ⟨0, 0, 0, 0⟩) 6 (fun (s7 : Unit) F σ H => ∃ (y_k : Option V) (y_other : Option V) (y_others : Option V), σ = [some v_script, some v_numbers, some v_table, some v_pattern, some v_asked, some (.ref l_passed), y_k, y_other, y_others] ∧ OwnL K H0 F H l_passed (t1.map D.int)) (fun (r : Bool) v H => ∃ F, Gr F0 H0 F H ∧ Rp K F v (D.bl r)) sc_law.nd g0 (x_lenM (x_s (x_var 4 (r_asked.up g0.fh))) M.len) e6 ho10 (fun F H g g0 => ⟨_, _, _, rfl, o_passed.up g⟩) ?_ ?_ ?_ M.range
    · rintro z8 s7 o1 v_k F σ H h eF g0 rv ⟨y_k, y_other, y_others, rfl, o_passed⟩
      have eT9 := g0.f.rf
      obtain rfl := rv.int_
      have r_script := r_script.up eF
      have r_numbers := r_numbers.up eF
      have r_table := r_table.up eF
      have r_pattern := r_pattern.up eF
      have r_asked := r_asked.up eF
      obtain ⟨t11, e11, h⟩ := bnd h
      obtain ⟨t12, e12, h⟩ := bnd h
      obtain ⟨t13, e13, h⟩ := bnd h
      obtain ⟨t14, e14, h⟩ := bnd h
      refine s_if g0 (xb_not (xb_val (x_call k_law_row_right hr (xa_cons (x_ifM (encQ D.int) (xb_cmp (c_eq (x_mod (x_int1 (x_var 6 (.int z8)) M.int) x_int e11) x_int)) e12 (fun h => by  cases h; exact (x_var 5 (o_passed.now g0.fh))) (fun h => by  cases h; exact (x_tupleOf (x_s (x_var 1 (r_numbers.up g0.fh))) M.tuple))) (xa_cons (x_var 1 (r_numbers.up g0.fh)) (xa_cons (x_var 2 (r_table.up g0.fh)) (xa_cons (x_ix (x_s (x_var 4 (r_asked.up g0.fh))) (x_var 6 (.int z8)) (atI_map (f := D.int) (xs := t4) e13)) xa_nil)))) ⟨_, _, _, _, _, rfl, e14, rfl⟩))) (fun hb H e g0 => ?_) (fun hb H e g0 => ?_)
      · rw [if_pos hb] at h
        have o_passed := o_passed.hop e
        refine s_retF g0 x_bl (fun H e g0 => ?_)
        cases h
        exact ⟨_, rfl, _, g0, (.bl _)⟩
      · rw [if_neg (by rw [hb]; decide)] at h
        have o_passed := o_passed.hop e
        refine s_nil ?_
        refine s_nil ?_
        cases h
        exact ⟨_, _, rfl, eT9, g0, _, _, _, rfl, o_passed⟩
    · rintro s7 F σ H rfl eF g0 ⟨y_k, y_other, y_others, rfl, o_passed⟩
      have r_script := r_script.up eF
      have r_numbers := r_numbers.up eF
      have r_table := r_table.up eF
      have r_pattern := r_pattern.up eF
      have r_asked := r_asked.up eF
      simp only [aft] at h
      obtain ⟨t15, e15, h⟩ := bnd h
      obtain ⟨t16, e16, h⟩ := bnd h
      obtain ⟨t17, e17, h⟩ := bnd h
      refine s_asg 7 sc_law.nd g0 (n_r (n_cat (n_s (n_lst (xa_cons (x_add x_int (x_mod (x_int1 (x_call k_law_cell hr (xa_cons (x_var 0 r_script) (xa_cons x_int xa_nil)) ⟨_, _, _, rfl, e15, rfl⟩) M.int) x_int e16)) xa_nil))) (n_s (n_sliceM (x_s (x_var 1 r_numbers)) (xo_some x_int) xo_none)) (catO_map (f := D.int) e17))) (fun v_other F H g g0 r_other => ?_)
      have r_script := r_script.up g.f
      have r_numbers := r_numbers.up g.f
      have r_table := r_table.up g.f
      have r_pattern := r_pattern.up g.f
      have r_asked := r_asked.up g.f
      have o_passed := o_passed.up g
      obtain ⟨t18, e18, h⟩ := bnd h
      refine s_asg 8 sc_law.nd g0 (x_call k_law_table hr (xa_cons (x_var 7 r_other) xa_nil) ⟨_, _, rfl, e18, rfl⟩) (fun v_others F H g g0 r_others => ?_)
      have r_script := r_script.up g.f
      have r_numbers := r_numbers.up g.f
      have r_table := r_table.up g.f
      have r_pattern := r_pattern.up g.f
      have r_asked := r_asked.up g.f
      have o_passed := o_passed.up g
      have r_other := r_other.up g.f
      obtain ⟨t20, e20, h⟩ := bnd h
      obtain ⟨t19, e19, h⟩ := bnd h
      refine s_setI 5 g0 o_passed (x_ix (x_s (x_var 7 r_other)) x_int (atI_map (f := D.int) (xs := t17) e20)) x_int (setO_map (f := D.int) e19) (fun F H eF g0 o_passed oth => ?_)
      have r_script := r_script.up eF
      have r_numbers := r_numbers.up eF
      have r_table := r_table.up eF
      have r_pattern := r_pattern.up eF
      have r_asked := r_asked.up eF
      have r_other := r_other.up eF
      have r_others := r_others.up eF
      obtain ⟨t21, e21, h⟩ := bnd h
      obtain ⟨t22, e22, h⟩ := bnd h
      refine s_if g0 (xb_not (xb_val (x_call k_law_pattern_right hr (xa_cons (x_var 5 (o_passed.now g0.fh)) (xa_cons (x_var 7 (r_other.up g0.fh)) (xa_cons (x_call k_law_pattern hr (xa_cons (x_var 7 (r_other.up g0.fh)) (xa_cons (x_var 8 (r_others.up g0.fh)) xa_nil)) ⟨_, _, _, rfl, e21, rfl⟩) xa_nil))) ⟨_, _, _, _, rfl, e22, rfl⟩))) (fun hb H e g0 => ?_) (fun hb H e g0 => ?_)
      · rw [if_pos hb] at h
        have o_passed := o_passed.hop e
        refine s_retF g0 x_bl (fun H e g0 => ?_)
        cases h
        exact q _ _ _ g0 (.bl _)
      · rw [if_neg (by rw [hb]; decide)] at h
        have o_passed := o_passed.hop e
        refine s_nil ?_
        obtain ⟨o26, ho26, h⟩ := bnd h
        refine s_forL 6 (fun (s23 : Unit) F σ H => ∃ (y_k : Option V), σ = [some v_script, some v_numbers, some v_table, some v_pattern, some v_asked, some (.ref l_passed), y_k, some v_other, some v_others] ∧ OwnL K H0 F H l_passed (t19.map D.int)) (fun (r : Bool) v H => ∃ F, Gr F0 H0 F H ∧ Rp K F v (D.bl r)) sc_law.nd g0 (n_r (n_lst (xa_cons x_int (xa_cons x_int xa_nil)))) ho26 (fun F H g g0 => ⟨_, rfl, o_passed.up g⟩) ?_ ?_ ?_
        · rintro z24 s23 o1 v_k F σ H h eF g0 rv ⟨y_k, rfl, o_passed⟩
          have eT25 := g0.f.rf
          obtain rfl := rv.int_
          have r_script := r_script.up eF
          have r_numbers := r_numbers.up eF
          have r_table := r_table.up eF
          have r_pattern := r_pattern.up eF
          have r_asked := r_asked.up eF
          have r_other := r_other.up eF
          have r_others := r_others.up eF
          obtain ⟨t27, e27, h⟩ := bnd h
          obtain ⟨t28, e28, h⟩ := bnd h
          refine s_if g0 (xb_not (xb_val (x_call k_law_row_right hr (xa_cons (x_var 5 (o_passed.now g0.fh)) (xa_cons (x_var 7 (r_other.up g0.fh)) (xa_cons (x_var 8 (r_others.up g0.fh)) (xa_cons (x_ix (x_s (x_var 4 (r_asked.up g0.fh))) (x_var 6 (.int z24)) (atI_map (f := D.int) (xs := t4) e27)) xa_nil)))) ⟨_, _, _, _, _, rfl, e28, rfl⟩))) (fun hb H e g0 => ?_) (fun hb H e g0 => ?_)
          · rw [if_pos hb] at h
            have o_passed := o_passed.hop e
            refine s_retF g0 x_bl (fun H e g0 => ?_)
            cases h
            exact ⟨_, rfl, _, g0, (.bl _)⟩
          · rw [if_neg (by rw [hb]; decide)] at h
            have o_passed := o_passed.hop e
            refine s_nil ?_
            refine s_nil ?_
            cases h
            exact ⟨_, _, rfl, eT25, g0, _, rfl, o_passed⟩
        · rintro s23 F σ H rfl eF g0 ⟨y_k, rfl, o_passed⟩
          have r_script := r_script.up eF
          have r_numbers := r_numbers.up eF
          have r_table := r_table.up eF
          have r_pattern := r_pattern.up eF
          have r_asked := r_asked.up eF
          have r_other := r_other.up eF
          have r_others := r_others.up eF
          simp only [aft] at h
          obtain ⟨t29, e29, h⟩ := bnd h
          obtain ⟨t32, e32, h⟩ := bnd h
          refine s_retF g0 (xv_andM (x_call k_law_pattern_right hr (xa_cons (x_tupleOf (x_s (x_var 1 (r_numbers.up g0.fh))) M.tuple) (xa_cons (x_var 1 (r_numbers.up g0.fh)) (xa_cons (x_var 3 (r_pattern.up g0.fh)) xa_nil))) ⟨_, _, _, _, rfl, e29, rfl⟩) e32 (fun h => by obtain ⟨t30, e30, h⟩ := bnd h; obtain ⟨t31, e31, h⟩ := bnd h; cases h; exact (xv_1 (x_call k_law_row_right hr (xa_cons (x_var 1 (r_numbers.up g0.fh)) (xa_cons (x_var 1 (r_numbers.up g0.fh)) (xa_cons (x_var 2 (r_table.up g0.fh)) (xa_cons (x_ix (x_s (x_var 4 (r_asked.up g0.fh))) x_int (atI_map (f := D.int) (xs := t4) e30)) xa_nil)))) ⟨_, _, _, _, _, rfl, e31, rfl⟩)))) (fun H e g0 => ?_)
          cases h
          exact q _ _ _ g0 (.bl _)
        · rintro r v H rfl ⟨F, g, rr⟩
          simp only [aft] at h
          cases h
          exact q _ _ _ g rr
    · rintro r v H rfl ⟨F, g, rr⟩
      simp only [aft] at h
      cases h
      exact q _ _ _ g rr

end
end K72

namespace K72
open PySem L2 PySem.Spec PyProof.Rows Gx
end K72
namespace K72
open PySem L2 PySem.Spec PyProof.Rows Gx
theorem all_mk {l : PySem.W.OpenLaw} {w : World} {K : PySem.W.Frag} {h : Heap} {mg : Str → Option Value} {fa f1 f2 f3 f4 f5 f6 f7 f8 f9 f10 f11 f12 f13 f14 f15 f16 f17 : Addr} (X : K.In h) (G : h.Ns mainGlobals mg) (hfa : mg "law" = some (.ref fa))
    {od1 an1 od2 an2 od3 an3 od4 an4 od5 an5 od6 an6 od7 an7 od8 an8 od9 an9 od10 an10 od11 an11 od12 an12 od13 an13 od14 an14 od15 an15 od16 an16 od17 an17 : Option Addr} {sl1 sl2 sl3 sl4 sl5 sl6 sl7 sl8 sl9 sl10 sl11 sl12 sl13 sl14 sl15 sl16 sl17 : Array (Option Value)} {oc1 kV1 dc1 pm1 cd1 ct1 oc2 kV2 dc2 pm2 cd2 ct2 oc3 kV3 dc3 pm3 cd3 ct3 oc4 kV4 dc4 pm4 cd4 ct4 oc5 kV5 dc5 pm5 cd5 ct5 oc6 kV6 dc6 pm6 cd6 ct6 oc7 kV7 dc7 pm7 cd7 ct7 oc8 kV8 dc8 pm8 cd8 ct8 oc9 kV9 dc9 pm9 cd9 ct9 oc10 kV10 dc10 pm10 cd10 ct10 oc11 kV11 dc11 pm11 cd11 ct11 oc12 kV12 dc12 pm12 cd12 ct12 oc13 kV13 dc13 pm13 cd13 ct13 oc14 kV14 dc14 pm14 cd14 ct14 oc15 kV15 dc15 pm15 cd15 ct15 oc16 kV16 dc16 pm16 cd16 ct16 oc17 kV17 dc17 pm17 cd17 ct17 : Value}
    (a1 : PySem.W.nsIn K mainGlobals "last_sizes" = some (some (.ref f1))) (l1 : K.lookup f1 = some ⟨oc1, od1, .func (PySem.W.fnOf "last_sizes" "last_sizes" (defArgs (topS 5)) (defBody (topS 5)) (defScope (topS 5)) .none kV1 dc1 pm1 an1 cd1 ct1), sl1⟩)
    (c1 : PySem.W.codeIn K cd1 "last_sizes" = true) (k1 : PySem.W.keepIn K (.ref f1) = true)
    (a2 : PySem.W.nsIn K mainGlobals "sum_row" = some (some (.ref f2))) (l2 : K.lookup f2 = some ⟨oc2, od2, .func (PySem.W.fnOf "sum_row" "sum_row" (defArgs (topS 6)) (defBody (topS 6)) (defScope (topS 6)) .none kV2 dc2 pm2 an2 cd2 ct2), sl2⟩)
    (c2 : PySem.W.codeIn K cd2 "sum_row" = true) (k2 : PySem.W.keepIn K (.ref f2) = true)
    (a3 : PySem.W.nsIn K mainGlobals "common_step" = some (some (.ref f3))) (l3 : K.lookup f3 = some ⟨oc3, od3, .func (PySem.W.fnOf "common_step" "common_step" (defArgs (topS 7)) (defBody (topS 7)) (defScope (topS 7)) .none kV3 dc3 pm3 an3 cd3 ct3), sl3⟩)
    (c3 : PySem.W.codeIn K cd3 "common_step" = true) (k3 : PySem.W.keepIn K (.ref f3) = true)
    (a4 : PySem.W.nsIn K mainGlobals "ascending" = some (some (.ref f4))) (l4 : K.lookup f4 = some ⟨oc4, od4, .func (PySem.W.fnOf "ascending" "ascending" (defArgs (topS 3)) (defBody (topS 3)) (defScope (topS 3)) .none kV4 dc4 pm4 an4 cd4 ct4), sl4⟩)
    (c4 : PySem.W.codeIn K cd4 "ascending" = true) (k4 : PySem.W.keepIn K (.ref f4) = true)
    (a5 : PySem.W.nsIn K mainGlobals "least_sums" = some (some (.ref f5))) (l5 : K.lookup f5 = some ⟨oc5, od5, .func (PySem.W.fnOf "least_sums" "least_sums" (defArgs (topS 8)) (defBody (topS 8)) (defScope (topS 8)) .none kV5 dc5 pm5 an5 cd5 ct5), sl5⟩)
    (c5 : PySem.W.codeIn K cd5 "least_sums" = true) (k5 : PySem.W.keepIn K (.ref f5) = true)
    (a6 : PySem.W.nsIn K mainGlobals "sum_pattern" = some (some (.ref f6))) (l6 : K.lookup f6 = some ⟨oc6, od6, .func (PySem.W.fnOf "sum_pattern" "sum_pattern" (defArgs (topS 9)) (defBody (topS 9)) (defScope (topS 9)) .none kV6 dc6 pm6 an6 cd6 ct6), sl6⟩)
    (c6 : PySem.W.codeIn K cd6 "sum_pattern" = true) (k6 : PySem.W.keepIn K (.ref f6) = true)
    (a7 : PySem.W.nsIn K mainGlobals "_law_whole" = some (some (.ref f7))) (l7 : K.lookup f7 = some ⟨oc7, od7, .func (PySem.W.fnOf "_law_whole" "_law_whole" (defArgs (topS 11)) (defBody (topS 11)) (defScope (topS 11)) .none kV7 dc7 pm7 an7 cd7 ct7), sl7⟩)
    (c7 : PySem.W.codeIn K cd7 "_law_whole" = true) (k7 : PySem.W.keepIn K (.ref f7) = true)
    (a8 : PySem.W.nsIn K mainGlobals "_law_cell" = some (some (.ref f8))) (l8 : K.lookup f8 = some ⟨oc8, od8, .func (PySem.W.fnOf "_law_cell" "_law_cell" (defArgs (topS 12)) (defBody (topS 12)) (defScope (topS 12)) .none kV8 dc8 pm8 an8 cd8 ct8), sl8⟩)
    (c8 : PySem.W.codeIn K cd8 "_law_cell" = true) (k8 : PySem.W.keepIn K (.ref f8) = true)
    (a9 : PySem.W.nsIn K mainGlobals "_law_digits" = some (some (.ref f9))) (l9 : K.lookup f9 = some ⟨oc9, od9, .func (PySem.W.fnOf "_law_digits" "_law_digits" (defArgs (topS 13)) (defBody (topS 13)) (defScope (topS 13)) .none kV9 dc9 pm9 an9 cd9 ct9), sl9⟩)
    (c9 : PySem.W.codeIn K cd9 "_law_digits" = true) (k9 : PySem.W.keepIn K (.ref f9) = true)
    (a10 : PySem.W.nsIn K mainGlobals "_law_gcd" = some (some (.ref f10))) (l10 : K.lookup f10 = some ⟨oc10, od10, .func (PySem.W.fnOf "_law_gcd" "_law_gcd" (defArgs (topS 14)) (defBody (topS 14)) (defScope (topS 14)) .none kV10 dc10 pm10 an10 cd10 ct10), sl10⟩)
    (c10 : PySem.W.codeIn K cd10 "_law_gcd" = true) (k10 : PySem.W.keepIn K (.ref f10) = true)
    (a11 : PySem.W.nsIn K mainGlobals "_law_table" = some (some (.ref f11))) (l11 : K.lookup f11 = some ⟨oc11, od11, .func (PySem.W.fnOf "_law_table" "_law_table" (defArgs (topS 15)) (defBody (topS 15)) (defScope (topS 15)) .none kV11 dc11 pm11 an11 cd11 ct11), sl11⟩)
    (c11 : PySem.W.codeIn K cd11 "_law_table" = true) (k11 : PySem.W.keepIn K (.ref f11) = true)
    (a12 : PySem.W.nsIn K mainGlobals "_law_pattern" = some (some (.ref f12))) (l12 : K.lookup f12 = some ⟨oc12, od12, .func (PySem.W.fnOf "_law_pattern" "_law_pattern" (defArgs (topS 16)) (defBody (topS 16)) (defScope (topS 16)) .none kV12 dc12 pm12 an12 cd12 ct12), sl12⟩)
    (c12 : PySem.W.codeIn K cd12 "_law_pattern" = true) (k12 : PySem.W.keepIn K (.ref f12) = true)
    (a13 : PySem.W.nsIn K mainGlobals "_law_sizes" = some (some (.ref f13))) (l13 : K.lookup f13 = some ⟨oc13, od13, .func (PySem.W.fnOf "_law_sizes" "_law_sizes" (defArgs (topS 17)) (defBody (topS 17)) (defScope (topS 17)) .none kV13 dc13 pm13 an13 cd13 ct13), sl13⟩)
    (c13 : PySem.W.codeIn K cd13 "_law_sizes" = true) (k13 : PySem.W.keepIn K (.ref f13) = true)
    (a14 : PySem.W.nsIn K mainGlobals "_law_counts" = some (some (.ref f14))) (l14 : K.lookup f14 = some ⟨oc14, od14, .func (PySem.W.fnOf "_law_counts" "_law_counts" (defArgs (topS 18)) (defBody (topS 18)) (defScope (topS 18)) .none kV14 dc14 pm14 an14 cd14 ct14), sl14⟩)
    (c14 : PySem.W.codeIn K cd14 "_law_counts" = true) (k14 : PySem.W.keepIn K (.ref f14) = true)
    (a15 : PySem.W.nsIn K mainGlobals "_law_row_right" = some (some (.ref f15))) (l15 : K.lookup f15 = some ⟨oc15, od15, .func (PySem.W.fnOf "_law_row_right" "_law_row_right" (defArgs (topS 19)) (defBody (topS 19)) (defScope (topS 19)) .none kV15 dc15 pm15 an15 cd15 ct15), sl15⟩)
    (c15 : PySem.W.codeIn K cd15 "_law_row_right" = true) (k15 : PySem.W.keepIn K (.ref f15) = true)
    (a16 : PySem.W.nsIn K mainGlobals "_law_pattern_right" = some (some (.ref f16))) (l16 : K.lookup f16 = some ⟨oc16, od16, .func (PySem.W.fnOf "_law_pattern_right" "_law_pattern_right" (defArgs (topS 20)) (defBody (topS 20)) (defScope (topS 20)) .none kV16 dc16 pm16 an16 cd16 ct16), sl16⟩)
    (c16 : PySem.W.codeIn K cd16 "_law_pattern_right" = true) (k16 : PySem.W.keepIn K (.ref f16) = true)
    (a17 : PySem.W.nsIn K mainGlobals "law" = some (some (.ref f17))) (l17 : K.lookup f17 = some ⟨oc17, od17, .func (PySem.W.fnOf "law" "law" (defArgs (topS 21)) (defBody (topS 21)) (defScope (topS 21)) .none kV17 dc17 pm17 an17 cd17 ct17), sl17⟩)
    (c17 : PySem.W.codeIn K cd17 "law" = true) (k17 : PySem.W.keepIn K (.ref f17) = true)
    (z0 : PySem.W.nsIn K mainGlobals "bool" = some none)
    (z1 : PySem.W.nsIn K mainGlobals "int" = some none)
    (z2 : PySem.W.nsIn K mainGlobals "isinstance" = some none)
    (z3 : PySem.W.nsIn K mainGlobals "len" = some none)
    (z4 : PySem.W.nsIn K mainGlobals "list" = some none)
    (z5 : PySem.W.nsIn K mainGlobals "max" = some none)
    (z6 : PySem.W.nsIn K mainGlobals "min" = some none)
    (z7 : PySem.W.nsIn K mainGlobals "range" = some none)
    (z8 : PySem.W.nsIn K mainGlobals "sorted" = some none)
    (z9 : PySem.W.nsIn K mainGlobals "tuple" = some none)
    (m0 : PySem.W.nsIn K mainGlobals "gcd" = some (some (.builtin "math.gcd")))
    (m1 : PySem.W.nsIn K mainGlobals "heappop" = some (some (.builtin "_heapq.heappop")))
    (m2 : PySem.W.nsIn K mainGlobals "heappush" = some (some (.builtin "_heapq.heappush")))
    : ∃ fd : FuncData, (∀ (s : Shared) (v : Value), BindsTo s fd ⟨[v], []⟩ [("script", v)]) ∧ ∀ base : Heap, K.In base → base.Ns mainGlobals mg → FnOk l.prog w K mg base CX0 4 fa fd ["script"] (spR K R_law) := by
  have e := hfa.symm.trans (PySem.W.mg_of X G a17)
  cases e
  have M : MgN mg := ⟨PySem.W.mg_none_of X G z0, PySem.W.mg_none_of X G z1, PySem.W.mg_none_of X G z2, PySem.W.mg_none_of X G z3, PySem.W.mg_none_of X G z4, PySem.W.mg_none_of X G z5, PySem.W.mg_none_of X G z6, PySem.W.mg_none_of X G z7, PySem.W.mg_none_of X G z8, PySem.W.mg_none_of X G z9, PySem.W.mg_of X G m0, PySem.W.mg_of X G m1, PySem.W.mg_of X G m2⟩
  have F1 := fun_mk (st := (topS 5)) l1 c1 k1
  have b1 := F1.binds (ps := ["sizes", "count"]) fun _ _ _ _ _ _ us hl => match us, hl with | [_, _], _ => rfl
  have F2 := fun_mk (st := (topS 6)) l2 c2 k2
  have b2 := F2.binds (ps := ["sizes", "count"]) fun _ _ _ _ _ _ us hl => match us, hl with | [_, _], _ => rfl
  have F3 := fun_mk (st := (topS 7)) l3 c3 k3
  have b3 := F3.binds (ps := ["sizes"]) fun _ _ _ _ _ _ us hl => match us, hl with | [_], _ => rfl
  have F4 := fun_mk (st := (topS 3)) l4 c4 k4
  have b4 := F4.binds (ps := ["values"]) fun _ _ _ _ _ _ us hl => match us, hl with | [_], _ => rfl
  have F5 := fun_mk (st := (topS 8)) l5 c5 k5
  have b5 := F5.binds (ps := ["sizes"]) fun _ _ _ _ _ _ us hl => match us, hl with | [_], _ => rfl
  have F6 := fun_mk (st := (topS 9)) l6 c6 k6
  have b6 := F6.binds (ps := ["sizes"]) fun _ _ _ _ _ _ us hl => match us, hl with | [_], _ => rfl
  have F7 := fun_mk (st := (topS 11)) l7 c7 k7
  have b7 := F7.binds (ps := ["thing"]) fun _ _ _ _ _ _ us hl => match us, hl with | [_], _ => rfl
  have F8 := fun_mk (st := (topS 12)) l8 c8 k8
  have b8 := F8.binds (ps := ["script", "k"]) fun _ _ _ _ _ _ us hl => match us, hl with | [_, _], _ => rfl
  have F9 := fun_mk (st := (topS 13)) l9 c9 k9
  have b9 := F9.binds (ps := ["cell", "sizes"]) fun _ _ _ _ _ _ us hl => match us, hl with | [_, _], _ => rfl
  have F10 := fun_mk (st := (topS 14)) l10 c10 k10
  have b10 := F10.binds (ps := ["one", "two"]) fun _ _ _ _ _ _ us hl => match us, hl with | [_, _], _ => rfl
  have F11 := fun_mk (st := (topS 15)) l11 c11 k11
  have b11 := F11.binds (ps := ["numbers"]) fun _ _ _ _ _ _ us hl => match us, hl with | [_], _ => rfl
  have F12 := fun_mk (st := (topS 16)) l12 c12 k12
  have b12 := F12.binds (ps := ["numbers", "table"]) fun _ _ _ _ _ _ us hl => match us, hl with | [_, _], _ => rfl
  have F13 := fun_mk (st := (topS 17)) l13 c13 k13
  have b13 := F13.binds (ps := ["script"]) fun _ _ _ _ _ _ us hl => match us, hl with | [_], _ => rfl
  have F14 := fun_mk (st := (topS 18)) l14 c14 k14
  have b14 := F14.binds (ps := ["script", "numbers", "pattern"]) fun _ _ _ _ _ _ us hl => match us, hl with | [_, _, _], _ => rfl
  have F15 := fun_mk (st := (topS 19)) l15 c15 k15
  have b15 := F15.binds (ps := ["passed", "numbers", "table", "asked"]) fun _ _ _ _ _ _ us hl => match us, hl with | [_, _, _, _], _ => rfl
  have F16 := fun_mk (st := (topS 20)) l16 c16 k16
  have b16 := F16.binds (ps := ["passed", "numbers", "pattern"]) fun _ _ _ _ _ _ us hl => match us, hl with | [_, _, _], _ => rfl
  have F17 := fun_mk (st := (topS 21)) l17 c17 k17
  refine ⟨PySem.W.fnOf "law" "law" (defArgs (topS 21)) (defBody (topS 21)) (defScope (topS 21)) .none kV17 dc17 pm17 an17 cd17 ct17, fun s v => .of_eq rfl, fun base _ _ => ?_⟩
  have k_last_sizes_ : Kn l.prog w K mg base 1 "last_sizes" R_last_sizes := k_last_sizes F1 (PySem.W.mg_of X G a1) b1 M 
  have k_sum_row_ : Kn l.prog w K mg base 2 "sum_row" R_sum_row := k_sum_row F2 (PySem.W.mg_of X G a2) b2 M k_last_sizes_
  have k_common_step_ : Kn l.prog w K mg base 1 "common_step" R_common_step := k_common_step F3 (PySem.W.mg_of X G a3) b3 M 
  have k_ascending_ : Kn l.prog w K mg base 1 "ascending" R_ascending := k_ascending F4 (PySem.W.mg_of X G a4) b4 M 
  have k_least_sums_ : Kn l.prog w K mg base 1 "least_sums" R_least_sums := k_least_sums F5 (PySem.W.mg_of X G a5) b5 M 
  have k_sum_pattern_ : Kn l.prog w K mg base 2 "sum_pattern" R_sum_pattern := k_sum_pattern F6 (PySem.W.mg_of X G a6) b6 M k_ascending_ k_common_step_ k_least_sums_
  have k_law_whole_ : Kn l.prog w K mg base 1 "_law_whole" R_law_whole := k_law_whole F7 (PySem.W.mg_of X G a7) b7 M 
  have k_law_cell_ : Kn l.prog w K mg base 1 "_law_cell" R_law_cell := k_law_cell F8 (PySem.W.mg_of X G a8) b8 M 
  have k_law_digits_ : Kn l.prog w K mg base 1 "_law_digits" R_law_digits := k_law_digits F9 (PySem.W.mg_of X G a9) b9 M 
  have k_law_gcd_ : Kn l.prog w K mg base 1 "_law_gcd" R_law_gcd := k_law_gcd F10 (PySem.W.mg_of X G a10) b10 M 
  have k_law_table_ : Kn l.prog w K mg base 2 "_law_table" R_law_table := k_law_table F11 (PySem.W.mg_of X G a11) b11 M k_law_gcd_
  have k_law_pattern_ : Kn l.prog w K mg base 2 "_law_pattern" R_law_pattern := k_law_pattern F12 (PySem.W.mg_of X G a12) b12 M k_law_gcd_
  have k_law_sizes_ : Kn l.prog w K mg base 2 "_law_sizes" R_law_sizes := k_law_sizes F13 (PySem.W.mg_of X G a13) b13 M k_law_cell_ k_law_digits_
  have k_law_counts_ : Kn l.prog w K mg base 2 "_law_counts" R_law_counts := k_law_counts F14 (PySem.W.mg_of X G a14) b14 M k_law_cell_ k_law_digits_
  have k_law_row_right_ : Kn l.prog w K mg base 3 "_law_row_right" R_law_row_right := k_law_row_right F15 (PySem.W.mg_of X G a15) b15 M k_law_whole_ k_sum_row_
  have k_law_pattern_right_ : Kn l.prog w K mg base 3 "_law_pattern_right" R_law_pattern_right := k_law_pattern_right F16 (PySem.W.mg_of X G a16) b16 M k_law_whole_ k_sum_pattern_
  exact k_law F17 M k_law_cell_ k_law_counts_ k_law_pattern_ k_law_pattern_right_ k_law_row_right_ k_law_sizes_ k_law_table_
theorem walk {l : PySem.W.OpenLaw} {q : Program} {loose : List Str} {XP : (Str → Option Value) → Heap → Prop} {YP : World → Heap → Prop} {d : DefRec} {K : Params → PySem.W.Frag} (hn : l.most = some 63) (hdf : d.params.defaults = [])
    (hY : ∀ (w : World) (h : Heap), YP w h → (K w.params).In h)
    (F : ∀ (w : World) (mg : Str → Option Value) (fa : Addr) (h : Heap), (K w.params).In h → h.Ns mainGlobals mg → mg d.name = some (.ref fa) →
      ∃ fd : FuncData, (∀ (s : Shared) (u : Value), BindsTo s fd ⟨[u], []⟩ [("script", u)]) ∧ ∀ base : Heap, (K w.params).In base → base.Ns mainGlobals mg → FnOk l.prog w (K w.params) mg base CX0 4 fa fd ["script"] (spR (K w.params) R_law)) :
    PySem.W.WalkO q loose XP YP l.row.toRowW d [] (fun f vs => PySem.call f vs) :=
  L2.walk_of (n := 63) (k := 4) (x := "script") (CX := fun _ => CX0) (sp := fun w => spR (K w.params) R_law) hn (by decide) hdf ⟨rfl, by decide, by decide⟩ hY F (fun w H a ns hl _ hS =>
    ⟨H, [.scr ns], .bl true, Ex.refl _, .cons (.scr hS (Nat.le_trans hl (by decide))) .nil, ⟨ns, true, rfl, plain ns hl, rfl⟩, fun v F2 H2 _ r => r.bl_⟩) fun _ _ _ _ _ z => z
end K72
open PySem PySem.W PyProof.Rows in
set_option maxRecDepth 100000 in
set_option maxHeartbeats 0 in
theorem PySem.Challenge.cw_likemakeslike_k72_sums_holds : PySem.Challenge.rw_likemakeslike_k72_sums.Holds := by
  w_on; o_law; k_head; (case hw => w_witness2)
  k_fill
  refine K72.walk (l := PySem.Challenge.rw_likemakeslike_k72_sums) rfl rfl (fun w h Y => PySem.W.kIn_of Y) ?F
  case F =>
    intro w mg fa h KX G hmg
    refine' K72.all_mk KX G hmg ?a1 ?l1 ?c1 ?k1 ?a2 ?l2 ?c2 ?k2 ?a3 ?l3 ?c3 ?k3 ?a4 ?l4 ?c4 ?k4 ?a5 ?l5 ?c5 ?k5 ?a6 ?l6 ?c6 ?k6 ?a7 ?l7 ?c7 ?k7 ?a8 ?l8 ?c8 ?k8 ?a9 ?l9 ?c9 ?k9 ?a10 ?l10 ?c10 ?k10 ?a11 ?l11 ?c11 ?k11 ?a12 ?l12 ?c12 ?k12 ?a13 ?l13 ?c13 ?k13 ?a14 ?l14 ?c14 ?k14 ?a15 ?l15 ?c15 ?k15 ?a16 ?l16 ?c16 ?k16 ?a17 ?l17 ?c17 ?k17 ?z0 ?z1 ?z2 ?z3 ?z4 ?z5 ?z6 ?z7 ?z8 ?z9 ?m0 ?m1 ?m2
    (case a1 => k_is)
    (case l1 => k_is)
    (case c1 => k_is)
    (case k1 => k_is)
    (case a2 => k_is)
    (case l2 => k_is)
    (case c2 => k_is)
    (case k2 => k_is)
    (case a3 => k_is)
    (case l3 => k_is)
    (case c3 => k_is)
    (case k3 => k_is)
    (case a4 => k_is)
    (case l4 => k_is)
    (case c4 => k_is)
    (case k4 => k_is)
    (case a5 => k_is)
    (case l5 => k_is)
    (case c5 => k_is)
    (case k5 => k_is)
    (case a6 => k_is)
    (case l6 => k_is)
    (case c6 => k_is)
    (case k6 => k_is)
    (case a7 => k_is)
    (case l7 => k_is)
    (case c7 => k_is)
    (case k7 => k_is)
    (case a8 => k_is)
    (case l8 => k_is)
    (case c8 => k_is)
    (case k8 => k_is)
    (case a9 => k_is)
    (case l9 => k_is)
    (case c9 => k_is)
    (case k9 => k_is)
    (case a10 => k_is)
    (case l10 => k_is)
    (case c10 => k_is)
    (case k10 => k_is)
    (case a11 => k_is)
    (case l11 => k_is)
    (case c11 => k_is)
    (case k11 => k_is)
    (case a12 => k_is)
    (case l12 => k_is)
    (case c12 => k_is)
    (case k12 => k_is)
    (case a13 => k_is)
    (case l13 => k_is)
    (case c13 => k_is)
    (case k13 => k_is)
    (case a14 => k_is)
    (case l14 => k_is)
    (case c14 => k_is)
    (case k14 => k_is)
    (case a15 => k_is)
    (case l15 => k_is)
    (case c15 => k_is)
    (case k15 => k_is)
    (case a16 => k_is)
    (case l16 => k_is)
    (case c16 => k_is)
    (case k16 => k_is)
    (case a17 => k_is)
    (case l17 => k_is)
    (case c17 => k_is)
    (case k17 => k_is)
    (case z0 => k_is)
    (case z1 => k_is)
    (case z2 => k_is)
    (case z3 => k_is)
    (case z4 => k_is)
    (case z5 => k_is)
    (case z6 => k_is)
    (case z7 => k_is)
    (case z8 => k_is)
    (case z9 => k_is)
    (case m0 => k_is)
    (case m1 => k_is)
    (case m2 => k_is)

