import PyProof.Rows.All
import Wide.All
import OpenK.AllK
import Wide.FinOn
import HandS.ForMost
import HandS.Walk
import HandS.TupAny
import HandS.TupLen
import HandS.TupLe
import HandS.DictTup
import HandS.DictComp
import HandS.SortRule
import HandS.SortInts
import HandS.Conv
import HandS.Wide
import HandS.IsInst
import HandS.Deep
import HandS.More
import KE.KDictKeyed
import KE.GoesMore
import KE.DataMinMax
import KE.KDictWalk
import KE.KDictCopyH
import KE.KDictOf
import KE.KDictDisplayH
import KE.KeyNested
import PySem.Challenge.RW_lastdoors_k45_whole_most_and_least_of_en
set_option Elab.async false
set_option linter.all false
set_option maxRecDepth 100000
set_option maxHeartbeats 4000000
/-! LdLay: values told by types (Ty), readings told by types (Gv), statements, defs' promises (spG). -/
namespace LD
open PySem PyProof.Rows L2

/-! ## types of values over a heap -/
structure Ty where
  p : V → Hp → Prop
  m : ∀ {v : V} {H H' : Hp}, Same H H' → p v H → p v H'

def All : List Ty → List V → Hp → Prop
  | [], [], _ => True
  | t :: ts, v :: vs, H => t.p v H ∧ All ts vs H
  | _, _, _ => False
theorem All.m {H H' : Hp} (s : Same H H') : ∀ {ts : List Ty} {vs : List V}, All ts vs H → All ts vs H'
  | [], [], _ => trivial
  | t :: ts, v :: vs, h => ⟨t.m s h.1, All.m s h.2⟩
  | [], _ :: _, h => h.elim
  | _ :: _, [], h => h.elim
theorem All.len {H : Hp} : ∀ {ts : List Ty} {vs : List V}, All ts vs H → vs.length = ts.length
  | [], [], _ => rfl
  | t :: ts, v :: vs, h => congrArg (· + 1) (All.len h.2)
  | [], _ :: _, h => h.elim
  | _ :: _, [], h => h.elim
theorem All.get {H : Hp} : ∀ {ts : List Ty} {vs : List V} {i : Nat} {T : Ty}, All ts vs H → ts[i]? = some T → ∃ v, vs[i]? = some v ∧ T.p v H
  | [], [], _, _, _, e => by simp at e
  | t :: ts, v :: vs, 0, T, h, e => ⟨v, rfl, by simp at e; subst e; exact h.1⟩
  | t :: ts, v :: vs, i + 1, T, h, e => by
    obtain ⟨u, h1, h2⟩ := All.get (i := i) h.2 (by simpa using e)
    exact ⟨u, by simpa using h1, h2⟩
  | [], _ :: _, _, _, h, _ => h.elim
  | _ :: _, [], _, _, h, _ => h.elim
theorem All.at {H : Hp} : ∀ {ts : List Ty} {vs : List V} {i : Nat} {v : V}, All ts vs H → vs[i]? = some v → ∃ T, ts[i]? = some T ∧ T.p v H
  | [], [], _, _, _, e => by simp at e
  | t :: ts, w :: vs, 0, v, h, e => ⟨t, rfl, by simp at e; subst e; exact h.1⟩
  | t :: ts, w :: vs, i + 1, v, h, e => by
    obtain ⟨u, h1, h2⟩ := All.at (i := i) h.2 (by simpa using e)
    exact ⟨u, by simpa using h1, h2⟩
  | [], _ :: _, _, _, h, _ => h.elim
  | _ :: _, [], _, _, h, _ => h.elim
theorem All.append {H : Hp} {us : List Ty} {ws : List V} (k : All us ws H) : ∀ {ts : List Ty} {vs : List V}, All ts vs H → All (ts ++ us) (vs ++ ws) H
  | [], [], _ => k
  | t :: ts, v :: vs, h => ⟨h.1, All.append k h.2⟩
  | [], _ :: _, h => h.elim
  | _ :: _, [], h => h.elim
theorem All.of {H : Hp} : ∀ {ts : List Ty} {vs : List V}, vs.length = ts.length → (∀ (i : Nat) (T : Ty) (v : V), ts[i]? = some T → vs[i]? = some v → T.p v H) → All ts vs H
  | [], [], _, _ => trivial
  | t :: ts, v :: vs, hl, h => ⟨h 0 t v rfl rfl, All.of (by simpa using hl) fun i T v e1 e2 => h (i + 1) T v (by simpa using e1) (by simpa using e2)⟩
  | [], _ :: _, hl, _ => by simp at hl
  | _ :: _, [], hl, _ => by simp at hl

/-- just this value -/
def yX (x : V) : Ty := ⟨fun v _ => v = x, fun _ h => h⟩
abbrev yI (i : Int) : Ty := yX (.int i)
abbrev yB (b : Bool) : Ty := yX (.bl b)
abbrev yN : Ty := yX .non
/-- a tuple -/
def yT (ts : List Ty) : Ty := ⟨fun v H => ∃ a vs, v = .ref a ∧ H a = some (.tup vs) ∧ All ts vs H, fun s ⟨a, vs, e, h, k⟩ => ⟨a, vs, e, s _ _ h, k.m s⟩⟩
/-- a list -/
def yL (ts : List Ty) : Ty := ⟨fun v H => ∃ a vs, v = .ref a ∧ H a = some (.lst vs) ∧ All ts vs H, fun s ⟨a, vs, e, h, k⟩ => ⟨a, vs, e, s _ _ h, k.m s⟩⟩
/-- a tuple of ints -/
abbrev yIs (ns : List Int) : Ty := yT (ns.map yI)
theorem same_t {K : PySem.W.Frag} {H H' : Hp} {a : Addr} {xs : List V} (e : Same H H') (h : SqT K H a xs) : SqT K H' a xs := by
  rcases h with (h | ⟨o, h⟩) | h
  · exact .inl (.inl (e _ _ h))
  · exact .inl (.inr ⟨o, e _ _ h⟩)
  · exact .inr h
/-- a fraction in lowest terms -/
def yF (K : PySem.W.Frag) (r : Rat) : Ty := ⟨fun v H => ∃ a, v = .ref a ∧ SqT K H a [.int r.num, .int r.den], fun s ⟨a, e, h⟩ => ⟨a, e, same_t s h⟩⟩
theorem all_ints {H : Hp} : ∀ {ns : List Int} {vs : List V}, All (ns.map yI) vs H ↔ vs = ns.map V.int
  | [], [] => ⟨fun _ => rfl, fun _ => trivial⟩
  | n :: ns, v :: vs => by
    constructor
    · rintro ⟨h1, h2⟩
      obtain rfl : v = .int n := h1
      rw [(all_ints (ns := ns)).mp h2]
      rfl
    · intro e
      obtain ⟨rfl, e2⟩ := List.cons.inj e
      exact ⟨rfl, (all_ints (ns := ns)).mpr e2⟩
  | [], _ :: _ => ⟨fun h => h.elim, fun h => by simp at h⟩
  | _ :: _, [] => ⟨fun h => h.elim, fun h => by simp at h⟩
theorem yIs_iff {ns : List Int} {v : V} {H : Hp} : (yIs ns).p v H ↔ ∃ a, v = .ref a ∧ H a = some (.tup (ns.map V.int)) := by
  constructor
  · rintro ⟨a, vs, e, h, k⟩
    rw [all_ints.mp k] at h
    exact ⟨a, e, h⟩
  · rintro ⟨a, e, h⟩
    exact ⟨a, _, e, h, all_ints.mpr rfl⟩


/-! ## the base: what is published; the heap: that and what is owned -/
structure Gr (B H B' H' : Hp) : Prop where
  bs : Same B B'
  hs : Same H H'
  in_ : Same B' H'
  nw : ∀ a, B' a ≠ none → B a ≠ none ∨ H a = none ∨ ∃ xs, H a = some (.tup xs)
theorem Gr.refl {B H : Hp} (s : Same B H) : Gr B H B H := ⟨Same.refl _, Same.refl _, s, fun _ h => .inl h⟩
theorem Gr.trans {B H B1 H1 B2 H2 : Hp} (g : Gr B H B1 H1) (k : Gr B1 H1 B2 H2) : Gr B H B2 H2 :=
  ⟨g.bs.trans k.bs, g.hs.trans k.hs, k.in_, fun a h => by
    rcases k.nw a h with h1 | h1 | ⟨xs, h1⟩
    · exact g.nw a h1
    · exact .inr (.inl (g.hs.free h1))
    · cases e : H a with
      | none => exact .inr (.inl rfl)
      | some o =>
        rw [g.hs a o e] at h1
        exact .inr (.inr ⟨xs, h1⟩)⟩
theorem size_1000 {n : Nat} (h : n ≤ 100000) : n ≤ sizeLine := Nat.le_trans h (by decide)
theorem size_lt {n : Nat} (h : n < 100000) : n < sizeLine := Nat.lt_of_lt_of_le h (by decide)
theorem same_new {H : Hp} {p : Addr} {o : HO} (h : H p = none) : Same H (upd H p o) := fun a u e => by
  rw [upd_ne (ne_of_none e h)]
  exact e
/-- an object that B does not know may change -/
theorem same_mut {B H : Hp} {p : Addr} {o : HO} (s : Same B H) (h : B p = none) : Same B (upd H p o) := fun a u ha => by
  rw [upd_ne (ne_of_none ha h)]
  exact s a u ha
theorem same_upd {B H : Hp} {p : Addr} {o : HO} (s : Same B H) : Same (upd B p o) (upd H p o) := fun a u ha => by
  by_cases e : a = p
  · subst e
    rw [upd_same] at ha ⊢
    exact ha
  · rw [upd_ne e] at ha ⊢
    exact s a u ha
/-- laid and published -/
theorem Gr.new {B H : Hp} {p : Addr} {o : HO} (s : Same B H) (h : H p = none) : Gr B H (upd B p o) (upd H p o) :=
  ⟨same_new (s.free h), same_new h, same_upd s, fun a k => by
    by_cases e : a = p
    · subst e; exact .inr (.inl h)
    · rw [upd_ne e] at k; exact .inl k⟩
/-- laid, owned -/
theorem Gr.own {B H : Hp} {p : Addr} {o : HO} (s : Same B H) (h : H p = none) : Gr B H B (upd H p o) :=
  ⟨Same.refl _, same_new h, s.trans (same_new h), fun a k => .inl k⟩
/-- what is owned since the start is published -/
theorem Gr.pub {B0 H0 B H : Hp} {p : Addr} {o : HO} (g : Gr B0 H0 B H) (h : H p = some o) (n : H0 p = none) (nb : B p = none) : Gr B0 H0 (upd B p o) H :=
  ⟨g.bs.trans (same_new nb), g.hs, fun a u ha => by
    by_cases e : a = p
    · subst e
      rw [upd_same] at ha
      rw [← ha]
      exact h
    · rw [upd_ne e] at ha
      exact g.in_ a u ha, fun a k => by
    by_cases e : a = p
    · subst e; exact .inr (.inl n)
    · rw [upd_ne e] at k; exact g.nw a k⟩
/-- a tuple of the heap is published -/
theorem Gr.take {B H : Hp} {q : Addr} {xs : List V} (s : Same B H) (h : H q = some (.tup xs)) : Gr B H (upd B q (.tup xs)) H :=
  ⟨fun a o e => by
    by_cases z : a = q
    · subst z
      rw [upd_same]
      rw [s _ _ e] at h
      exact h.symm
    · rw [upd_ne z]; exact e, Same.refl _, fun a o e => by
    by_cases z : a = q
    · subst z
      rw [upd_same] at e
      rw [← e]; exact h
    · rw [upd_ne z] at e; exact s a o e, fun a k => by
    by_cases z : a = q
    · subst z; exact .inr (.inr ⟨xs, h⟩)
    · rw [upd_ne z] at k; exact .inl k⟩
/-- what is owned since the start changes -/
theorem Gr.mut {B0 H0 B H : Hp} {p : Addr} {o : HO} (g : Gr B0 H0 B H) (n : H0 p = none) (nb : B p = none) : Gr B0 H0 B (upd H p o) :=
  ⟨g.bs, same_mut g.hs n, same_mut g.in_ nb, g.nw⟩
/-- new since the start: not in the base -/
theorem Gr.nb {B0 H0 B H : Hp} {p : Addr} (g : Gr B0 H0 B H) (h : H p = none) : B p = none := g.in_.free h
/-- owned ahead: still not in the base -/
theorem Gr.ob {B0 H0 B H : Hp} {p : Addr} {o : HO} (g : Gr B0 H0 B H) (h : H0 p = some o) (nb : B0 p = none) (nt : ∀ xs, o ≠ .tup xs := by intro _ z; cases z) : B p = none := by
  cases e : B p with
  | none => rfl
  | some u =>
    rcases g.nw p (by rw [e]; exact fun z => nomatch z) with k | k | ⟨xs, k⟩
    · exact absurd nb k
    · rw [h] at k; cases k
    · rw [h] at k
      exact absurd (Option.some.inj k) (nt xs)

def Post (B H : Hp) (T : Ty) (Q : VK) : Prop := ∀ v B' H', Gr B H B' H' → T.p v B' → Q v H'
theorem Post.go {B H B1 H1 : Hp} {T : Ty} {Q : VK} (q : Post B H T Q) (g : Gr B H B1 H1) : Post B1 H1 T Q := fun v B' H' k h => q v B' H' (g.trans k) h

/-! ## readings told by types -/
def Gv (te : TE) (σ : L2.St) (B : Hp) (T : Ty) : Prop := ∀ H, Same B H → ∀ Q : VK, Post B H T Q → te σ H Q
def GvA (ta : TA) (σ : L2.St) (B : Hp) (Ts : List Ty) : Prop := ∀ H, Same B H → ∀ Q : List V → Hp → Prop, (∀ vs B' H', Gr B H B' H' → All Ts vs B' → Q vs H') → ta σ H Q
def GvT (tt : TT) (σ : L2.St) (B : Hp) (b : Bool) : Prop := ∀ H, Same B H → ∀ Q : Bool → Hp → Prop, (∀ B' H', Gr B H B' H' → Q b H') → tt σ H Q
section
variable {σ : L2.St} {B B0 : Hp} {T A C : Ty} {te ta tb : TE} {t u : TT}
theorem Gv.m {B' : Hp} (s : Same B B') (h : Gv te σ B T) : Gv te σ B' T := fun H a Q q => by
  refine h H (s.trans a) Q fun v B1 H1 g hv => ?_
  -- B1 may lack what B' has beyond B: join them
  let J : Hp := fun x => match B' x with | some o => some o | none => B1 x
  have hB : Same B' J := fun x o e => by show (match B' x with | some o => some o | none => B1 x) = some o; rw [e]
  have hJ : Same B1 J := fun x o e => by
    show (match B' x with | some o => some o | none => B1 x) = some o
    cases e2 : B' x with
    | none => exact e
    | some o2 =>
      have h1 := g.in_ x o e
      have h2 := g.hs x o2 (a x o2 e2)
      rw [h1] at h2
      exact h2.symm
  refine q v J H1 ⟨hB, g.hs, fun x o e => ?_, fun x hx => ?_⟩ (T.m hJ hv)
  · have e : (match B' x with | some o => some o | none => B1 x) = some o := e
    cases e2 : B' x with
    | none => rw [e2] at e; exact g.in_ x o e
    | some o2 =>
      rw [e2] at e
      have z : o2 = o := Option.some.inj e
      subst z
      exact g.hs x _ (a x _ e2)
  · have hx : (match B' x with | some o => some o | none => B1 x) ≠ none := hx
    cases e2 : B' x with
    | some o2 => exact .inl fun z => nomatch z
    | none =>
      rw [e2] at hx
      rcases g.nw x hx with k | k | k
      · exfalso
        cases e3 : B x with
        | none => exact k e3
        | some o3 => rw [s x o3 e3] at e2; cases e2
      · exact .inr (.inl k)
      · exact .inr (.inr k)
theorem GvT.m {B' : Hp} {b : Bool} (s : Same B B') (h : GvT t σ B b) : GvT t σ B' b := fun H a Q q => by
  refine h H (s.trans a) Q fun B1 H1 g => q B' H1 ⟨Same.refl _, g.hs, a.trans g.hs, fun x hx => .inl hx⟩
theorem Gv.imp (h : Gv te σ B A) (k : ∀ v B1, Same B B1 → A.p v B1 → C.p v B1) : Gv te σ B C := fun H s Q q => h H s Q fun v B2 H2 g hv => q v B2 H2 g (k v B2 g.bs hv)
theorem Gv.cast (h : Gv te σ B A) (e : A = C) : Gv te σ B C := e ▸ h
theorem GvT.cast {b c : Bool} (h : GvT t σ B b) (e : b = c) : GvT t σ B c := e ▸ h
theorem gv_var {i : Nat} {v : V} (h : σ[i]? = some (some v)) (hp : T.p v B0) (s : Same B0 B) : Gv (tVar i) σ B T :=
  fun H a Q q => ⟨v, h, q v B H (Gr.refl a) (T.m s hp)⟩
theorem gv_v {i : Nat} {v : V} (h : σ[i]? = some (some v)) : Gv (tVar i) σ B (yX v) := gv_var (B0 := B) h rfl (Same.refl _)
theorem gv_c {v : V} : Gv (tC v) σ B (yX v) := fun H a Q q => q v B H (Gr.refl a) rfl
theorem gv_ct {v : V} (hp : T.p v B0) (s : Same B0 B) : Gv (tC v) σ B T := fun H a Q q => q v B H (Gr.refl a) (T.m s hp)
theorem gv_op {r : R2} (ha : Gv ta σ B A) (hb : Gv tb σ B C) (hr : ∀ x y B1 H1, Same B B1 → Same B1 H1 → A.p x B1 → C.p y B1 → ∀ Q : VK, Post B1 H1 T Q → r x y H1 Q) : Gv (tOp r ta tb) σ B T :=
  fun H s Q q => ha H s _ fun x B2 H2 g hx => (hb.m g.bs) H2 g.in_ _ fun y B3 H3 g2 hy => hr x y B3 H3 (g.bs.trans g2.bs) g2.in_ (A.m g2.bs hx) hy Q (q.go (g.trans g2))
theorem gv_I0 {g : Int → Int → V} {i j : Int} (ha : Gv ta σ B (yI i)) (hb : Gv tb σ B (yI j)) : Gv (tOp (rI0 g) ta tb) σ B (yX (g i j)) :=
  gv_op ha hb fun x y B1 H1 _ s hx hy Q q => ⟨i, j, hx, hy, q _ B1 H1 (Gr.refl s) rfl⟩
theorem gv_IC {C : Int → Int → Prop} {g : Int → Int → V} {i j : Int} (ha : Gv ta σ B (yI i)) (hb : Gv tb σ B (yI j)) (hc : C i j) : Gv (tOp (rI C g) ta tb) σ B (yX (g i j)) :=
  gv_op ha hb fun x y B1 H1 _ s hx hy Q q => ⟨i, j, hx, hy, hc, q _ B1 H1 (Gr.refl s) rfl⟩
theorem gv_eq {x y : V} (ha : Gv ta σ B (yX x)) (hb : Gv tb σ B (yX y)) (h : scal x y = true) : Gv (tOp rEq ta tb) σ B (yB (decide (x = y))) :=
  gv_op ha hb fun x' y' B1 H1 _ s hx hy Q q => by
    obtain rfl : x' = x := hx
    obtain rfl : y' = y := hy
    exact ⟨h, q _ B1 H1 (Gr.refl s) rfl⟩
theorem gv_ne {x y : V} (ha : Gv ta σ B (yX x)) (hb : Gv tb σ B (yX y)) (h : scal x y = true) : Gv (tOp rNe ta tb) σ B (yB (!decide (x = y))) :=
  gv_op ha hb fun x' y' B1 H1 _ s hx hy Q q => by
    obtain rfl : x' = x := hx
    obtain rfl : y' = y := hy
    exact ⟨h, q _ B1 H1 (Gr.refl s) rfl⟩
theorem gv_neg {i : Int} (ha : Gv ta σ B (yI i)) : Gv (tUn (rU fun i => .int (-i)) ta) σ B (yI (-i)) :=
  fun H s Q q => ha H s _ fun x B2 H2 g hx => ⟨i, hx, q _ B2 H2 g rfl⟩
/-! tuples, lists: their items -/
def IsTu (K : PySem.W.Frag) (T : Ty) (ts : List Ty) : Prop := ∀ v H, T.p v H → ∃ a vs, v = .ref a ∧ SqT K H a vs ∧ All ts vs H
def IsLs (K : PySem.W.Frag) (T : Ty) (ts : List Ty) : Prop := ∀ v H, T.p v H → ∃ a vs, v = .ref a ∧ SqL K H a vs ∧ All ts vs H
theorem isTu_t {K : PySem.W.Frag} {ts : List Ty} : IsTu K (yT ts) ts := fun v H ⟨a, vs, e, h, k⟩ => ⟨a, vs, e, SqT.of h, k⟩
theorem isTu_f {K : PySem.W.Frag} {r : Rat} : IsTu K (yF K r) [yI r.num, yI r.den] := fun v H ⟨a, e, h⟩ => ⟨a, _, e, h, rfl, rfl, trivial⟩
theorem isLs_l {K : PySem.W.Frag} {ts : List Ty} : IsLs K (yL ts) ts := fun v H ⟨a, vs, e, h, k⟩ => ⟨a, vs, e, SqL.of h, k⟩
theorem same_l {K : PySem.W.Frag} {H H' : Hp} {a : Addr} {xs : List V} (e : Same H H') (h : SqL K H a xs) : SqL K H' a xs := e.seq h
theorem gv_ixT {K : PySem.W.Frag} {ts : List Ty} {i : Int} {j : Nat} (ha : Gv ta σ B A) (hb : Gv tb σ B (yI i)) (ht : IsTu K A ts) (hi : i = (j : Int)) (e : ts[j]? = some T) : Gv (tOp (rIxT K) ta tb) σ B T :=
  gv_op ha hb fun x y B1 H1 _ s hx hy Q q => by
    obtain ⟨a, vs, ex, h, k⟩ := ht x B1 hx
    obtain ⟨v, hv, tv⟩ := k.get e
    subst hi
    exact ⟨a, vs, (j : Int), v, ex, hy, same_t s h, atI_nat hv, q v B1 H1 (Gr.refl s) tv⟩
theorem gv_ixL {K : PySem.W.Frag} {ts : List Ty} {i : Int} {j : Nat} (ha : Gv ta σ B A) (hb : Gv tb σ B (yI i)) (ht : IsLs K A ts) (hi : i = (j : Int)) (e : ts[j]? = some T) : Gv (tOp (rIxL K) ta tb) σ B T :=
  gv_op ha hb fun x y B1 H1 _ s hx hy Q q => by
    obtain ⟨a, vs, ex, h, k⟩ := ht x B1 hx
    obtain ⟨v, hv, tv⟩ := k.get e
    subst hi
    exact ⟨a, vs, (j : Int), v, ex, hy, same_l s h, atI_nat hv, q v B1 H1 (Gr.refl s) tv⟩
/-! arguments, displays, calls -/
theorem ga_nil : GvA tNil σ B [] := fun H a Q q => q [] B H (Gr.refl a) trivial
theorem ga_cons {tr : TA} {Ts : List Ty} (h : Gv ta σ B A) (hr : ∀ B1, Same B B1 → GvA tr σ B1 Ts) : GvA (tCons ta tr) σ B (A :: Ts) := fun H s Q q =>
  h H s _ fun v B2 H2 g hv => hr B2 g.bs H2 g.in_ _ fun vs B3 H3 g2 hvs => q _ B3 H3 (g.trans g2) ⟨A.m g2.bs hv, hvs⟩
theorem ga_1 (h : Gv ta σ B A) : GvA (tCons ta tNil) σ B [A] := ga_cons h fun _ _ => ga_nil
theorem ga_2 (h : Gv ta σ B A) (h2 : Gv tb σ B C) : GvA (tCons ta (tCons tb tNil)) σ B [A, C] := ga_cons h fun _ s => ga_1 (h2.m s)
theorem ga_3 {tc : TE} {D : Ty} (h : Gv ta σ B A) (h2 : Gv tb σ B C) (h3 : Gv tc σ B D) : GvA (tCons ta (tCons tb (tCons tc tNil))) σ B [A, C, D] := ga_cons h fun _ s => ga_2 (h2.m s) (h3.m s)
theorem ga_4 {tc td : TE} {D F : Ty} (h : Gv ta σ B A) (h2 : Gv tb σ B C) (h3 : Gv tc σ B D) (h4 : Gv td σ B F) : GvA (tCons ta (tCons tb (tCons tc (tCons td tNil)))) σ B [A, C, D, F] := ga_cons h fun _ s => ga_3 (h2.m s) (h3.m s) (h4.m s)
theorem ga_5 {tc td tf : TE} {D F G : Ty} (h : Gv ta σ B A) (h2 : Gv tb σ B C) (h3 : Gv tc σ B D) (h4 : Gv td σ B F) (h5 : Gv tf σ B G) : GvA (tCons ta (tCons tb (tCons tc (tCons td (tCons tf tNil))))) σ B [A, C, D, F, G] := ga_cons h fun _ s => ga_4 (h2.m s) (h3.m s) (h4.m s) (h5.m s)
theorem gv_tup {tr : TA} {Ts : List Ty} (h : GvA tr σ B Ts) (hl : Ts.length ≤ 100000) : Gv (L2.tTup tr) σ B (yT Ts) := fun H s Q q =>
  h H s _ fun vs B2 H2 g hvs => ⟨size_1000 (by rw [hvs.len]; exact hl), fun p hp => q _ _ _ (g.trans (Gr.new g.in_ hp)) ⟨p, vs, rfl, upd_same, hvs.m (same_new (g.nb hp))⟩⟩
theorem gv_lst {tr : TA} {Ts : List Ty} (h : GvA tr σ B Ts) (hl : Ts.length ≤ 100000) : Gv (tLst tr) σ B (yL Ts) := fun H s Q q =>
  h H s _ fun vs B2 H2 g hvs => ⟨size_1000 (by rw [hvs.len]; exact hl), fun p hp => q _ _ _ (g.trans (Gr.new g.in_ hp)) ⟨p, vs, rfl, upd_same, hvs.m (same_new (g.nb hp))⟩⟩
def Gives (sp : Sp) (Ts : List Ty) (T : Ty) : Prop := ∀ vs B H, Same B H → All Ts vs B → ∀ (Q : VK) (E : XK), Post B H T Q → sp vs H Q E
/-- the reading of a call f(e, ..) -/
def tCl (sp : Sp) (t : TA) : TE := fun σ H Q => t σ H fun vs H1 => sp vs H1 Q E0
theorem gv_cl {sp : Sp} {tr : TA} {Ts : List Ty} (h : GvA tr σ B Ts) (g : Gives sp Ts T) : Gv (tCl sp tr) σ B T := fun H s Q q =>
  h H s _ fun vs B2 H2 g2 hvs => g vs B2 H2 g2.in_ hvs Q E0 (q.go g2)
/-- a built-in: r's own answer -/
theorem gv_cb {r : List V → Hp → VK → Prop} {tr : TA} {Ts : List Ty} (h : GvA tr σ B Ts) (g : ∀ vs B1 H1, Same B B1 → Same B1 H1 → All Ts vs B1 → ∀ Q : VK, Post B1 H1 T Q → r vs H1 Q) : Gv (tCB r tr) σ B T := fun H s Q q =>
  h H s _ fun vs B2 H2 g2 hvs => g vs B2 H2 g2.bs g2.in_ hvs Q (q.go g2)
theorem all1 {A : Ty} {vs : List V} {H : Hp} (h : All [A] vs H) : ∃ v, vs = [v] ∧ A.p v H := match vs, h with
  | [v], h => ⟨v, rfl, h.1⟩
theorem all2 {A B : Ty} {vs : List V} {H : Hp} (h : All [A, B] vs H) : ∃ v w, vs = [v, w] ∧ A.p v H ∧ B.p w H := match vs, h with
  | [v, w], h => ⟨v, w, rfl, h.1, h.2.1⟩
theorem all3 {A B C : Ty} {vs : List V} {H : Hp} (h : All [A, B, C] vs H) : ∃ v w x, vs = [v, w, x] ∧ A.p v H ∧ B.p w H ∧ C.p x H := match vs, h with
  | [v, w, x], h => ⟨v, w, x, rfl, h.1, h.2.1, h.2.2.1⟩
theorem all4 {A B C D : Ty} {vs : List V} {H : Hp} (h : All [A, B, C, D] vs H) : ∃ v w x y, vs = [v, w, x, y] ∧ A.p v H ∧ B.p w H ∧ C.p x H ∧ D.p y H := match vs, h with
  | [v, w, x, y], h => ⟨v, w, x, y, rfl, h.1, h.2.1, h.2.2.1, h.2.2.2.1⟩
theorem all5 {A B C D F : Ty} {vs : List V} {H : Hp} (h : All [A, B, C, D, F] vs H) : ∃ v w x y z, vs = [v, w, x, y, z] ∧ A.p v H ∧ B.p w H ∧ C.p x H ∧ D.p y H ∧ F.p z H := match vs, h with
  | [v, w, x, y, z], h => ⟨v, w, x, y, z, rfl, h.1, h.2.1, h.2.2.1, h.2.2.2.1, h.2.2.2.2.1⟩
def rAbs : List V → Hp → VK → Prop := fun xs H Q => ∃ i, xs = [.int i] ∧ Q (.int (if i < 0 then -i else i)) H
def rInt1 : List V → Hp → VK → Prop := fun xs H Q => (∃ i, xs = [.int i] ∧ Q (.int i) H) ∨ ∃ k, xs = [.bl k] ∧ Q (.int (if k then 1 else 0)) H
def rMax2 : List V → Hp → VK → Prop := fun xs H Q => ∃ i j, xs = [.int i, .int j] ∧ Q (.int (if j > i then j else i)) H
def rLenSeq (K : PySem.W.Frag) : List V → Hp → VK → Prop := fun xs H Q => ∃ p ys, xs = [.ref p] ∧ (SqL K H p ys ∨ SqT K H p ys) ∧ Q (.int ys.length) H
theorem gv_abs {i : Int} (h : Gv ta σ B (yI i)) : Gv (tCB rAbs (tCons ta tNil)) σ B (yI (i.natAbs : Int)) :=
  gv_cb (ga_1 h) fun vs B1 H1 _ s hvs Q q => by
    obtain ⟨v, rfl, hv⟩ := all1 hvs
    obtain rfl : v = .int i := hv
    refine ⟨i, rfl, q _ B1 H1 (Gr.refl s) ?_⟩
    show V.int _ = V.int _
    congr 1
    split <;> omega
theorem gv_int {i : Int} (h : Gv ta σ B (yI i)) : Gv (tCB rInt1 (tCons ta tNil)) σ B (yI i) :=
  gv_cb (ga_1 h) fun vs B1 H1 _ s hvs Q q => by
    obtain ⟨v, rfl, hv⟩ := all1 hvs
    obtain rfl : v = .int i := hv
    exact .inl ⟨i, rfl, q _ B1 H1 (Gr.refl s) rfl⟩
theorem gv_max2 {i j : Int} (h : Gv ta σ B (yI i)) (h2 : Gv tb σ B (yI j)) : Gv (tCB rMax2 (tCons ta (tCons tb tNil))) σ B (yI (max i j)) :=
  gv_cb (ga_2 h h2) fun vs B1 H1 _ s hvs Q q => by
    obtain ⟨v, w, rfl, hv, hw⟩ := all2 hvs
    obtain rfl : v = .int i := hv
    obtain rfl : w = .int j := hw
    refine ⟨i, j, rfl, q _ B1 H1 (Gr.refl s) ?_⟩
    show V.int _ = V.int _
    congr 1
    split <;> omega
theorem gv_lenT {K : PySem.W.Frag} {ts : List Ty} (h : Gv ta σ B A) (ht : IsTu K A ts) : Gv (tCB (rLenSeq K) (tCons ta tNil)) σ B (yI (ts.length : Int)) :=
  gv_cb (ga_1 h) fun vs B1 H1 _ s hvs Q q => by
    obtain ⟨v, rfl, hv⟩ := all1 hvs
    obtain ⟨a, ws, rfl, hs, k⟩ := ht v B1 hv
    refine ⟨a, ws, rfl, .inr (same_t s hs), q _ B1 H1 (Gr.refl s) ?_⟩
    rw [k.len]
    rfl
theorem gv_lenL {K : PySem.W.Frag} {ts : List Ty} (h : Gv ta σ B A) (ht : IsLs K A ts) : Gv (tCB (rLenSeq K) (tCons ta tNil)) σ B (yI (ts.length : Int)) :=
  gv_cb (ga_1 h) fun vs B1 H1 _ s hvs Q q => by
    obtain ⟨v, rfl, hv⟩ := all1 hvs
    obtain ⟨a, ws, rfl, hs, k⟩ := ht v B1 hv
    refine ⟨a, ws, rfl, .inl (same_l s hs), q _ B1 H1 (Gr.refl s) ?_⟩
    rw [k.len]
    rfl
/-! tests -/
theorem gt_test {b : Bool} (h : Gv te σ B (yB b)) : GvT (tTest te) σ B b := fun H s Q q => h H s _ fun v B2 H2 g hv => ⟨b, hv, q B2 H2 g⟩
theorem gt_B {b : Bool} (h : Gv te σ B (yB b)) : GvT (tB te) σ B b := fun H s Q q => h H s _ fun v B2 H2 g hv => ⟨b, hv, q B2 H2 g⟩
theorem gt_and {a b : Bool} (h1 : GvT t σ B a) (h2 : a = true → GvT u σ B b) : GvT (tAnd t u) σ B (a && b) := fun H s Q q => h1 H s _ fun B2 H2 g => by
  cases a with
  | true =>
    show u σ H2 Q
    exact ((h2 rfl).m g.bs) H2 g.in_ Q fun B3 H3 g3 => q B3 H3 (g.trans g3)
  | false => exact q B2 H2 g
theorem gt_or {a b : Bool} (h1 : GvT t σ B a) (h2 : a = false → GvT u σ B b) : GvT (tOr t u) σ B (a || b) := fun H s Q q => h1 H s _ fun B2 H2 g => by
  cases a with
  | true => exact q B2 H2 g
  | false =>
    show u σ H2 Q
    exact ((h2 rfl).m g.bs) H2 g.in_ Q fun B3 H3 g3 => q B3 H3 (g.trans g3)
theorem gt_not {a : Bool} (h1 : GvT t σ B a) : GvT (tNot t) σ B (!a) := fun H s Q q => h1 H s _ fun B2 H2 g => q B2 H2 g
theorem gt_yes : GvT tYes σ B true := fun H s Q q => q B H (Gr.refl s)
theorem gv_andB {a b : Bool} (h1 : Gv ta σ B (yB a)) (h2 : a = true → Gv tb σ B (yB b)) : Gv (tAndV ta tb) σ B (yB (a && b)) := fun H s Q q => h1 H s _ fun v B2 H2 g hv => ⟨a, hv, by
  cases a with
  | true =>
    show tb σ H2 Q
    exact ((h2 rfl).m g.bs) H2 g.in_ Q (q.go g)
  | false => exact q _ B2 H2 g rfl⟩
theorem gv_notB {a : Bool} (h1 : Gv ta σ B (yB a)) : Gv (tNotV ta) σ B (yB (!a)) := fun H s Q q => h1 H s _ fun v B2 H2 g hv => ⟨a, hv, q _ B2 H2 g rfl⟩
theorem gv_if {b : Bool} (h : GvT t σ B b) (h1 : b = true → Gv ta σ B T) (h2 : b = false → Gv tb σ B T) : Gv (tIf t ta tb) σ B T := fun H s Q q => h H s _ fun B2 H2 g => by
  cases b with
  | true =>
    show ta σ H2 Q
    exact ((h1 rfl).m g.bs) H2 g.in_ Q (q.go g)
  | false =>
    show tb σ H2 Q
    exact ((h2 rfl).m g.bs) H2 g.in_ Q (q.go g)
/-- a < b < c over ints -/
theorem gv_chainI {g g' : Int → Int → Bool} {tc : TE} {i j k : Int} (ha : Gv ta σ B (yI i)) (hb : Gv tb σ B (yI j)) (hc : Gv tc σ B (yI k)) :
    Gv (tChain (rI0 fun i j => .bl (g i j)) (rI0 fun i j => .bl (g' i j)) ta tb tc) σ B (yB (g i j && g' j k)) := fun H s Q q =>
  ha H s _ fun x B2 H2 s2 hx => (hb.m s2.bs) H2 s2.in_ _ fun y B3 H3 s3 hy => by
    obtain rfl : x = .int i := hx
    obtain rfl : y = .int j := hy
    refine ⟨i, j, rfl, rfl, g i j, rfl, ?_⟩
    cases hg : g i j with
    | true =>
      refine iteT ((hc.m (s2.bs.trans s3.bs)) H3 s3.in_ _ fun z B4 H4 s4 hz => ⟨j, k, rfl, hz, ?_⟩)
      exact q _ B4 H4 ((s2.trans s3).trans s4) (by rw [hg]; exact rfl)
    | false => exact iteF (q _ B3 H3 (s2.trans s3) (by rw [hg]; exact rfl))
end

/-! ## statements -/
section
variable {σ : L2.St} {B H : Hp} {T A C : Ty} {te ta tb : TE} {t : TT} {D : Ends} {tu tw tz : TS}
theorem st_ret (s : Same B H) (h : Gv te σ B T) (k : Post B H T D.rt) : tRet te D σ H := h H s _ k
theorem st_set {i : Nat} (s : Same B H) (h : Gv te σ B T) (k : ∀ v B1 H1, Gr B H B1 H1 → T.p v B1 → D.nx (σ.set i (some v)) H1) : tAsg te (gName i) D σ H := h H s _ k
theorem sq_set {i : Nat} (s : Same B H) (h : Gv te σ B T) (k : ∀ v B1 H1, Gr B H B1 H1 → T.p v B1 → tz D (σ.set i (some v)) H1) : tSeq (tAsg te (gName i)) tz D σ H := h H s _ k
theorem st_par {i j : Nat} {tr : TA} (s : Same B H) (h : GvA tr σ B [A, C]) (k : ∀ v w B1 H1, Gr B H B1 H1 → A.p v B1 → C.p w B1 → D.nx ((σ.set i (some v)).set j (some w)) H1) : tPar i j tr D σ H :=
  h H s _ fun vs B1 H1 g hvs => by
    obtain ⟨v, w, rfl, hv, hw⟩ := all2 hvs
    exact ⟨v, w, rfl, k v w B1 H1 g hv hw⟩
theorem sq_par {i j : Nat} {tr : TA} (s : Same B H) (h : GvA tr σ B [A, C]) (k : ∀ v w B1 H1, Gr B H B1 H1 → A.p v B1 → C.p w B1 → tz D ((σ.set i (some v)).set j (some w)) H1) : tSeq (tPar i j tr) tz D σ H := st_par (D := { D with nx := tz D }) s h k
theorem st_drop (s : Same B H) (h : Gv te σ B T) (k : ∀ v B1 H1, Gr B H B1 H1 → T.p v B1 → D.nx σ H1) : tDrop te D σ H := h H s _ k
theorem sq_drop (s : Same B H) (h : Gv te σ B T) (k : ∀ v B1 H1, Gr B H B1 H1 → T.p v B1 → tz D σ H1) : tSeq (tDrop te) tz D σ H := h H s _ k
theorem st_if {b : Bool} (s : Same B H) (h : GvT t σ B b) (h1 : b = true → ∀ B1 H1, Gr B H B1 H1 → tu D σ H1) (h2 : b = false → ∀ B1 H1, Gr B H B1 H1 → tw D σ H1) : tIfS t tu tw D σ H := h H s _ fun B1 H1 g => by
  cases b with
  | true =>
    show tu D σ H1
    exact h1 rfl B1 H1 g
  | false =>
    show tw D σ H1
    exact h2 rfl B1 H1 g
theorem sq_if {b : Bool} (s : Same B H) (h : GvT t σ B b) (h1 : b = true → ∀ B1 H1, Gr B H B1 H1 → tu { D with nx := tz D } σ H1) (h2 : b = false → ∀ B1 H1, Gr B H B1 H1 → tw { D with nx := tz D } σ H1) : tSeq (tIfS t tu tw) tz D σ H := st_if (D := { D with nx := tz D }) s h h1 h2
/-- an if whose test is False, without an else -/
theorem sq_if0 (s : Same B H) (h : GvT t σ B false) (k : ∀ B1 H1, Gr B H B1 H1 → tz D σ H1) : tSeq (tIfS t tu tNext) tz D σ H := sq_if s h (fun e => nomatch e) fun _ B1 H1 g => k B1 H1 g
theorem st_if0 (s : Same B H) (h : GvT t σ B false) (k : ∀ B1 H1, Gr B H B1 H1 → D.nx σ H1) : tIfS t tu tNext D σ H := st_if s h (fun e => nomatch e) fun _ B1 H1 g => k B1 H1 g
theorem sq_while (W : Nat → L2.St → Hp → Hp → Prop) (s : Same B H) (m0 : Nat) (h0 : W m0 σ B H)
    (hs : ∀ m σ' B' H', Same B' H' → W m σ' B' H' → ∃ b, GvT t σ' B' b ∧ (b = true → ∀ B1 H1, Gr B' H' B1 H1 → tu { D with nx := fun σ2 H2 => ∃ m' B2, Same B2 H2 ∧ m' < m ∧ W m' σ2 B2 H2, ct := fun σ2 H2 => ∃ m' B2, Same B2 H2 ∧ m' < m ∧ W m' σ2 B2 H2, bk := tz D } σ' H1) ∧ (b = false → ∀ B1 H1, Gr B' H' B1 H1 → tz D σ' H1)) : tSeq (tWhile t tu) tz D σ H :=
  ⟨fun m σ' H' => ∃ B', Same B' H' ∧ W m σ' B' H', ⟨m0, B, s, h0⟩, fun m σ' H' ⟨B', s', hw⟩ => by
    obtain ⟨b, hb, h1, h2⟩ := hs m σ' B' H' s' hw
    refine hb H' s' _ fun B1 H1 g => ?_
    cases b with
    | true => exact ⟨fun σ2 H2 => ∃ m' B2, Same B2 H2 ∧ m' < m ∧ W m' σ2 B2 H2, fun _ _ ⟨m', B2, s2, hm, hw⟩ => ⟨m', hm, B2, s2, hw⟩, h1 rfl B1 H1 g⟩
    | false => exact h2 rfl B1 H1 g⟩
end

/-! ## what is walked -/
def WalkT (J : It) (n : Nat) (B : Hp) (Ts : Nat → Ty) : Prop := ∃ (G : Hp → Prop) (Y : Nat → Hp → V → Hp → Prop), Walk J n G Y ∧ (∀ H, Same B H → G H) ∧ ∀ (i : Nat) B' H x H', i < n → Same B B' → Same B' H → Y i H x H' → ∃ B'', Gr B' H B'' H' ∧ (Ts i).p x B''
def GvI (wi : TI) (σ : L2.St) (B : Hp) (n : Nat) (Ts : Nat → Ty) : Prop := ∀ H, Same B H → ∀ R : It → Hp → Prop, (∀ J B' H', Gr B H B' H' → WalkT J n B' Ts → R J H') → wi σ H R
def tyAt (ts : List Ty) (i : Nat) : Ty := ts.getD i yN
theorem tyAt_of {ts : List Ty} {i : Nat} {T : Ty} (h : ts[i]? = some T) : tyAt ts i = T := by
  unfold tyAt
  rw [List.getD_eq_getElem?_getD, h]
  rfl
theorem all_at {B : Hp} {ts : List Ty} {vs : List V} {i : Nat} {v : V} (k : All ts vs B) (h : vs[i]? = some v) : (tyAt ts i).p v B := by
  obtain ⟨T, h1, h2⟩ := k.at h
  rw [tyAt_of h1]
  exact h2
section
variable {σ : L2.St} {B : Hp} {A : Ty} {te ta tb : TE} {K : PySem.W.Frag} {ts : List Ty}
theorem walkT {J : It} {n : Nat} {B : Hp} {Ts : Nat → Ty} {G : Hp → Prop} {Y : Nat → Hp → V → Hp → Prop} (w : Walk J n G Y) (hG : ∀ H, Same B H → G H)
    (hY : ∀ (i : Nat) (B' H : Hp) (x : V) (H' : Hp), i < n → Same B B' → Same B' H → Y i H x H' → ∃ B'', Gr B' H B'' H' ∧ (Ts i).p x B'') : WalkT J n B Ts := ⟨G, Y, w, hG, hY⟩
theorem gi_list (h : Gv te σ B A) (hl : IsLs K A ts) : GvI (iList K te) σ B ts.length (tyAt ts) := fun H s R r => h H s _ fun v B1 H1 g hv => by
  obtain ⟨a, vs, rfl, hs, k⟩ := hl v B1 hv
  refine ⟨a, rfl, ⟨vs, same_l g.in_ hs⟩, r _ B1 H1 g (k.len ▸ walkT (walk_list (xs := vs)) (fun H2 s2 => same_l s2 hs) fun i B2 H2 x H3 _ s1 s2 hy => ?_)⟩
  obtain ⟨e, hx⟩ := hy
  subst e
  exact ⟨B2, Gr.refl s2, (tyAt ts i).m s1 (all_at k hx)⟩
theorem gi_tup (h : Gv te σ B A) (hl : IsTu K A ts) : GvI (iTup K te) σ B ts.length (tyAt ts) := fun H s R r => h H s _ fun v B1 H1 g hv => by
  obtain ⟨a, vs, rfl, hs, k⟩ := hl v B1 hv
  refine ⟨a, rfl, ⟨vs, same_t g.in_ hs⟩, r _ B1 H1 g (k.len ▸ walkT (walk_tup (xs := vs)) (fun H2 s2 => same_t s2 hs) fun i B2 H2 x H3 _ s1 s2 hy => ?_)⟩
  obtain ⟨e, hx⟩ := hy
  subst e
  exact ⟨B2, Gr.refl s2, (tyAt ts i).m s1 (all_at k hx)⟩
theorem gi_rng1 {n : Int} (h : Gv te σ B (yI n)) (hn : n < 2 ^ 62) (h0 : -(2 ^ 62) ≤ n) : GvI (iRng1 (tCons te tNil)) σ B n.toNat (fun i => yI (i : Int)) := fun H s R r => (ga_1 h) H s _ fun vs B1 H1 g hvs => by
  obtain ⟨v, rfl, hv⟩ := all1 hvs
  have hv : v = .int n := hv
  subst hv
  refine ⟨n, rfl, h0, hn, r _ B1 H1 g (walkT walk_range (fun _ _ => trivial) fun i B2 H2 x H3 _ s1 s2 hy => ?_)⟩
  obtain ⟨e, hx⟩ := hy
  subst e
  refine ⟨B2, Gr.refl s2, ?_⟩
  rw [hx]
  show V.int _ = V.int _
  congr 1
  omega
theorem gi_rng2 {a b : Int} (h : Gv ta σ B (yI a)) (h2 : Gv tb σ B (yI b)) (hn : -(2 ^ 62) ≤ a ∧ a < 2 ^ 62 ∧ -(2 ^ 62) ≤ b ∧ b < 2 ^ 62) : GvI (iRng2 (tCons ta (tCons tb tNil))) σ B (b - a).toNat (fun i => yI (a + (i : Int))) := fun H s R r => (ga_2 h h2) H s _ fun vs B1 H1 g hv => by
  obtain ⟨v, w, rfl, hv, hw⟩ := all2 hv
  have hv : v = .int a := hv
  have hw : w = .int b := hw
  subst hv hw
  refine ⟨a, b, rfl, hn, r _ B1 H1 g (walkT walk_range (fun _ _ => trivial) fun i B2 H2 x H3 _ s1 s2 hy => ?_)⟩
  obtain ⟨e, hx⟩ := hy
  subst e
  exact ⟨B2, Gr.refl s2, hx⟩
theorem gi_enum (h : Gv te σ B A) (hl : IsLs K A ts) : GvI (iEnum K (tCons te tNil)) σ B ts.length (fun i => yT [yI (i : Int), tyAt ts i]) := fun H s R r => (ga_1 h) H s _ fun vs B1 H1 g hvs => by
  obtain ⟨v, rfl, hv⟩ := all1 hvs
  obtain ⟨a, vs, rfl, hs, k⟩ := hl v B1 hv
  refine ⟨a, vs, rfl, same_l g.in_ hs, r _ B1 H1 g (k.len ▸ walkT (walk_enum (xs := vs)) (fun H2 s2 => same_l s2 hs) fun i B2 H2 x H3 _ s1 s2 hy => ?_)⟩
  obtain ⟨p, u, y, e1, e2, e3, e4, e5⟩ := hy
  cases e4
  subst e1 e3
  exact ⟨_, Gr.new s2 e2, p, _, rfl, upd_same, rfl, (tyAt ts i).m (s1.trans (same_new (s2.free e2))) (all_at k e5), trivial⟩
theorem gi_rev (h : Gv te σ B A) (hl : IsLs K A ts) : GvI (iRev K (tCons te tNil)) σ B ts.length (fun i => tyAt ts (ts.length - 1 - i)) := fun H s R r => (ga_1 h) H s _ fun vs B1 H1 g hvs => by
  obtain ⟨v, rfl, hv⟩ := all1 hvs
  obtain ⟨a, vs, rfl, hs, k⟩ := hl v B1 hv
  refine ⟨a, vs, rfl, same_l g.in_ hs, ?_⟩
  have e := k.len
  rw [e]
  refine r _ B1 H1 g (walkT (e ▸ walk_rev (xs := vs)) (fun H2 s2 => same_l s2 hs) fun i B2 H2 x H3 _ s1 s2 hy => ?_)
  obtain ⟨e1, hx⟩ := hy
  subst e1
  exact ⟨B2, Gr.refl s2, (tyAt ts _).m s1 (all_at k hx)⟩
/-- what the next turn starts from -/
def Nx (Pv : Nat → L2.St → Hp → Hp → Prop) (Bs : Hp) (i : Nat) : L2.St → Hp → Prop := fun σ H => ∃ B, Same Bs B ∧ Same B H ∧ Pv i σ B H
/-- a for -/
theorem sq_for {wi : TI} {n : Nat} {Ts : Nat → Ty} {H : Hp} {g : TG} {tu tz : TS} {D : Ends} (s : Same B H) (hi : GvI wi σ B n Ts) (Pv : Nat → L2.St → Hp → Hp → Prop)
    (h0 : ∀ B1 H1, Gr B H B1 H1 → Pv 0 σ B1 H1)
    (hs : ∀ Bs (i : Nat) x σ' B1 H1 B2 H2, i < n → Same B Bs → Same Bs B1 → Same B1 H1 → Pv i σ' B1 H1 → Gr B1 H1 B2 H2 → (Ts i).p x B2 → g x σ' H2 fun σ2 H3 => tu { D with nx := Nx Pv Bs (i + 1), ct := Nx Pv Bs (i + 1), bk := tz D } σ2 H3)
    (hd : ∀ σ' B1 H1, Same B B1 → Same B1 H1 → Pv n σ' B1 H1 → tz D σ' H1) : tSeq (tFor wi g tu) tz D σ H := by
  refine hi H s _ fun J B1 H1 g1 hw => ?_
  obtain ⟨G, Y, w, hG, hY⟩ := hw
  refine for_it (D := { D with nx := tz D }) w (fun i σ' H' => Nx Pv B1 i σ' H') ⟨B1, Same.refl _, g1.in_, h0 B1 H1 g1⟩ (fun i σ' H' _ h => ?_) (fun i x σ' H' H'' hlt h hy => ?_) (fun σ' H' h => ?_)
  · obtain ⟨B', s1, s2, _⟩ := h
    exact hG H' (s1.trans s2)
  · obtain ⟨B', s1, s2, p⟩ := h
    obtain ⟨B'', g2, hx⟩ := hY i B' H' x H'' hlt s1 s2 hy
    exact hs B1 i x σ' B' H' B'' H'' hlt g1.bs s1 s2 p g2 hx
  · obtain ⟨B', s1, s2, p⟩ := h
    exact hd σ' B' H' (g1.bs.trans s1) s2 p
theorem st_for {wi : TI} {n : Nat} {Ts : Nat → Ty} {H : Hp} {g : TG} {tu : TS} {D : Ends} (s : Same B H) (hi : GvI wi σ B n Ts) (Pv : Nat → L2.St → Hp → Hp → Prop)
    (h0 : ∀ B1 H1, Gr B H B1 H1 → Pv 0 σ B1 H1)
    (hs : ∀ Bs (i : Nat) x σ' B1 H1 B2 H2, i < n → Same B Bs → Same Bs B1 → Same B1 H1 → Pv i σ' B1 H1 → Gr B1 H1 B2 H2 → (Ts i).p x B2 → g x σ' H2 fun σ2 H3 => tu { D with nx := Nx Pv Bs (i + 1), ct := Nx Pv Bs (i + 1), bk := D.nx } σ2 H3)
    (hd : ∀ σ' B1 H1, Same B B1 → Same B1 H1 → Pv n σ' B1 H1 → D.nx σ' H1) : tFor wi g tu D σ H := sq_for (tz := fun D => D.nx) (D := D) s hi Pv h0 hs hd
/-- a list comprehension -/
theorem gv_lc {wi : TI} {n : Nat} {Ts : Nat → Ty} {g : TG} {tt : TT} {vs : List Nat} (hi : GvI wi σ B n Ts) (f : Nat → Bool) (E : Nat → Ty) (hn : n ≤ 100000)
    (hs : ∀ (i : Nat) x B2 H2, i < n → Same B B2 → Same B2 H2 → (Ts i).p x B2 → ∀ R : L2.St → Hp → Prop, (∀ σ2, wipe σ2 vs = wipe σ vs → GvT tt σ2 B2 (f i) → (f i = true → Gv te σ2 B2 (E i)) → R σ2 H2) → g x (wipe σ vs) H2 R) :
    Gv (tLc wi g tt te vs) σ B (yL (((List.range n).filter f).map E)) := fun H s Q q => by
  refine hi H s _ fun J B1 H1 g1 hw Dl hD => ?_
  obtain ⟨G, Y, w, hG, hY⟩ := hw
  have nD : B1 Dl = none := g1.nb hD
  refine lc_it w (fun i H' => ∃ B' ws, Gr B1 H1 B' H' ∧ B' Dl = none ∧ H' Dl = some (.lst ws) ∧ All (((List.range i).filter f).map E) ws B') ⟨B1, [], Gr.own g1.in_ hD, nD, upd_same, trivial⟩ (fun i H' _ h => ?_) (fun i x H' H'' hlt h hy => ?_) (fun H' h => ?_)
  · obtain ⟨B', ws, gg, nb, hl, k⟩ := h
    exact hG H' (gg.bs.trans gg.in_)
  · obtain ⟨B', ws, gg, nb, hl, k⟩ := h
    obtain ⟨B'', g2, hx⟩ := hY i B' H' x H'' hlt gg.bs gg.in_ hy
    have nb2 : B'' Dl = none := g2.ob hl nb
    have hl2 : H'' Dl = some (.lst ws) := g2.hs _ _ hl
    have k2 := k.m g2.bs
    have gg2 := gg.trans g2
    refine hs i x B'' H'' hlt (g1.bs.trans gg2.bs) g2.in_ hx _ fun σ2 e2 ht he => ⟨e2, ht H'' g2.in_ _ fun B3 H3 g3 => ?_⟩
    have gg3 := gg2.trans g3
    have nb3 := g3.ob hl2 nb2
    have er : List.range (i + 1) = List.range i ++ [i] := List.range_succ
    cases hf : f i with
    | true =>
      refine iteT (((he hf).m g3.bs) H3 g3.in_ _ fun v B4 H4 g4 hv => ?_)
      have hl4 : H4 Dl = some (.lst ws) := g4.hs _ _ (g3.hs _ _ hl2)
      have nb4 := g4.ob (g3.hs _ _ hl2) nb3
      refine ⟨ws, hl4, size_lt ?_, B4, ws ++ [v], (gg3.trans g4).mut hD nb4, nb4, upd_same, ?_⟩
      · rw [k.len, List.length_map]
        have h1 := List.length_filter_le f (List.range i)
        rw [List.length_range] at h1
        omega
      · rw [er, List.filter_append, List.map_append]
        refine All.append ?_ (k2.m (g3.bs.trans g4.bs))
        rw [List.filter_cons, if_pos hf]
        exact ⟨hv, trivial⟩
    | false =>
      refine iteF ⟨B3, ws, gg3, nb3, g3.hs _ _ hl2, ?_⟩
      rw [er, List.filter_append, List.map_append, List.filter_cons, if_neg (by rw [hf]; decide)]
      have := k2.m g3.bs
      simpa using this
  · obtain ⟨B', ws, gg, nb, hl, k⟩ := h
    refine q (.ref Dl) _ H' (g1.trans (gg.pub hl hD nb)) ⟨Dl, ws, rfl, upd_same, k.m (same_new nb)⟩
end

/-! ## defs -/
def spG (R : List Ty → Ty → Prop) : Sp := fun vs H Q _ => ∃ B Ts T, R Ts T ∧ Same B H ∧ All Ts vs B ∧ Post B H T Q
theorem gives_G {R : List Ty → Ty → Prop} {Ts : List Ty} {T : Ty} (h : R Ts T) : Gives (spG R) Ts T := fun _ B _ s a _ _ q => ⟨B, Ts, T, h, s, a, q⟩
section
variable {P : Program} {w : World} {K : PySem.W.Frag} {mg : Str → Option Value} {base : Heap}
/-- a def of the module's top as it stands -/
structure Def (K : PySem.W.Frag) (mg : Str → Option Value) (x : Str) (st : Stmt) (ps : List Str) : Prop where
  ex : ∃ f fd, Fun K x x st f fd ∧ mg x = some (.ref f) ∧ Binds K fd ps []
/-- a def that keeps a promise -/
structure Cal (P : Program) (w : World) (K : PySem.W.Frag) (mg : Str → Option Value) (base : Heap) (x : Str) (k : Nat) (ps : List Str) (sp : Sp) : Prop where
  ex : ∃ f fd, FnOk P w K mg base CX0 k f fd ps sp ∧ mg x = some (.ref f) ∧ PySem.W.keepIn K (.ref f) = true ∧ Binds K fd ps []
theorem pe_cl {X : Cx} {x : Str} {k : Nat} {ps : List Str} {sp : Sp} {e : Expr} {es : List Expr} {ta : TA} {p pos : Pos} (c : Cal X.prog X.w X.K X.mg X.base x k ps sp) (hr : Room k X.A) (ha : PA X (e :: es) ta) (hg : Gl X x := by rfl) (hdb : (x == ("__debug__" : Str)) = false := by decide)
    (he : starEach (e :: es) X.env = (false, eval e X.env) :: starEach es X.env := by rfl) (hpl : (backTo pos (starEach es X.env)).any (·.1) = false := by rfl) : PE X (.Call (.Name x p) (e :: es) [] pos) (tCl sp ta) := by
  obtain ⟨f, fd, F, hm, hk, hb⟩ := c.ex
  have q := pe_call (p := p) (pos := pos) F hr hg hm hk hb .nil pass0 ha hdb he hpl
  have e : tCl sp ta = tCall sp [] E0 ta := by
    funext σ H Q
    unfold tCl tCall
    congr 1
    funext vs H1
    rw [List.append_nil]
  rw [e]
  exact q
theorem Def.okS {x : Str} {st : Stmt} {N ps : List Str} {k : Nat} {sp : Sp} (D : Def K mg x st ps) (S : FnScope N ps (defScope st)) (len : ∀ vs H Q E, sp vs H Q E → vs.length = ps.length)
    (body : ∀ (f : Addr) (cdv : Value) (A : Around) (outer : List Env) (s : Shared) (H : Hp) (vs : List V) (Q : VK) (E : XK), Room k (A.deeper (envOfC x (defScope st) s.heap.objs.size f cdv)) → sp vs H Q E →
      ∃ t, PSs (cxOf CX0 P w K mg base N x (defScope st) f cdv A outer s H E).nox (defBody st) t ∧ t { nx := fun _ H' => Q .non H', rt := Q } (start N vs) H) : Cal P w K mg base x (k + 1) ps sp := by
  obtain ⟨f, fd, F, hm, hb⟩ := D.ex
  exact ⟨f, fd, F.ok S len (body f), hm, F.kp, hb⟩
theorem Def.ok {x : Str} {st : Stmt} {N ps : List Str} {k : Nat} {R : List Ty → Ty → Prop} (D : Def K mg x st ps) (S : FnScope N ps (defScope st)) (len : ∀ Ts T, R Ts T → Ts.length = ps.length)
    (body : ∀ (f : Addr) (cdv : Value) (A : Around) (outer : List Env) (s : Shared) (H : Hp) (vs : List V) (E : XK) (B : Hp) (Ts : List Ty) (T : Ty), R Ts T → Same B H → All Ts vs B → Room k (A.deeper (envOfC x (defScope st) s.heap.objs.size f cdv)) →
      ∃ t, PSs (cxOf CX0 P w K mg base N x (defScope st) f cdv A outer s H E).nox (defBody st) t ∧ ∀ Q : VK, Post B H T Q → t { nx := fun _ H' => Q .non H', rt := Q } (start N vs) H) : Cal P w K mg base x (k + 1) ps (spG R) := by
  refine D.okS S ?_ ?_
  · rintro vs H Q E ⟨B, Ts, T, r, s, a, _⟩
    rw [a.len]
    exact len Ts T r
  · rintro f cdv A outer s H vs Q E hr ⟨B, Ts, T, r, sb, a, q⟩
    obtain ⟨t, h1, h2⟩ := body f cdv A outer s H vs E B Ts T r sb a hr
    exact ⟨t, h1, h2 Q q⟩
end
/-- a name of the top that holds a value -/
structure Gc (mg : Str → Option Value) (x : Str) (v : V) : Prop where
  ex : ∃ u, mg x = some u ∧ RelV v u
theorem pe_gc {X : Cx} {x : Str} {v : V} {pos : Pos} (c : Gc X.mg x v) (hg : Gl X x := by rfl) (hd : (x == ("__debug__" : Str)) = false := by decide) : PE X (.Name x pos) (tC v) := by
  obtain ⟨u, hm, r⟩ := c.ex
  exact pe_glob hg hm r hd
end LD
/-! LdRat: fractions in lowest terms as Rat; sizes. -/
namespace LD
theorem made_eq (a b : Int) (hb : b ≠ 0) (d : Int) (hd : d = if b < 0 then -((Int.gcd a b : Nat) : Int) else ((Int.gcd a b : Nat) : Int)) :
    a.fdiv d = (Rat.divInt a b).num ∧ b.fdiv d = ((Rat.divInt a b).den : Int) ∧ d ≠ 0 := by
  have hg : (Int.gcd a b : Int) ≠ 0 := by
    intro h
    have : Int.gcd a b = 0 := by omega
    exact hb (Int.gcd_eq_zero_iff.mp this).2
  obtain ⟨c, hc⟩ : ((Int.gcd a b : Nat) : Int) ∣ a := Int.gcd_dvd_left a b
  obtain ⟨e, he⟩ : ((Int.gcd a b : Nat) : Int) ∣ b := Int.gcd_dvd_right a b
  have hgp : (0 : Int) < (Int.gcd a b : Nat) := by omega
  rw [Rat.num_divInt, Rat.den_divInt, if_neg hb, Int.gcd_comm b a]
  generalize hG : ((Int.gcd a b : Nat) : Int) = g at *
  have hGn : (Int.gcd a b : Nat) = g.natAbs := by omega
  rw [hGn]
  by_cases h : b < 0
  · rw [if_pos h] at hd
    have hs : b.sign = -1 := Int.sign_eq_neg_one_of_neg h
    have e1 : a = d * (-c) := by rw [hd, hc]; simp [Int.neg_mul_neg]
    have e2 : b = d * (-e) := by rw [hd, he]; simp [Int.neg_mul_neg]
    have hd0 : d ≠ 0 := by omega
    refine ⟨?_, ?_, hd0⟩
    · rw [hs]
      conv => lhs; rw [e1]
      rw [Int.mul_fdiv_cancel_left _ hd0, hc]
      rw [show (-1 : Int) * (g * c) = g * (-c) by simp [Int.mul_neg], Int.mul_ediv_cancel_left _ hg]
    · conv => lhs; rw [e2]
      rw [Int.mul_fdiv_cancel_left _ hd0]
      have h1 : b.natAbs = g.natAbs * e.natAbs := by rw [he, Int.natAbs_mul]
      rw [h1, Nat.mul_div_cancel_left _ (by omega)]
      have : e < 0 := by
        rcases Int.lt_or_le e 0 with h' | h'
        · exact h'
        · have := Int.mul_nonneg (Int.le_of_lt hgp) h'
          omega
      omega
  · rw [if_neg h] at hd
    have hs : b.sign = 1 := Int.sign_eq_one_of_pos (by omega)
    subst hd
    refine ⟨?_, ?_, hg⟩
    · rw [hs, Int.one_mul]
      conv => lhs; rw [hc]
      conv => rhs; rw [hc]
      rw [Int.mul_fdiv_cancel_left _ hg, Int.mul_ediv_cancel_left _ hg]
    · conv => lhs; rw [he]
      rw [Int.mul_fdiv_cancel_left _ hg]
      have h1 : b.natAbs = d.natAbs * e.natAbs := by rw [he, Int.natAbs_mul]
      rw [h1, Nat.mul_div_cancel_left _ (by omega)]
      have : 0 ≤ e := by
        rcases Int.lt_or_le e 0 with h' | h'
        · have := Int.mul_neg_of_pos_of_neg hgp h'
          omega
        · exact h'
      omega
theorem num_le (a b : Int) : (Rat.divInt a b).num.natAbs ≤ a.natAbs := by
  rw [Rat.num_divInt]
  have h1 : (b.sign * a / ((b.gcd a : Nat) : Int)).natAbs ≤ (b.sign * a).natAbs := Int.natAbs_ediv_le_natAbs _ _
  have h2 : (b.sign * a).natAbs ≤ a.natAbs := by
    rw [Int.natAbs_mul]
    have : b.sign.natAbs ≤ 1 := by
      rcases Int.lt_trichotomy b 0 with h | h | h
      · rw [Int.sign_eq_neg_one_of_neg h]; decide
      · subst h; decide
      · rw [Int.sign_eq_one_of_pos h]; decide
    calc b.sign.natAbs * a.natAbs ≤ 1 * a.natAbs := Nat.mul_le_mul_right _ this
      _ = a.natAbs := Nat.one_mul _
  omega
theorem den_le (a b : Int) (hb : b ≠ 0) : (Rat.divInt a b).den ≤ b.natAbs := by
  rw [Rat.den_divInt, if_neg hb]
  exact Nat.div_le_self _ _
theorem plus_eq (x y : Rat) : Rat.divInt (x.num * y.den + y.num * x.den) ((x.den : Int) * y.den) = x + y := by
  rw [Rat.add_def', ← Rat.divInt_ofNat]
  rfl
theorem minus_eq (x y : Rat) : Rat.divInt (x.num * y.den - y.num * x.den) ((x.den : Int) * y.den) = x - y := by
  rw [Rat.sub_def', ← Rat.divInt_ofNat]
  rfl
theorem times_eq (x y : Rat) : Rat.divInt (x.num * y.num) ((x.den : Int) * y.den) = x * y := by
  rw [Rat.mul_def', ← Rat.divInt_ofNat]
  rfl
theorem rat_nd (x : Rat) : x = (x.num : Rat) / ((x.den : Int) : Rat) := by
  rw [← Rat.divInt_eq_div]
  exact (Rat.num_divInt_den x).symm
theorem den_ne (x : Rat) : (((x.den : Nat) : Int) : Rat) ≠ 0 := by
  have := x.den_nz
  simp [this]
theorem over_eq (x y : Rat) (h : y ≠ 0) : Rat.divInt (x.num * y.den) ((x.den : Int) * y.num) = x / y := by
  rw [Rat.divInt_eq_div]
  have h1 := rat_nd x
  have h2 := rat_nd y
  have d1 := den_ne x
  have d2 := den_ne y
  have n2 : (y.num : Rat) ≠ 0 := by
    intro e
    apply h
    have : y.num = 0 := by simpa using e
    exact Rat.num_eq_zero.mp this
  simp only [Rat.intCast_mul]
  generalize (x.num : Rat) = a at *
  generalize (((x.den : Nat) : Int) : Rat) = b at *
  generalize (y.num : Rat) = c at *
  generalize (((y.den : Nat) : Int) : Rat) = d at *
  subst h1 h2
  grind
/-- |num| and den below 2 ^ n -/
def Sz (n : Nat) (x : Rat) : Prop := x.num.natAbs < 2 ^ n ∧ x.den < 2 ^ n
theorem Sz.mono {m n : Nat} {x : Rat} (h : Sz m x) (k : m ≤ n) : Sz n x := ⟨Nat.lt_of_lt_of_le h.1 (Nat.pow_le_pow_right (by decide) k), Nat.lt_of_lt_of_le h.2 (Nat.pow_le_pow_right (by decide) k)⟩
theorem sz_of {n : Nat} {a b : Int} (hb : b ≠ 0) (h1 : a.natAbs < 2 ^ n) (h2 : b.natAbs < 2 ^ n) : Sz n (Rat.divInt a b) :=
  ⟨Nat.lt_of_le_of_lt (num_le a b) h1, Nat.lt_of_le_of_lt (den_le a b hb) h2⟩
end LD
set_option maxRecDepth 100000
set_option maxHeartbeats 4000000
/-! LdBlt: built-ins by short words. -/
namespace LD
open PySem PyProof.Rows L2
def topS (i : Nat) : Stmt := PySem.Challenge.pw_lastdoors_k45_whole_most_and_least_of_en.main.body.getD i (.Pass ⟨0, 0, 0, 0⟩)
/-- the built-ins' names are not taken -/
structure Blt (mg : Str → Option Value) : Prop where
  isinstance_ : mg "isinstance" = none
  len_ : mg "len" = none
  all_ : mg "all" = none
  abs_ : mg "abs" = none
  dict_ : mg "dict" = none
  min_ : mg "min" = none
  max_ : mg "max" = none
  sorted_ : mg "sorted" = none
  list_ : mg "list" = none
  tuple_ : mg "tuple" = none
  range_ : mg "range" = none
  enumerate_ : mg "enumerate" = none
  reversed_ : mg "reversed" = none
  sum_ : mg "sum" = none
  int_ : mg "int" = none
  bool_ : mg "bool" = none
def CDivZ (_ j : Int) : Prop := j ≠ 0 ∧ j.natAbs.log2 < 9000
theorem divZ {i j : Int} {b : Nat} (h : j ≠ 0) (hb : j.natAbs < 2 ^ b) (h0 : 0 < b) (h9 : b ≤ 9000) : CDivZ i j := ⟨h, Nat.lt_of_lt_of_le (PySem.Flt.log2_lt_of h0 hb) h9⟩
section
variable {X : Cx} {e : Expr} {es : List Expr} {t : TA} {p pos : Pos}
theorem op_fdivZ : OpR X (binaryOp .FloorDiv) (rI CDivZ fun i j => .int (i.fdiv j)) := opI fun i j _ _ _ _ _ hc q => floordiv_int hc.1 q (.inl (PyProof.noPylong_of_log2 hc.2))
theorem pb_len (m : X.mg "len" = none) (ha : PA X (e :: es) t) (hg : Gl X "len" := by rfl) (he : starEach (e :: es) X.env = (false, eval e X.env) :: starEach es X.env := by rfl) (hpl : (backTo pos (starEach es X.env)).any (·.1) = false := by rfl) : PE X (.Call (.Name "len" p) (e :: es) [] pos) (tCB (rLenSeq X.K) t) :=
  pe_callB call_len_seq hg m boot_len ha (he := he) (hpl := hpl)
theorem pb_abs (m : X.mg "abs" = none) (ha : PA X (e :: es) t) (hg : Gl X "abs" := by rfl) (he : starEach (e :: es) X.env = (false, eval e X.env) :: starEach es X.env := by rfl) (hpl : (backTo pos (starEach es X.env)).any (·.1) = false := by rfl) : PE X (.Call (.Name "abs" p) (e :: es) [] pos) (tCB rAbs t) :=
  pe_callB call_abs hg m (by decide +kernel) ha (he := he) (hpl := hpl)
theorem pb_int (m : X.mg "int" = none) (ha : PA X (e :: es) t) (hg : Gl X "int" := by rfl) (he : starEach (e :: es) X.env = (false, eval e X.env) :: starEach es X.env := by rfl) (hpl : (backTo pos (starEach es X.env)).any (·.1) = false := by rfl) : PE X (.Call (.Name "int" p) (e :: es) [] pos) (tCB rInt1 t) :=
  pe_callTy call_int1 hg m (by decide +kernel) ha (he := he) (hpl := hpl)
theorem pb_max2 (m : X.mg "max" = none) (ha : PA X (e :: es) t) (hc : X.calm = true := by rfl) (hg : Gl X "max" := by rfl) (he : starEach (e :: es) X.env = (false, eval e X.env) :: starEach es X.env := by rfl) (hpl : (backTo pos (starEach es X.env)).any (·.1) = false := by rfl) : PE X (.Call (.Name "max" p) (e :: es) [] pos) (tCB rMax2 t) :=
  pe_callB (call_max2 hc) hg m (by decide +kernel) ha (he := he) (hpl := hpl)
theorem pb_max (m : X.mg "max" = none) (ha : PA X (e :: es) t) (hc : X.calm = true := by rfl) (hg : Gl X "max" := by rfl) (he : starEach (e :: es) X.env = (false, eval e X.env) :: starEach es X.env := by rfl) (hpl : (backTo pos (starEach es X.env)).any (·.1) = false := by rfl) : PE X (.Call (.Name "max" p) (e :: es) [] pos) (tCB (rMax X.K) t) :=
  pe_callB (cr_max hc) hg m (by decide +kernel) ha (he := he) (hpl := hpl)
theorem pb_min (m : X.mg "min" = none) (ha : PA X (e :: es) t) (hc : X.calm = true := by rfl) (hg : Gl X "min" := by rfl) (he : starEach (e :: es) X.env = (false, eval e X.env) :: starEach es X.env := by rfl) (hpl : (backTo pos (starEach es X.env)).any (·.1) = false := by rfl) : PE X (.Call (.Name "min" p) (e :: es) [] pos) (tCB (rMin X.K) t) :=
  pe_callB (cr_min hc) hg m (by decide +kernel) ha (he := he) (hpl := hpl)
theorem pb_sum (m : X.mg "sum" = none) (ha : PA X (e :: es) t) (hc : X.calm = true := by rfl) (hg : Gl X "sum" := by rfl) (he : starEach (e :: es) X.env = (false, eval e X.env) :: starEach es X.env := by rfl) (hpl : (backTo pos (starEach es X.env)).any (·.1) = false := by rfl) : PE X (.Call (.Name "sum" p) (e :: es) [] pos) (tCB (rSum X.K) t) :=
  pe_callB (cr_sum hc) hg m (by decide +kernel) ha (he := he) (hpl := hpl)
theorem pb_all (m : X.mg "all" = none) (ha : PA X (e :: es) t) (hc : X.calm = true := by rfl) (hg : Gl X "all" := by rfl) (he : starEach (e :: es) X.env = (false, eval e X.env) :: starEach es X.env := by rfl) (hpl : (backTo pos (starEach es X.env)).any (·.1) = false := by rfl) : PE X (.Call (.Name "all" p) (e :: es) [] pos) (tCB (rAll X.K) t) :=
  pe_callB (cr_all hc) hg m (by decide +kernel) ha (he := he) (hpl := hpl)
theorem pb_isi (m : X.mg "isinstance" = none) (ha : PA X (e :: es) t) (hg : Gl X "isinstance" := by rfl) (he : starEach (e :: es) X.env = (false, eval e X.env) :: starEach es X.env := by rfl) (hpl : (backTo pos (starEach es X.env)).any (·.1) = false := by rfl) : PE X (.Call (.Name "isinstance" p) (e :: es) [] pos) (tCB (rIsi X.K) t) :=
  pe_callB call_isi hg m (by decide +kernel) ha (he := he) (hpl := hpl)
def rTupOf (K : PySem.W.Frag) : List V → Hp → VK → Prop := fun xs H Q => ∃ p ys, xs = [.ref p] ∧ ((SqL K H p ys ∧ ∀ l, H l = none → Q (.ref l) (upd H l (.tup ys))) ∨ (SqT K H p ys ∧ Q (.ref p) H))
def rLstOf (K : PySem.W.Frag) : List V → Hp → VK → Prop := fun xs H Q => ∃ p ys, xs = [.ref p] ∧ (SqL K H p ys ∨ SqT K H p ys) ∧ ∀ l, H l = none → Q (.ref l) (upd H l (.lst ys))
theorem pb_tuple (m : X.mg "tuple" = none) (ha : PA X (e :: es) t) (hg : Gl X "tuple" := by rfl) (he : starEach (e :: es) X.env = (false, eval e X.env) :: starEach es X.env := by rfl) (hpl : (backTo pos (starEach es X.env)).any (·.1) = false := by rfl) : PE X (.Call (.Name "tuple" p) (e :: es) [] pos) (tCB (rTupOf X.K) t) :=
  pe_callTy call_tuple_of hg m (by decide +kernel) ha (he := he) (hpl := hpl)
theorem pb_list (m : X.mg "list" = none) (ha : PA X (e :: es) t) (hg : Gl X "list" := by rfl) (he : starEach (e :: es) X.env = (false, eval e X.env) :: starEach es X.env := by rfl) (hpl : (backTo pos (starEach es X.env)).any (·.1) = false := by rfl) : PE X (.Call (.Name "list" p) (e :: es) [] pos) (tCB (rLstOf X.K) t) :=
  pe_callTy call_list_of hg m (by decide +kernel) ha (he := he) (hpl := hpl)
end
section
variable {σ : L2.St} {B : Hp} {T A C : Ty} {te ta tb : TE} {K : PySem.W.Frag} {ts : List Ty}
/-! their answers -/
theorem all_bls {H : Hp} : ∀ {bs : List Bool} {vs : List V}, All (bs.map yB) vs H ↔ vs = bs.map V.bl
  | [], [] => ⟨fun _ => rfl, fun _ => trivial⟩
  | n :: ns, v :: vs => by
    constructor
    · rintro ⟨h1, h2⟩
      obtain rfl : v = .bl n := h1
      rw [(all_bls (bs := ns)).mp h2]
      rfl
    · intro e
      obtain ⟨rfl, e2⟩ := List.cons.inj e
      exact ⟨rfl, (all_bls (bs := ns)).mpr e2⟩
  | [], _ :: _ => ⟨fun h => h.elim, fun h => by simp at h⟩
  | _ :: _, [] => ⟨fun h => h.elim, fun h => by simp at h⟩
theorem gv_all {bs : List Bool} (h : Gv te σ B (yL (bs.map yB))) : Gv (tCB (rAll K) (tCons te tNil)) σ B (yB (bs.all id)) :=
  gv_cb (ga_1 h) fun vs B1 H1 _ s hvs Q q => by
    obtain ⟨v, rfl, a, ws, rfl, hl, k⟩ := all1 hvs
    rw [all_bls.mp k] at hl
    exact ⟨a, bs, rfl, SqL.of (s _ _ hl), q _ B1 H1 (Gr.refl s) rfl⟩
theorem gv_sum {ns : List Int} (h : Gv te σ B (yL (ns.map yI))) : Gv (tCB (rSum K) (tCons te tNil)) σ B (yI ns.sum) :=
  gv_cb (ga_1 h) fun vs B1 H1 _ s hvs Q q => by
    obtain ⟨v, rfl, a, ws, rfl, hl, k⟩ := all1 hvs
    rw [all_ints.mp k] at hl
    exact ⟨a, ns, rfl, SqL.of (s _ _ hl), q _ B1 H1 (Gr.refl s) rfl⟩
/-- a greatest number, told by what it is -/
def yMx (ns : List Int) : Ty := ⟨fun v _ => ∃ m, v = .int m ∧ m ∈ ns ∧ ∀ y ∈ ns, y ≤ m, fun _ h => h⟩
def yMn (ns : List Int) : Ty := ⟨fun v _ => ∃ m, v = .int m ∧ m ∈ ns ∧ ∀ y ∈ ns, m ≤ y, fun _ h => h⟩
theorem gv_max {ns : List Int} (h : Gv te σ B (yL (ns.map yI))) (h0 : 0 < ns.length) : Gv (tCB (rMax K) (tCons te tNil)) σ B (yMx ns) :=
  gv_cb (ga_1 h) fun vs B1 H1 _ s hvs Q q => by
    obtain ⟨v, rfl, a, ws, rfl, hl, k⟩ := all1 hvs
    rw [all_ints.mp k] at hl
    exact ⟨a, ns, rfl, SqL.of (s _ _ hl), h0, fun m hm hle => q _ B1 H1 (Gr.refl s) ⟨m, rfl, hm, hle⟩⟩
theorem gv_min {ns : List Int} (h : Gv te σ B (yL (ns.map yI))) (h0 : 0 < ns.length) : Gv (tCB (rMin K) (tCons te tNil)) σ B (yMn ns) :=
  gv_cb (ga_1 h) fun vs B1 H1 _ s hvs Q q => by
    obtain ⟨v, rfl, a, ws, rfl, hl, k⟩ := all1 hvs
    rw [all_ints.mp k] at hl
    exact ⟨a, ns, rfl, SqL.of (s _ _ hl), h0, fun m hm hle => q _ B1 H1 (Gr.refl s) ⟨m, rfl, hm, hle⟩⟩
theorem gv_tupL (h : Gv te σ B (yL ts)) : Gv (tCB (rTupOf K) (tCons te tNil)) σ B (yT ts) :=
  gv_cb (ga_1 h) fun vs B1 H1 _ s hvs Q q => by
    obtain ⟨v, rfl, a, ws, rfl, hl, k⟩ := all1 hvs
    exact ⟨a, ws, rfl, .inl ⟨SqL.of (s _ _ hl), fun l hn => q _ _ _ (Gr.new s hn) ⟨l, ws, rfl, upd_same, k.m (same_new (s.free hn))⟩⟩⟩
theorem gv_lstL (h : Gv te σ B (yL ts)) : Gv (tCB (rLstOf K) (tCons te tNil)) σ B (yL ts) :=
  gv_cb (ga_1 h) fun vs B1 H1 _ s hvs Q q => by
    obtain ⟨v, rfl, a, ws, rfl, hl, k⟩ := all1 hvs
    exact ⟨a, ws, rfl, .inl (SqL.of (s _ _ hl)), fun l hn => q _ _ _ (Gr.new s hn) ⟨l, ws, rfl, upd_same, k.m (same_new (s.free hn))⟩⟩
/-! isinstance -/
def Isa (K : PySem.W.Frag) (T : Ty) (n : String) : Prop := ∀ v H, T.p v H → TyX K H v (.type n)
theorem isa_int {i : Int} : Isa K (yI i) "int" := fun v H h => by
  obtain rfl : v = .int i := h
  exact .base (.int i)
theorem isa_tup : Isa K (yT ts) "tuple" := fun v H h => by
  obtain ⟨a, vs, rfl, h, _⟩ := h
  exact .base (.tup h)
theorem gv_isi {n c : String} {b : Bool} (h : Gv ta σ B A) (hk : Gv tb σ B (yX (.ty c))) (ha : Isa K A n) (e : PySem.W.kitOne K (.type n) (.type c) = some b) : Gv (tCB (rIsi K) (tCons ta (tCons tb tNil))) σ B (yB b) :=
  gv_cb (ga_2 h hk) fun vs B1 H1 _ s hvs Q q => by
    obtain ⟨v, w, rfl, hv, hw⟩ := all2 hvs
    obtain rfl : w = .ty c := hw
    exact ⟨v, .ty c, .type n, .type c, b, rfl, .ty c, ha v H1 (A.m s hv), e, q _ B1 H1 (Gr.refl s) rfl⟩
theorem kit_ii : PySem.W.kitOne K (.type "int") (.type "int") = some true := kit_ty (by decide +kernel)
theorem kit_ib : PySem.W.kitOne K (.type "int") (.type "bool") = some false := kit_ty (by decide +kernel)
theorem kit_tt : PySem.W.kitOne K (.type "tuple") (.type "tuple") = some true := kit_ty (by decide +kernel)
theorem kit_dd : PySem.W.kitOne K (.type "dict") (.type "dict") = some true := kit_ty (by decide +kernel)
end
/-! displays of one to five items -/
section
variable {σ : L2.St} {B : Hp} {A1 A2 A3 A4 A5 : Ty} {t1 t2 t3 t4 t5 : TE}
theorem gv_tup0 : Gv (L2.tTup tNil) σ B (yT []) := gv_tup ga_nil (by simp)
theorem gv_tup1 (h1 : Gv t1 σ B A1) : Gv (L2.tTup (tCons t1 tNil)) σ B (yT [A1]) := gv_tup (ga_1 h1) (by simp)
theorem gv_tup2 (h1 : Gv t1 σ B A1) (h2 : Gv t2 σ B A2) : Gv (L2.tTup (tCons t1 (tCons t2 tNil))) σ B (yT [A1, A2]) := gv_tup (ga_2 h1 h2) (by simp)
theorem gv_tup3 (h1 : Gv t1 σ B A1) (h2 : Gv t2 σ B A2) (h3 : Gv t3 σ B A3) : Gv (L2.tTup (tCons t1 (tCons t2 (tCons t3 tNil)))) σ B (yT [A1, A2, A3]) := gv_tup (ga_3 h1 h2 h3) (by simp)
theorem gv_lst0 : Gv (tLst tNil) σ B (yL []) := gv_lst ga_nil (by simp)
theorem gv_lst1 (h1 : Gv t1 σ B A1) : Gv (tLst (tCons t1 tNil)) σ B (yL [A1]) := gv_lst (ga_1 h1) (by simp)
theorem gv_lst5 (h1 : Gv t1 σ B A1) (h2 : Gv t2 σ B A2) (h3 : Gv t3 σ B A3) (h4 : Gv t4 σ B A4) (h5 : Gv t5 σ B A5) : Gv (tLst (tCons t1 (tCons t2 (tCons t3 (tCons t4 (tCons t5 tNil)))))) σ B (yL [A1, A2, A3, A4, A5]) := gv_lst (ga_5 h1 h2 h3 h4 h5) (by simp)
end
end LD
set_option maxRecDepth 100000
set_option maxHeartbeats 4000000
/-! LdNewE: enumerate of a tuple. -/
namespace LD
open PySem PySem.Spec PyProof.Rows L2
open AutoSeq1 (wpAny_loadPart')
theorem meets_enumT (l : Addr) (items : Array Value) (n : Nat) (dct : Option Addr) (sl : Array (Option Value)) :
    Meets (Builtin.«enumerate.__new__» ⟨[.type "enumerate", .ref l], []⟩) (fun _ R s =>
      s.heap.get? l = some { cls := .type "tuple", dict := dct, data := .seq items n, slots := sl } ∧
      R (.ok (.ret (.ref (s.heap.push { cls := .type "tuple_iterator", data := .fields #[.ref l, .int 0 0] }).objs.size)))
        { s with heap := (s.heap.push { cls := .type "tuple_iterator", data := .fields #[.ref l, .int 0 0] }).push { cls := .type "enumerate", data := .fields #[.none, .bool false, .ref s.heap.objs.size, rawInt 0, .none, .none] } }) :=
  .of_wp fun prog w A R s h => by
    obtain ⟨hp, g, d, tk, os⟩ := s
    obtain ⟨hl, h⟩ := h
    have hsub := sub_enumerate
    have hL : Heap.IsTuple (Shared.heap ⟨hp, g, d, tk, os⟩) l items :=
      ⟨_, hl, rfl, n, rfl⟩
    wp_walk using wpAny_loadPart' hl
    refine wpAny_stack_any fun st =>
      wpAny_pure ?_
    split
    · rename_i c _ _ _ _ _
      cases (c == Value.type "enumerate")
      · wp_walk using wpAny_loadPart' hl, wpAny_pyIter_tuple hL
        exact ⟨_, rfl, h⟩
      · wp_walk using wpAny_loadPart' hl, wpAny_pyIter_tuple hL
        exact ⟨_, rfl, h⟩
    · wp_walk using wpAny_loadPart' hl, wpAny_pyIter_tuple hL
      exact ⟨_, rfl, h⟩
section
variable {prog : Program} {w : World} {A : Around} {E : Value → Shared → Prop} {s : Shared}
theorem call_enumT {l : Addr} {items : Array Value} {Q : Value → Shared → Prop} (hL : s.heap.IsTuple l items)
    (h : ∀ h', IsEnum h' (s.heap.objs.size + 1) s.heap.objs.size 0 .none → h'.IsTupleIter s.heap.objs.size l 0 →
      (∀ b o, s.heap.get? b = some o → h'.get? b = some o) → Q (.ref (s.heap.objs.size + 1)) { s with heap := h' }) :
    wpAny (model prog w) A (call (.type "enumerate") [.ref l]) Q E s := by
  obtain ⟨⟨c, dct, dt, sl⟩, hl, hc, n, hd⟩ := hL
  replace hc : c = .type "tuple" := hc
  replace hd : dt = .seq items n := hd
  subst hc hd
  refine callType_new F.called_enumerate (by decide) (F.typeCall_enumerate_1 _) (F.newCall_enumerate_1 _)
    (fun obj => F.args_object_init_2 obj _) F.entry_enumerate_new (meets_enumT l items n dct sl) ⟨hl, ?_⟩
  have hz : (s.heap.push { cls := .type "tuple_iterator", data := .fields #[.ref l, .int 0 0] }).objs.size = s.heap.objs.size + 1 :=
    Heap.size_push ..
  show _ ∧ _
  rw [hz]
  have he : IsEnum ((s.heap.push { cls := .type "tuple_iterator", data := .fields #[.ref l, .int 0 0] }).push
      { cls := .type "enumerate", data := .fields #[.none, .bool false, .ref s.heap.objs.size, rawInt 0, .none, .none] }) (s.heap.objs.size + 1) s.heap.objs.size 0 .none := by
    have := Heap.get?_push_size (s.heap.push { cls := .type "tuple_iterator", data := .fields #[.ref l, .int 0 0] })
      (o := { cls := .type "enumerate", data := .fields #[.none, .bool false, .ref s.heap.objs.size, rawInt 0, .none, .none] }) rfl
    rw [hz] at this
    exact this
  refine ⟨⟨_, he, rfl⟩, h _ he ⟨_, Heap.get?_push_of_some _ (Heap.get?_push_size _ rfl), rfl, rfl⟩ fun b o x =>
    Heap.get?_push_of_some _ (Heap.get?_push_of_some _ x)⟩
end
/-- the tuple at a, each item in a new pair with its place -/
def IteT (K : PySem.W.Frag) (a : Addr) : It :=
  ⟨fun i H => ∃ (xs : List V) (x : V), SqT K H a xs ∧ xs[i]? = some x,
   fun i H v H' => ∃ T x, v = .ref T ∧ H T = none ∧ H' = upd H T (.tup [.int (i : Nat), x]) ∧ ∀ xs, SqT K H a xs → xs[i]? = some x,
   fun i H => ∃ xs : List V, SqT K H a xs ∧ xs.length = i⟩
theorem turn_enumT {P : Program} {w : World} {K : PySem.W.Frag} {elts : List Expr} {kk : Nat} {tpos : Pos} (a e it : Addr) :
    Turn P w K (.Tuple elts kk tpos) (IteT K a) [e, it] e (fun i h => (∃ old, IsEnum h e it ((i : Nat) : Int) old) ∧ h.IsTupleIter it a i ∧ e ≠ it ∧ a ≠ it ∧ e ≠ a) where
  mem := by simp
  obj := fun i h st b hb => by
    obtain ⟨⟨old, he⟩, ⟨o, ho, hc, hd⟩, _⟩ := st
    have e' : b = e ∨ b = it := by simpa using hb
    rcases e' with z | z
    · rw [z]
      exact ⟨_, he, fun v q => nomatch q⟩
    · rw [z]
      exact ⟨o, ho, fun v q => by
        rw [hd] at q
        cases q⟩
  keep := fun i h h' st k => by
    obtain ⟨⟨old, he⟩, hi, hne⟩ := st
    exact ⟨⟨old, k e (by simp) _ he⟩, hi.at fun o q => k it (by simp) o q, hne⟩
  item := by
    intro X hP hw hK hc i pins s σ H E I hf st hg
    subst hP hw hK
    obtain ⟨⟨old, he⟩, hit, hne, hai, hea⟩ := st
    obtain ⟨xs, x, hq, hx⟩ := hg
    obtain ⟨its, rv, p, hz⟩ := I.tuple hq
    obtain ⟨u, hu, ru⟩ := rv.get hx
    have hel : e < s.heap.objs.size := Heap.lt_size he
    have hil : it < s.heap.objs.size := by
      obtain ⟨_, q, _⟩ := hit
      exact Heap.lt_size q
    have hlt : i < its.toArray.size := by
      have := (List.getElem?_eq_some_iff.mp hu).1
      simpa using this
    refine wpAny_pyNext_enum_itemD (Draws.tuple (A := X.A.in1) (show X.A.in1.handled = none from I.ok.hd hc) it a hai its.toArray) he ⟨hit, p⟩ hlt hne (by simp [hne, hea]) fun x' h' tk hP ho hst hT hsz hk => ?_
    have hx' : x' = u := by
      have h1 : its.toArray[i]? = some x' := hP
      have h2 : its.toArray[i]? = some u := by simpa using hu
      exact Option.some.inj (h1.symm.trans h2)
    subst hx'
    refine ⟨_, rfl, wpAny_letOwnedTupleGo_enum (s := { s with heap := h', toks := tk + 1 }) ho fun h'' he' sb => ?_⟩
    have hT2 : h''.get? s.heap.objs.size = some { cls := .type "tuple", data := .seq #[.int i tk, x'] } :=
      (sb.2 _ (Nat.ne_of_gt hel)).trans hT
    have new : ObjOk X.prog X.w (upd H s.heap.objs.size (.tup [.int (i : Nat), x])) h'' s.heap.objs.size (.tup [.int (i : Nat), x]) :=
      ⟨by show 2 ≤ sizeLine; decide, [.int i tk, x'], .cons ⟨_, rfl⟩ (.cons ru .nil), ⟨_, hT2, rfl, _, rfl⟩⟩
    have I1 : Inv X pins σ (upd H s.heap.objs.size (.tup [.int (i : Nat), x])) { s with heap := h'', toks := tk + 1 } :=
      I.turnedNew (ch := [e, it]) (fun b ob hb q =>
        (sb.2 b (fun z => hb (by simp [z]))).trans (hk b ob (fun z => hb (by simp [z])) (fun z => hb (by simp [z])) q)) hf (Nat.le_refl _) new
    refine ⟨.ref s.heap.objs.size, _, I1, rfl, ⟨_, x, rfl, I.hok.fresh (Nat.le_refl _), rfl, fun ys hy => by
      rw [I.tuple_inj hy hq]
      exact hx⟩, ⟨⟨x', ?_⟩, hst.1.at fun o q => (sb.2 it (Ne.symm hne)).trans q, hne, hai, hea⟩, fun b hb => ?_⟩
    · have e1 : ((i + 1 : Nat) : Int) = (i : Int) + 1 := by omega
      rw [e1]
      exact he'
    · have hb' : b < s.heap.objs.size := by
        have e' : b = e ∨ b = it := by simpa using hb
        rcases e' with z | z
        · rw [z]; exact hel
        · rw [z]; exact hil
      rw [upd_ne (Nat.ne_of_lt hb')]
      exact (hf b hb).1
  done := by
    intro X hP hw hK hc i pins s σ H E I hf st hg
    subst hP hw hK
    obtain ⟨⟨old, he⟩, hit, hne, hai, hea⟩ := st
    obtain ⟨xs, hq, hx⟩ := hg
    obtain ⟨its, rv, p, hz⟩ := I.tuple hq
    obtain ⟨f0, f1, f2, f3, f4, f5⟩ := hf it (by simp)
    have hl := rv.length
    have e1 : i = its.toArray.size := by
      rw [List.size_toArray, ← hl]
      exact hx.symm
    exact wpAny_pyNext_enum_endD (Draws.tuple (A := X.A.in1) (show X.A.in1.handled = none from I.ok.hd hc) it a hai its.toArray) he ⟨by rw [← e1]; exact hit, p⟩ fun h' eb =>
      ⟨rfl, I.turned (t' := s.toks) (fun b o hb q => eb b o hb q) f0 f1 f3 f4 f5⟩
  self := fun A i s Q E st h => by
    obtain ⟨⟨_, he⟩, _⟩ := st
    exact wpAny_pyIter_enum he h

def iEnumT (K : PySem.W.Frag) (ta : TA) : TI := fun σ H R => ta σ H fun vs H1 => ∃ a xs, vs = [.ref a] ∧ SqT K H1 a xs ∧ R (IteT K a) H1
theorem pi_enumT {X : Cx} {e : Expr} {ta : TA} {p pos tpos : Pos} {elts : List Expr} {kk : Nat} (hg : Gl X "enumerate") (hm : X.mg "enumerate" = none) (ha : PA X [e] ta)
    (hs : starEach [e] X.env = [(false, eval e X.env)] := by rfl) : PI X (.Tuple elts kk tpos) (.Call (.Name "enumerate" p) [e] [] pos) (iEnumT X.K ta) := by
  refine ⟨fun pins s σ H R I h => ?_⟩
  refine Call_ (ld_blt I hg hm boot_enumerate (PyProof.Rows.callWith_type1
    (thn (ha.run pos pins s σ H _ I h) fun us s1 ⟨vs, H1, I1, r1, q1⟩ => ?_) hs rfl))
  obtain ⟨a, xs, ex, hq, q⟩ := q1
  subst ex
  cases r1 with
  | cons r rr =>
    cases rr
    cases r
    obtain ⟨its, rv, p', hz⟩ := I1.tuple hq
    have hlt : a < s1.heap.objs.size := p'.lt
    refine call_enumT p' fun h' he hit hk =>
      wpAny_pyIter_enum he ?_
    have I2 : Inv X pins σ H1 { s1 with heap := h' } :=
      I1.kept (t' := s1.toks) hk
    refine ⟨s1.heap.objs.size + 1, [s1.heap.objs.size + 1, s1.heap.objs.size], _, _, H1, rfl, I2, turn_enumT a (s1.heap.objs.size + 1) s1.heap.objs.size,
      ⟨⟨.none, he⟩, hit, Nat.succ_ne_self _, Nat.ne_of_lt hlt, Nat.ne_of_gt (Nat.lt_succ_of_lt hlt)⟩, fun b hb => ?_, q⟩
    have e' : b = s1.heap.objs.size + 1 ∨ b = s1.heap.objs.size := by simpa using hb
    rcases e' with z | z
    · rw [z]
      exact I1.fpOk (Nat.le_succ _) (I1.hok.fresh (Nat.le_succ _))
    · rw [z]
      exact I1.fpOk (Nat.le_refl _) (I1.hok.fresh (Nat.le_refl _))
theorem walk_enumT {K : PySem.W.Frag} {a : Addr} {xs : List V} : Walk (IteT K a) xs.length (fun H => SqT K H a xs) (YPair (fun i => some (.int (i : Nat))) (fun i => xs[i]?)) := by
  refine ⟨fun i _ hi q => ⟨xs, xs[i], q, by simp [hi]⟩, fun _ q => ⟨xs, q, rfl⟩, fun i H v H' _ q y => ?_⟩
  obtain ⟨T, x, h1, h2, h3, h4⟩ := y
  exact ⟨T, .int (i : Nat), x, h1, h2, h3, rfl, h4 xs q⟩
theorem gi_enumT {σ : L2.St} {B : Hp} {A : Ty} {te : TE} {K : PySem.W.Frag} {ts : List Ty} (h : Gv te σ B A) (hl : IsTu K A ts) : GvI (iEnumT K (tCons te tNil)) σ B ts.length (fun i => yT [yI (i : Int), tyAt ts i]) := fun H s R r => (ga_1 h) H s _ fun vs B1 H1 g hvs => by
  obtain ⟨v, rfl, hv⟩ := all1 hvs
  obtain ⟨a, vs, rfl, hs, k⟩ := hl v B1 hv
  refine ⟨a, vs, rfl, same_t g.in_ hs, r _ B1 H1 g (k.len ▸ walkT (walk_enumT (xs := vs)) (fun H2 s2 => same_t s2 hs) fun i B2 H2 x H3 _ s1 s2 hy => ?_)⟩
  obtain ⟨p, u, y, e1, e2, e3, e4, e5⟩ := hy
  cases e4
  subst e1 e3
  exact ⟨_, Gr.new s2 e2, p, _, rfl, upd_same, rfl, (tyAt ts i).m (s1.trans (same_new (s2.free e2))) (all_at k e5), trivial⟩
end LD
set_option maxRecDepth 100000
set_option maxHeartbeats 4000000
/-! LdNewM: min of a dict whose keys are tuples of ints; dict(d) of a dict with tuple keys. -/
namespace LD
open PySem PySem.Spec PyProof.Rows L2
open Sem (wp)
/-- a dict's key tuple, whichever -/
def rMinT : List V → Hp → VK → Prop := fun xs H Q => ∃ (d : Addr) (kvs : List (List L2.Key × V)), xs = [.ref d] ∧ Rd H d (.dT kvs) ∧ kvs ≠ [] ∧
  (∀ p ∈ kvs, ∃ ns : List Int, p.1 = ns.map Sum.inl) ∧ ∀ k v b, (k, v) ∈ kvs → H b = some (.tup (k.map kV)) → Q (.ref b) H
theorem kv_ints (ns : List Int) : (ns.map (Sum.inl : Int → L2.Key)).map kV = ns.map V.int := by
  rw [List.map_map]
  rfl
theorem KT.at {H : Hp} : ∀ {kvs : List (List L2.Key × V)} {xs : List (List L2.Key × Addr × Value)} {i : Nat} {x : List L2.Key × Addr × Value}, KT H kvs xs → xs[i]? = some x → ∃ v, kvs[i]? = some (x.1, v) ∧ H x.2.1 = some (.tup (x.1.map kV))
  | _, _, i, x, .nil, h => by simp at h
  | _, _, 0, x, .cons (a := a) q t, h => by
    simp at h
    subst h
    refine ⟨a.2, ?_, by rw [← q.1]; exact q.2.1⟩
    simp [← q.1]
  | _, _, i + 1, x, .cons q t, h => by
    obtain ⟨v, h1, h2⟩ := KT.at t (show _ from by simpa using h)
    exact ⟨v, by simpa using h1, h2⟩
theorem cr_minT {X : Cx} (hc : X.calm = true) (hu : X.A.units + 1 < cLine) : CallR X (.builtin "min") rMinT := by
  intro pins s σ H vs us Q I r h
  obtain ⟨d, kvs, rfl, hd, hne, hints, q⟩ := h
  obtain ⟨u, rfl, rx⟩ := vals1 r
  cases rx
  obtain ⟨hz, hs, xs, kt, o, es, ep, ho, hx, hdt, he, hn⟩ := (show ObjOk X.prog X.w H s.heap d (.dT kvs) from hd.ok I.hok)
  have hsz : es.size = kvs.length := by rw [size_of_entries he, ← Paired.length kt]
  have hraw : s.heap.DictRaw d es ep := ⟨o, ho, hx, hdt⟩
  have hlt : d < s.heap.objs.size := Heap.lt_size ho
  -- the i-th key
  have key : ∀ (i : Nat) (v : Value), (∃ hi : i < es.size, v = es[i].key) → ∃ (k : List L2.Key) (w : V) (b : Addr) (ns : List Int), kvs[i]? = some (k, w) ∧ v = .ref b ∧ H b = some (.tup (k.map kV)) ∧ k = ns.map Sum.inl := by
    rintro i v ⟨hi, e⟩
    have h1 : i < xs.length := by
      have := size_of_entries he
      omega
    obtain ⟨w, h2, h3⟩ := KT.at kt (List.getElem?_eq_getElem h1)
    have h4 : es.toList[i]? = some (entryOfKey (tupleKind (mixKind X.prog X.w)) xs[i]) := by
      rw [he, List.getElem?_map, List.getElem?_eq_getElem h1]
      rfl
    have h5 : es[i] = entryOfKey (tupleKind (mixKind X.prog X.w)) xs[i] := by
      have h6 : es.toList[i]? = some es[i] := by
        rw [Array.getElem?_toList]
        exact Array.getElem?_eq_getElem hi
      exact Option.some.inj (h6.symm.trans h4)
    obtain ⟨ns, hns⟩ := hints _ (List.mem_of_getElem? h2)
    exact ⟨_, w, xs[i].2.1, ns, h2, by rw [e, h5]; rfl, h3, hns⟩
  let nsOf : Nat → List Int := fun i => match kvs[i]? with
    | some p => p.1.map fun k => match k with | .inl n => n | .inr _ => 0
    | none => []
  have nsOf_eq : ∀ (i : Nat) (ns : List Int) (w : V), kvs[i]? = some (ns.map Sum.inl, w) → nsOf i = ns := by
    intro i ns w e
    show (match kvs[i]? with
      | some p => p.1.map fun k => match k with | .inl n => n | .inr _ => 0
      | none => []) = ns
    rw [e]
    show (ns.map (Sum.inl : Int → L2.Key)).map _ = ns
    rw [List.map_map]
    exact List.map_id _
  refine call_min_walkH (wpAny_pyIter_dict_raw hs hraw ?_)
  refine ⟨s.heap.objs.size, _, _, _, es.size, _, _, s.heap, fun i j => HT.lexLt (nsOf i) (nsOf j), rfl,
    (Walks.rawKeys (show X.A.in1.handled = none from I.ok.hd hc) s.heap.objs.size d (Nat.ne_of_lt hlt) es ep).toS, ⟨⟨_, Heap.get?_push_size _ rfl, rfl, rfl⟩, hraw.at fun o e => Heap.get?_push_of_some _ e⟩, fun b hb => ?_, ?_, fun b ob e hb => ?_, fun b ob e => Heap.get?_push_of_some _ e, ?_, ?_⟩
  · show b < (s.heap.push _).objs.size
    rw [Heap.size_push]
    have e' : b = s.heap.objs.size ∨ b = d := by simpa using hb
    rcases e' with z | z
    · rw [z]; exact Nat.lt_succ_self _
    · rw [z]; exact Nat.lt_succ_of_lt hlt
  · rw [hsz]
    exact List.length_pos_iff.mpr hne
  · have e' : b = s.heap.objs.size := by simpa using hb
    exact absurd (Heap.lt_size e) (by rw [e']; exact Nat.lt_irrefl _)
  · intro i j vi vj s' Q' E' hk hi hj hq
    obtain ⟨k1, w1, b1, ns1, g1, e1, t1, f1⟩ := key i vi hi
    obtain ⟨k2, w2, b2, ns2, g2, e2, t2, f2⟩ := key j vj hj
    subst e1 e2 f1 f2
    rw [kv_ints] at t1 t2
    obtain ⟨its1, r1, p1, _⟩ := I.tuple (SqT.of t1)
    obtain ⟨its2, r2, p2, _⟩ := I.tuple (SqT.of t2)
    have hq : Q' (.bool (HT.lexLt (nsOf i) (nsOf j))) s' := hq
    rw [nsOf_eq i ns1 w1 g1, nsOf_eq j ns2 w2 g2] at hq
    have keepT : ∀ {a : Addr} {its : Array Value}, IsTup s.heap a its → IsTup s'.heap a its := fun ⟨o, ho, r⟩ => ⟨o, hk _ _ ho, r⟩
    exact HT.lt_tupInts (keepT p1) (keepT p2) (intsAre_of r1) (intsAre_of r2) hu hq
  · intro v s' hP hm
    obtain ⟨k, w, b, ns, g, e, t, f⟩ := key _ v hP
    subst e
    obtain ⟨h', tk, rfl, hk⟩ := PySem.W.moved_old rfl rfl hm
    exact ⟨.ref b, H, I.kept hk, rfl, q k w b (List.mem_of_getElem? g) t⟩

/-! dict(d), its keys tuples -/
section
variable {prog : Program} {w : World} {K : Type} [DecidableEq K] {knd : HeapKind prog w K} {A : Around} {E : Value → Shared → Prop} {s : Shared}
theorem call_dictH {o : Addr} {more : List (K × Addr × Value)} {Q : Value → Shared → Prop} (hu : knd.room A.in1.in1) (st : knd.Stays) (hoS : (o == sysModules) = false) (ho : s.heap.DictOfH knd o more) (hsz : more.length ≤ sizeLine) (hap : (more.map fun x => knd.hash x.1).Nodup)
    (h : ∀ h', h'.DictOfH knd s.heap.objs.size more → Heap.SameBut s.heap.objs.size (s.heap.push { cls := .type "dict", data := .dict #[] }) h' → Q (.ref s.heap.objs.size) { s with heap := h' }) :
    wpAny (model prog w) A (call (.type "dict") [.ref o]) Q E s := by
  refine callType_codes (Q₁ := fun obj s₁ => obj = .ref s.heap.objs.size ∧ s₁ = { s with heap := s.heap.push { cls := .type "dict", data := .dict #[] } }) F.kt_called_dict
    (F.kt_typeCall_dict_1 _) F.entry_dict_init (kt_code_dict_new _ ⟨rfl, rfl⟩) ?_
  rintro obj s₁ ⟨rfl, rfl⟩
  have hnew : (s.heap.push { cls := .type "dict", data := .dict #[] }).DictOfH knd s.heap.objs.size [] := Heap.DictOfH.new s.heap
  have ho' : (s.heap.push { cls := .type "dict", data := .dict #[] }).DictOfH knd o more := by
    obtain ⟨ob, es, ep, h1, h2, h3, h4, h5, h6⟩ := ho
    exact ⟨ob, es, ep, Heap.get?_push_of_some _ h1, h2, h3, h4, fun x hx => st.stays (fun b o _ _ e _ => Heap.get?_push_of_some _ e) (h5 x hx), h6⟩
  have hn : (more.map (·.1)).Nodup := by
    obtain ⟨_, _, _, _, _, _, _, _, hn⟩ := ho
    exact hn
  have hdo : s.heap.objs.size ≠ o := by
    obtain ⟨_, _, _, hg, _⟩ := ho
    exact fun e => absurd (Heap.lt_size hg) (by rw [e]; exact Nat.lt_irrefl _)
  refine ⟨hnew.typeIs, F.args_dict_init_2 _ _, ?_⟩
  unfold Builtin.«dict.__init__»
  refine wpAny_bind ?_
  unfold Builtin.Dict.selfAndRest
  refine wpAny_bind (wpAny_notOrdered_dict hnew.typeIs ?_)
  show wpAny _ _ (pure (s.heap.objs.size, [Value.ref o])) _ _ _
  refine wpAny_pure ?_
  show wpAny _ _ (Builtin.Dict.updateFrom "dict.__init__" s.heap.objs.size (.ref o) [] .none) _ _ _
  refine updateFrom_dictH (A := A.in1) (R := wants (fun r s₂ => r = Value.none ∧ Q (Value.ref s.heap.objs.size) s₂) E) (s := { s with heap := s.heap.push { cls := .type "dict", data := .dict #[] } })
    .none hu hdo hoS hnew ho' (.inr ⟨keyed_apart st ho', hap⟩) (by simpa using hsz) fun h' hd' _ hs' => ⟨rfl, h h' ?_ hs'⟩
  rw [storedAllH_nil_of_nodup more hn] at hd'
  exact hd'
end
def rDictT (P : Program) (w : World) : List V → Hp → VK → Prop := fun xs H Q => ∃ (a : Addr) (kvs : List (List L2.Key × V)), xs = [.ref a] ∧ Rd H a (.dT kvs) ∧
  (kvs.map fun p => (tupleKind (mixKind P w)).hash p.1).Nodup ∧ ∀ p, H p = none → Q (.ref p) (upd H p (.dT kvs))
theorem kt_hash {P : Program} {w : World} {H : Hp} : ∀ {kvs : List (List L2.Key × V)} {xs : List (List L2.Key × Addr × Value)}, KT H kvs xs →
    (xs.map fun x => (tupleKind (mixKind P w)).hash x.1) = kvs.map fun p => (tupleKind (mixKind P w)).hash p.1
  | _, _, .nil => rfl
  | _, _, .cons q t => by
    rw [List.map_cons, List.map_cons, kt_hash t, q.1]
theorem cr_dictT {X : Cx} (hu : X.A.units + 8 < cLine) : CallR X (.type "dict") (rDictT X.prog X.w) := by
  intro pins s σ H vs us Q I r h
  obtain ⟨d, kvs, rfl, hd, hap, q⟩ := h
  obtain ⟨u, rfl, rx⟩ := vals1 r
  cases rx
  obtain ⟨z, hs, xs, kt, dd⟩ := dt_rd I.hok hd
  have hl : kvs.length = xs.length := Paired.length kt
  refine call_dictH (show X.A.in1.in1.units < cLine from ?_) tupleKind_stays hs dd (by rw [← hl]; exact z) (by rw [kt_hash kt]; exact hap) fun h' dd' sb => ?_
  · show X.A.units + 1 + 1 < cLine
    omega
  obtain ⟨o, es, ep, h1, h2, h3, h4, h5, h6⟩ := dd'
  have hfr := I.hok.fresh (Nat.le_refl s.heap.objs.size)
  refine ⟨.ref s.heap.objs.size, _, I.laid (a := s.heap.objs.size) (o := .dT kvs) (t' := s.toks) (fun b u hq => ?_) (Nat.le_refl _) ⟨z, beq_eq_false_iff_ne.mpr (Ne.symm (Nat.ne_of_lt I.big)), xs, ?_, o, es, ep, h1, h2, h3, h4, h6⟩, rfl, q _ hfr⟩
  · exact (sb.2 b (Nat.ne_of_lt (Heap.lt_size hq))).trans (Heap.get?_push_of_some _ hq)
  · exact kt.keeps fun b ys e => by
      rw [upd_ne (ne_of_none e hfr)]
      exact e
end LD
set_option maxRecDepth 100000
set_option maxHeartbeats 8000000
/-! LdNewD: dict comprehensions over the layer: one clause, keys of either kind; two clauses. -/
namespace LD
open PySem PySem.Spec PyProof.Rows L2
/-- d[k] = v as a comprehension does it -/
theorem put_ok {X : Cx} {pins : List (Addr × Obj)} {σ : L2.St} {H H' : Hp} {s : Shared} {E : Value → Shared → Prop} {D : Addr} {y v : V} {u r : Value} {Q : Unit → Shared → Prop} (hu : X.A.units + 1 < cLine)
    (I : L2.Inv X pins σ H s) (g : DPut H D y v H') (ry : L2.RelV y u) (rv : L2.RelV v r) (h : ∀ s', L2.Inv X pins σ H' s' → Q () s') : wpAny (model X.prog X.w) X.A (dictSet D u r) Q E s := by
  rcases g with ⟨kvs, k, e, ey, l, eH⟩ | ⟨kvs, k, b, e, ey, eb, l, eH⟩
  · subst ey eH
    exact d_dictSet I e l ry rv h
  · subst ey eH
    cases (show u = Value.ref b from ry)
    obtain ⟨z, hd, xs, rel, dd⟩ := dt_of I.hok e
    have l1 : xs.length ≤ sizeLine := by
      rw [← Paired.length rel]
      exact z
    have l2 : (putK kvs k v).length ≤ sizeLine := by
      have := length_putK kvs k v
      omega
    refine wpAny_dictSet_heap (hsz := l1) (show X.A.units < cLine by omega) (key_of I.hok eb) dd fun h' dd' sb => h _ ?_
    obtain ⟨q, es, ep, g1, g2, g3, g4, _, g5⟩ := dd'
    refine d_write I (by rw [e]; exact trivial) sb ⟨q, g1⟩ ⟨l2, hd, _, (rel.put k eb rv).keeps fun c ys ec => ?_, q, es, ep, g1, g2, g3, g4, g5⟩
    rw [upd_ne (ne_of ec e (fun z => nomatch z))]
    exact ec
/-- the object that a dict comprehension begins with -/
def Emp (o : HO) : Prop := o = .dK [] ∨ o = .dT []
theorem Emp.laid {P : Program} {w : World} {H : Hp} {o : HO} (e : Emp o) (h : Heap) (hb : sysModules < h.objs.size) : ObjOk P w H (h.push { cls := .type "dict", data := .dict #[] }) h.objs.size o := by
  rcases e with rfl | rfl
  · exact dk_empty h hb
  · exact dt_empty h hb
/-- what a block's body asks: from D, the slots, the heap, to where the next turn goes on -/
abbrev RB := Addr → L2.St → Hp → (Hp → Prop) → Prop
/-- {k: v for target in iter if .. }, begun as o; rb: the rest of the turn -/
def tDg (o : HO) (wi : TI) (g : TG) (tt : TT) (rb : RB) (vs : List Nat) : TE := fun σ H Q => wi σ H fun J H1 => ∀ D, H1 D = none → ∃ W : Nat → Nat → Hp → Prop, (∃ m, W 0 m (upd H1 D o)) ∧ ∀ i m H, W i m H →
  (J.stop i H ∧ Q (.ref D) H) ∨ (J.go i H ∧ ∃ Nx : Hp → Prop, (∀ H', Nx H' → ∃ m', m' < m ∧ W (i + 1) m' H') ∧ ∀ x H', J.yld i H x H' → g x (wipe σ vs) H' fun σ2 H2 =>
    wipe σ2 vs = wipe σ vs ∧ tt σ2 H2 fun b H3 => if b = true then rb D σ2 H3 Nx else Nx H3)
/-- k: v -/
def rPut (tk tv : TE) : RB := fun D σ H Nx => tk σ H fun y H1 => tv σ H1 fun z H2 => ∃ H3, DPut H2 D y z H3 ∧ Nx H3
/-- for target in iter if .. and then the rest -/
def rFor (wi : TI) (g : TG) (tt : TT) (vs : List Nat) (rb : RB) : RB := fun D σ H Nx => wi σ H fun J H1 => ∃ W : Nat → Nat → Hp → Prop, (∃ m, W 0 m H1) ∧ ∀ j k H, W j k H →
  (J.stop j H ∧ Nx H) ∨ (J.go j H ∧ ∃ Nx1 : Hp → Prop, (∀ H', Nx1 H' → ∃ k', k' < k ∧ W (j + 1) k' H') ∧ ∀ x H', J.yld j H x H' → g x (wipe σ vs) H' fun σ2 H2 =>
    wipe σ2 vs = wipe σ vs ∧ tt σ2 H2 fun b H3 => if b = true then rb D σ2 H3 Nx1 else Nx1 H3)
/-! ### the machine's turns of a dict comprehension with two clauses -/
section
variable (kx vx t0 i0 t1 i1 : Expr) (f0 f1 : List Expr) (scope : Scope) (pos : Pos) (it : Value) (D : Addr) (env : Env)
abbrev dc2e : Expr := .DictComp kx vx [⟨t0, i0, f0, 0⟩, ⟨t1, i1, f1, 0⟩] scope pos
theorem turnD2_out : compTurn (dc2e kx vx t0 i0 t1 i1 f0 f1 scope pos) 0 it (.ref D) env = (do
      standAt i0.pos
      match ← pyNext it with
      | none => pure (.done .next)
      | some v =>
        letOwnedTupleGo t0 it v
        assign t0 env v
        let mut ok := true
        for c in f0 do
          if ok then ok ← isTrue c env (eval c env)
        if ok then
          let x ← eval i1 env
          standAt i1.pos
          let x ← foldedSetIterable i1 env x
          let _ ← runOwn (.compStart (dc2e kx vx t0 i0 t1 i1 f0 f1 scope pos) 1 (← holding [x] (pyIter x)) (.ref D) env) env
        again (.compLoop (dc2e kx vx t0 i0 t1 i1 f0 f1 scope pos) 0 it (.ref D) env)) := by rfl
theorem turnD2_in : compTurn (dc2e kx vx t0 i0 t1 i1 f0 f1 scope pos) 1 it (.ref D) env = (do
      standAt i1.pos
      match ← pyNext it with
      | none => pure (.done .next)
      | some v =>
        letOwnedTupleGo t1 it v
        assign t1 env v
        let mut ok := true
        for c in f1 do
          if ok then ok ← isTrue c env (eval c env)
        if ok then
          (do
            let kv ← eval kx env
            let vv ← holding [kv] (eval vx env)
            standAt { kx.pos with endLine := vx.pos.endLine, endCol := vx.pos.endCol }
            holding [kv, vv] (dictSet D kv vv))
        again (.compLoop (dc2e kx vx t0 i0 t1 i1 f0 f1 scope pos) 1 it (.ref D) env)) := by rfl
end
section
variable {prog : Program} {w : World} {A : Around} {R : Result → Shared → Prop} {s : Shared} {kx vx t0 i0 t1 i1 : Expr} {f0 f1 : List Expr} {scope : Scope} {pos : Pos} {it : Value} {D : Addr} {env : Env}
theorem loopD2_out (hs : ∀ x, foldedSetIterable i1 env x = pure x) (I : Nat → Shared → Prop)
    (turn : ∀ n s, I n s → wpAny (model prog w) A (pyNext it) (fun r s₁ => match r with
      | none => R (.ok .next) s₁
      | some v => wpAny (model prog w) A (letOwnedTupleGo t0 it v) (fun _ s₁' => wpAny (model prog w) A (assign t0 env v) (fun _ s₂ =>
          wpAny (model prog w) A (forIn f0 true fun c r => if r = true then do let ok ← isTrue c env (eval c env); pure (ForInStep.yield ok) else pure (ForInStep.yield r)) (fun ok s₃ =>
            if ok = true then wpAny (model prog w) A (eval i1 env) (fun x s₄ => wpAny (model prog w) A (pyIter x) (fun j s₅ =>
              codeAny (model prog w) A (.compStart (dc2e kx vx t0 i0 t1 i1 f0 f1 scope pos) 1 j (.ref D) env) (fun r s' => match r with
                | .ok _ => ∃ m, m < n ∧ I m s'
                | .error _ => False) s₅) (fun _ _ => False) s₄) (fun _ _ => False) s₃
            else ∃ m, m < n ∧ I m s₃) (fun _ _ => False) s₂) (fun _ _ => False) s₁') (fun _ _ => False) s₁) (fun _ _ => False) s)
    (n : Nat) (h : I n s) : codeAny (model prog w) A (.compLoop (dc2e kx vx t0 i0 t1 i1 f0 f1 scope pos) 0 it (.ref D) env) R s := by
  refine codeAny_loop rfl I (fun n s hI => ?_) n h
  show wpAny _ A ((compTurn (dc2e kx vx t0 i0 t1 i1 f0 f1 scope pos) 0 it (.ref D) env).onRaise fun x => do
    noteFrame x env
    theTreesLotGoes x) _ _ s
  refine wpAny_noted ?_
  rw [turnD2_out]
  refine wpAny_bind (wpAny_standAt (wpAny_bind (thnF (turn n s hI) fun r s₁ h₁ => ?_)))
  cases r with
  | none => exact wpAny_pure h₁
  | some v =>
    refine wpAny_bind (thnF h₁ fun _ s₁' h₁' => wpAny_bind (thnF h₁' fun _ s₂ h₂ => wpAny_bind (thnF h₂ fun ok s₃ h₃ => ?_)))
    cases ok with
    | false => exact wpAny_pure ⟨rfl, h₃⟩
    | true =>
      refine wpAny_bind (thnF h₃ fun x s₄ h₄ => wpAny_bind (wpAny_standAt (wpAny_bind (wpAny_of_eq (hs x) (wpAny_bind (wpAny_holding (thnF h₄ fun j s₅ h₅ => ?_)))))))
      refine wpAny_bind (wpAny_runOwn ?_)
      rw [Around.mark_none]
      refine codeAny_mono h₅ fun r s' hr => ?_
      cases r with
      | ok f =>
        first
          | exact wpAny_pure ⟨rfl, hr⟩
          | exact wpAny_bind (wpAny_pure (wpAny_pure ⟨rfl, hr⟩))
      | error e => exact hr.elim
theorem loopD2_in (I : Nat → Shared → Prop)
    (turn : ∀ n s, I n s → wpAny (model prog w) A (pyNext it) (fun r s₁ => match r with
      | none => R (.ok .next) s₁
      | some v => wpAny (model prog w) A (letOwnedTupleGo t1 it v) (fun _ s₁' => wpAny (model prog w) A (assign t1 env v) (fun _ s₂ =>
          wpAny (model prog w) A (forIn f1 true fun c r => if r = true then do let ok ← isTrue c env (eval c env); pure (ForInStep.yield ok) else pure (ForInStep.yield r)) (fun ok s₃ =>
            if ok = true then wpAny (model prog w) A (eval kx env) (fun y s₄ => wpAny (model prog w) A (eval vx env) (fun z s₅ =>
              wpAny (model prog w) A (dictSet D y z) (fun _ s₆ => ∃ m, m < n ∧ I m s₆) (fun _ _ => False) s₅) (fun _ _ => False) s₄) (fun _ _ => False) s₃
            else ∃ m, m < n ∧ I m s₃) (fun _ _ => False) s₂) (fun _ _ => False) s₁') (fun _ _ => False) s₁) (fun _ _ => False) s)
    (n : Nat) (h : I n s) : codeAny (model prog w) A (.compLoop (dc2e kx vx t0 i0 t1 i1 f0 f1 scope pos) 1 it (.ref D) env) R s := by
  refine codeAny_loop rfl I (fun n s hI => ?_) n h
  show wpAny _ A ((compTurn (dc2e kx vx t0 i0 t1 i1 f0 f1 scope pos) 1 it (.ref D) env).onRaise fun x => do
    noteFrame x env
    theTreesLotGoes x) _ _ s
  refine wpAny_noted ?_
  rw [turnD2_in]
  refine wpAny_bind (wpAny_standAt (wpAny_bind (thnF (turn n s hI) fun r s₁ h₁ => ?_)))
  cases r with
  | none => exact wpAny_pure h₁
  | some v =>
    refine wpAny_bind (thnF h₁ fun _ s₁' h₁' => wpAny_bind (thnF h₁' fun _ s₂ h₂ => wpAny_bind (thnF h₂ fun ok s₃ h₃ => ?_)))
    cases ok with
    | false => exact wpAny_pure ⟨rfl, h₃⟩
    | true =>
      exact wpAny_bind (wpAny_bind (thnF h₃ fun y s₄ h₄ => wpAny_bind (wpAny_holding (thnF h₄ fun z s₅ h₅ =>
        wpAny_bind (wpAny_standAt (wpAny_holding (thnF h₅ fun _ s₆ h₆ => wpAny_pure ⟨rfl, h₆⟩)))))))
theorem startD2 (h0 : codeAny (model prog w) A (.compLoop (dc2e kx vx t0 i0 t1 i1 f0 f1 scope pos) 1 it (.ref D) env) R s)
    (h : wpAny (model prog w) A (pyIter it) (fun j s' => codeAny (model prog w) A (.compLoop (dc2e kx vx t0 i0 t1 i1 f0 f1 scope pos) 1 j (.ref D) env) R s')
      (notedBy (model prog w) A env fun x s' => R (.error x) s') s) : codeAny (model prog w) A (.compStart (dc2e kx vx t0 i0 t1 i1 f0 f1 scope pos) 1 it (.ref D) env) R s := by
  refine codeAny_of_tree ?_
  show wpAny _ _ ((compStart (dc2e kx vx t0 i0 t1 i1 f0 f1 scope pos) 1 it (.ref D) env).onRaise fun x => do
    noteFrame x env
    standAt theWindowsPlace) _ _ s
  refine wpAny_notedAt ?_
  unfold compStart
  show wpAny _ _ (ask >>= _) _ _ s
  refine wpAny_bind (wpAny_askSetting (wpAny_ite ?_))
  split
  · first
      | exact wpAny_bind (wpAny_pure (wpAny_pure (And.intro rfl h0)))
      | exact wpAny_pure (And.intro rfl h0)
  · first
      | exact wpAny_bind (wpAny_rule (wpAny_bind (wpAny_standAt (wpAny_bind (wpAny_mono h (fun j s' h' => wpAny_pure (And.intro rfl h')) fun _ _ x => x)))))
      | (refine wpAny_bind (wpAny_rule ?_)
         show wpAny _ _ (standAt i1.pos >>= _) _ _ s
         exact wpAny_bind (wpAny_standAt (wpAny_bind (wpAny_mono h (fun j s' h' => wpAny_pure (And.intro rfl h')) fun _ _ x => x))))
end

/-! ### the block -/
section
variable {X : Cx}
/-- slots that know all that σ knows -/
def Kn (σ τ : L2.St) : Prop := σ.length = τ.length ∧ ∀ (j : Nat) v, σ[j]? = some (some v) → τ[j]? = some (some v)
theorem kn_wipe {σ τ : L2.St} {vs : List Nat} (h : wipe τ vs = wipe σ vs) : Kn (wipe σ vs) τ := by
  refine ⟨by rw [← h, wipe_length], fun j v e => ?_⟩
  rw [← h] at e
  exact (wipe_some e).1
theorem kn_in {σ τ : L2.St} {vs vs1 : List Nat} (hv : ∀ i ∈ vs1, i ∈ vs) (h : wipe τ vs = wipe σ vs) : Kn (wipe σ vs) (wipe τ vs1) := by
  refine ⟨by rw [← h, wipe_length, wipe_length], fun j v e => ?_⟩
  rw [← h] at e
  obtain ⟨e1, e2⟩ := wipe_some e
  rw [wipe_out fun z => e2 (hv j z)]
  exact e1
/-- a walked thing's turns within a block's context Y, by a loop rule of the machine's: from reading to run -/
structure Body (Y : Cx) (D : Addr) (σ0 : L2.St) (vs : List Nat) (rb : RB) (Bd : (Shared → Prop) → Shared → Prop) : Prop where
  run : ∀ (pins : List (Addr × Obj)) (σ : L2.St) (H : Hp) (s : Shared) (Nx : Hp → Prop) (F : Shared → Prop), wipe σ vs = wipe σ0 vs → L2.Inv Y pins σ H s → rb D σ H Nx →
    (∀ (τ : L2.St) (H' : Hp) (s' : Shared), L2.Inv Y pins τ H' s' → Kn (wipe σ0 vs) τ → Nx H' → F s') → Bd F s
theorem body_put {kx vx : Expr} {tk tv : TE} {Y : Cx} {D : Addr} {σ0 : L2.St} {vs : List Nat} (hu : Y.A.units + 1 < cLine) (hk : PE Y kx tk) (hv : PE Y vx tv) (hx : Y.xe = fun _ _ => False) :
    Body Y D σ0 vs (rPut tk tv) (fun F s => wpAny (model Y.prog Y.w) Y.A (eval kx Y.env) (fun y s₄ => wpAny (model Y.prog Y.w) Y.A (eval vx Y.env) (fun z s₅ => wpAny (model Y.prog Y.w) Y.A (dictSet D y z) (fun _ s₆ => F s₆) (fun _ _ => False) s₅) (fun _ _ => False) s₄) (fun _ _ => False) s) := by
  refine ⟨fun pins σ H s Nx F hw I h fin => ?_⟩
  have k := hk.run pins s σ H _ I h
  rw [hx] at k
  refine thnF k fun y s4 ⟨x1, H1, I1, r1, q1⟩ => ?_
  have k2 := hv.run pins s4 σ H1 _ I1 q1
  rw [hx] at k2
  refine thnF k2 fun z s5 ⟨x2, H2, I2, r2, H3, g, nx⟩ => ?_
  exact put_ok hu I2 g r1 r2 fun s6 I6 => fin σ H3 s6 I6 (kn_wipe hw) nx
/-- one walk's turn, shown from its parts: what both loops share -/
theorem turn_go {Y : Cx} {tg : Expr} {ifs : List Expr} {J : It} {fp : List Addr} {it : Addr} {tn : Nat → Heap → Prop} {g : TG} {tt : TT} {rb : RB} {D : Addr} {Bd : (Shared → Prop) → Shared → Prop} {vs : List Nat} {σ0 : L2.St} {pins : List (Addr × Obj)} {i : Nat} {H : Hp} {s : Shared} {Nx : Hp → Prop} {F : Shared → Prop}
    (hc : Y.calm = true) (hx : Y.xe = fun _ _ => False) (T : Turn Y.prog Y.w Y.K tg J fp it tn) (pg : PG Y tg g) (pt : PTs Y ifs tt) (bd : Body Y D σ0 vs rb Bd)
    (I : L2.Inv Y pins (wipe σ0 vs) H s) (st : tn i s.heap) (f : ∀ b ∈ fp, FpOk Y pins H b) (stat : ∀ H', (∀ b ∈ fp, H' b = none) → ∀ b ∈ fp, FpOk Y pins H' b) (go : J.go i H)
    (step : ∀ x H', J.yld i H x H' → g x (wipe σ0 vs) H' fun σ2 H2 => wipe σ2 vs = wipe σ0 vs ∧ tt σ2 H2 fun b H3 => if b = true then rb D σ2 H3 Nx else Nx H3)
    (fin : ∀ (H' : Hp) (s' : Shared), L2.Inv Y pins (wipe σ0 vs) H' s' → tn (i + 1) s'.heap → (∀ b ∈ fp, H' b = none) → Nx H' → F s') :
    wpAny (model Y.prog Y.w) Y.A (pyNext (.ref it)) (fun r s₁ => match r with
      | none => False
      | some v => wpAny (model Y.prog Y.w) Y.A (letOwnedTupleGo tg (.ref it) v) (fun _ s₁' => wpAny (model Y.prog Y.w) Y.A (assign tg Y.env v) (fun _ s₂ =>
          wpAny (model Y.prog Y.w) Y.A (forIn ifs true fun c r => if r = true then do let ok ← isTrue c Y.env (eval c Y.env); pure (ForInStep.yield ok) else pure (ForInStep.yield r)) (fun ok s₃ =>
            if ok = true then Bd F s₃ else F s₃) (fun _ _ => False) s₂) (fun _ _ => False) s₁') (fun _ _ => False) s₁) (fun _ _ => False) s := by
  refine thnF (T.item Y rfl rfl rfl hc i pins s _ H (fun _ _ => False) I f st go) fun r s1 ⟨u, hr, h1⟩ => ?_
  subst hr
  refine thnF h1 fun _ s2 ⟨x, H2, I2, r2, y2, st2, n2⟩ => ?_
  have I2p := I2.pinned (stat H2 n2) (T.obj _ _ st2)
  have k1 := pg.run _ s2 _ H2 x u _ I2p r2 (step x H2 y2)
  rw [hx] at k1
  refine thnF k1 fun _ s3 ⟨σ3, H3, I3, hw3, q3⟩ => ?_
  have k2 := pt.run _ s3 σ3 H3 _ I3 q3
  rw [hx] at k2
  refine thnF k2 fun b s4 ⟨H4, I4, q4⟩ => ?_
  have close : ∀ (τ : L2.St) (H' : Hp) (s' : Shared), L2.Inv Y (pins ++ pinsAt fp s2.heap) τ H' s' → Kn (wipe σ0 vs) τ → Nx H' → F s' := fun τ H' s' I' kn nx => by
    have pin : ∀ b ∈ fp, ∀ o, s2.heap.get? b = some o → s'.heap.get? b = some o ∧ H' b = none := fun b hb o e => by
      have z := I'.pin (b, o) (List.mem_append_right _ (List.mem_append_right _ (mem_pinsAt hb e)))
      exact ⟨z.1, z.2.1⟩
    refine fin H' s' (I'.unpinned.weak kn.1 kn.2) (T.keep _ _ _ st2 fun b hb o e => (pin b hb o e).1) (fun b hb => ?_) nx
    obtain ⟨o, e, _⟩ := T.obj _ _ st2 b hb
    exact (pin b hb o e).2
  cases b with
  | false =>
    simp only [Bool.false_eq_true, if_false] at q4 ⊢
    exact close σ3 H4 s4 I4 (kn_wipe hw3) q4
  | true =>
    simp only [if_true] at q4 ⊢
    exact bd.run _ σ3 H4 s4 Nx F hw3 I4 q4 close
/-- the second clause's own loop as a body -/
theorem body_for {kx vx t0 i0 t1 i1 : Expr} {f0 f1 : List Expr} {scope : Scope} {pos : Pos} {Y : Cx} {D : Addr} {wi1 : TI} {g1 : TG} {tt1 : TT} {tk tv : TE} {σ0 : L2.St} {vs vs1 : List Nat} (hvs : ∀ i ∈ vs1, i ∈ vs) (hc : Y.calm = true) (hu : Y.A.units + 1 < cLine) (hx : Y.xe = fun _ _ => False)
    (hi : PI Y t1 i1 wi1) (pg : PG Y t1 g1) (pt : PTs Y f1 tt1) (hk : PE Y kx tk) (hv : PE Y vx tv) :
    Body Y D σ0 vs (rFor wi1 g1 tt1 vs1 (rPut tk tv)) (fun F s => wpAny (model Y.prog Y.w) Y.A (eval i1 Y.env) (fun x s₄ => wpAny (model Y.prog Y.w) Y.A (pyIter x) (fun j s₅ =>
      codeAny (model Y.prog Y.w) Y.A (.compStart (dc2e kx vx t0 i0 t1 i1 f0 f1 scope pos) 1 j (.ref D) Y.env) (fun r s' => match r with
        | .ok _ => F s'
        | .error _ => False) s₅) (fun _ _ => False) s₄) (fun _ _ => False) s) := by
  refine ⟨fun pins σ H s Nx F hw I h fin => ?_⟩
  have k := hi.run pins s σ H _ I h
  rw [hx] at k
  refine thnF k fun xv s4 h4 => thnF h4 fun itv s5 h5 => ?_
  obtain ⟨it, fp, tn, J, H5, e, I5, T, st5, f5, W, ⟨m0, w0⟩, turn⟩ := h5
  subst e
  have loop : codeAny (model Y.prog Y.w) Y.A (.compLoop (dc2e kx vx t0 i0 t1 i1 f0 f1 scope pos) 1 (.ref it) (.ref D) Y.env) (fun r s' => match r with
      | .ok _ => F s'
      | .error _ => False) s5 := by
    refine loopD2_in (fun k s' => ∃ j H', L2.Inv Y pins (wipe σ vs1) H' s' ∧ tn j s'.heap ∧ (∀ b ∈ fp, H' b = none) ∧ W j k H') ?_ m0 ⟨0, H5, I5.weak (wipe_length _ _) (fun j v e => (wipe_some e).1), st5, fun b hb => (f5 b hb).1, w0⟩
    rintro k s6 ⟨j, H6, I6, st6, n6, w6⟩
    have stat : ∀ H', (∀ b ∈ fp, H' b = none) → ∀ b ∈ fp, FpOk Y pins H' b := fun H' hn b hb => ⟨hn b hb, (f5 b hb).2⟩
    rcases turn j k H6 w6 with ⟨stop, nx⟩ | ⟨go, Nx1, hNx, step⟩
    · refine thnF (T.done Y rfl rfl rfl hc j pins s6 (wipe σ vs1) H6 (fun _ _ => False) I6 (stat H6 n6) st6 stop) fun r s7 ⟨hr, I7⟩ => ?_
      subst hr
      -- behind the inner loop: the slots that the block knew
      exact fin (wipe σ vs1) H6 s7 I7 (kn_in hvs hw) nx
    · have tg := turn_go (F := fun s' => ∃ m, m < k ∧ ∃ j H', L2.Inv Y pins (wipe σ vs1) H' s' ∧ tn j s'.heap ∧ (∀ b ∈ fp, H' b = none) ∧ W j m H') hc hx T pg pt (body_put hu hk hv hx (D := D)) I6 st6 (stat H6 n6) stat go step fun H' s' I' st' n' nx => by
        obtain ⟨m', hm, w'⟩ := hNx H' nx
        exact ⟨m', hm, j + 1, H', I', st', n', w'⟩
      refine thnF tg fun r s7 h7 => ?_
      cases r with
      | none => exact h7.elim
      | some v => exact h7
  exact startD2 loop (T.self Y.A 0 _ _ _ st5 loop)
/-- a dict comprehension's block: rest the clauses behind the first one, Bd what the machine does in a turn -/
theorem dg_core {pins : List (Addr × Obj)} {s : Shared} {σ : L2.St} {H : Hp} {Q : VK} {kx vx tg iter : Expr} {ifs : List Expr} {rest : List Comprehension} {scope : Scope} {own : List (Str × Nat)} {pos pos' : Pos} {o : HO} {wi : TI} {g : TG} {tt : TT} {rb : RB} {Qf : Value → Shared → Prop}
    (ho : Emp o) (hc : X.calm = true) (hN : X.N.Nodup) (I : L2.Inv X pins σ H s) (hi : PI X tg iter wi) (ok : BlkOk X.N X.env.scope scope own)
    (hg : ∀ (s : Shared) (H : Hp) (C : Addr) (cl : List (Str × Addr)) (fp : List Addr), PG (X.blk s H scope (compEnvC scope cl C X.env) fp) tg g)
    (ht : ∀ (s : Shared) (H : Hp) (C : Addr) (cl : List (Str × Addr)) (fp : List Addr), PTs (X.blk s H scope (compEnvC scope cl C X.env) fp) ifs tt)
    (hs : ∀ x, foldedSetIterable iter X.env x = pure x) (Bd : Cx → Addr → (Shared → Prop) → Shared → Prop)
    (hb : ∀ (s : Shared) (H : Hp) (C : Addr) (cl : List (Str × Addr)) (fp : List Addr) (D : Addr), Body (X.blk s H scope (compEnvC scope cl C X.env) fp) D σ (own.map (·.2)) rb (Bd (X.blk s H scope (compEnvC scope cl C X.env) fp) D))
    (hl : ∀ (Y : Cx) (D : Addr) (it : Value) (R : Result → Shared → Prop) (I : Nat → Shared → Prop), Y.prog = X.prog → Y.w = X.w → Y.A = X.A → (∀ n s, I n s → wpAny (model X.prog X.w) X.A (pyNext it) (fun r s₁ => match r with
      | none => R (.ok .next) s₁
      | some v => wpAny (model X.prog X.w) X.A (letOwnedTupleGo tg it v) (fun _ s₁' => wpAny (model X.prog X.w) X.A (assign tg Y.env v) (fun _ s₂ =>
          wpAny (model X.prog X.w) X.A (forIn ifs true fun c r => if r = true then do let ok ← isTrue c Y.env (eval c Y.env); pure (ForInStep.yield ok) else pure (ForInStep.yield r)) (fun ok s₃ =>
            if ok = true then Bd Y D (fun s' => ∃ m, m < n ∧ I m s') s₃ else ∃ m, m < n ∧ I m s₃) (fun _ _ => False) s₂) (fun _ _ => False) s₁') (fun _ _ => False) s₁) (fun _ _ => False) s) →
      ∀ n s, I n s → codeAny (model X.prog X.w) X.A (.compLoop (.DictComp kx vx (⟨tg, iter, ifs, 0⟩ :: rest) scope pos) 0 it (.ref D) Y.env) R s)
    (h : tDg o wi g tt rb (own.map (·.2)) σ H Q)
    (hRR : ∀ D C s' m H', L2.Inv X pins σ H' s' → Q (.ref D) H' → s'.heap.Ns C m → FpOk X pins H' C → compPost (model X.prog X.w) X.A X.xe none Qf (.ref D) C (.ok .next) s') :
    wpAny (model X.prog X.w) X.A (comprehension (.DictComp kx vx (⟨tg, iter, ifs, 0⟩ :: rest) scope pos) scope X.env pos' newDict false (eval iter X.env) none) Qf X.xe s := by
  have hfree : ∀ y ∈ scope.names, y.2 = .free → ∃ c, X.env.cells.lookup y.1 = some c := fun y hy e => (ok.free y hy e).elim (fun k => I.ok.has _ (.inl k)) fun k => I.ok.has _ (.inr k)
  refine wpAny_comprehension_free (use := none) rfl hs (closure_ok hfree) ok.kind (fun y hy e => by rw [ok.uniq y hy, e]) (thn (hi.run pins s σ H _ I h) fun xv s1 h1 => thn h1 fun itv s2 h2 => ?_)
  obtain ⟨it, fp, tn, J, H2, e, I2, T, st2, f2, q⟩ := h2
  subst e
  refine wpAny_newObj_type (newEnv_comp ?_)
  generalize hD : s2.heap.objs.size = D
  have hDn : H2 D = none := I2.hok.fresh (Nat.le_of_eq hD)
  obtain ⟨W, ⟨m0, w0⟩, turn⟩ := q D hDn
  -- the new dict is laid
  generalize hs3 : ({ s2 with heap := s2.heap.push { cls := .type "dict", data := .dict #[] } } : Shared) = s3
  have h3 : s3.heap = s2.heap.push { cls := .type "dict", data := .dict #[] } := by rw [← hs3]
  have I3 : L2.Inv X pins σ (upd H2 D o) s3 := by
    rw [← hs3]
    refine I2.laid (t' := s2.toks) (fun b o e => Heap.get?_push_of_some _ e) (Nat.le_of_eq hD) ?_
    rw [← hD]
    exact ho.laid s2.heap I2.big
  have f3 : ∀ b ∈ fp, FpOk X pins (upd H2 D o) b ∧ b < s3.heap.objs.size := fun b hb => by
    have hlt : b < s2.heap.objs.size := by
      obtain ⟨ob, eb, _⟩ := T.obj _ _ st2 b hb
      exact Heap.lt_size eb
    refine ⟨⟨?_, (f2 b hb).2⟩, by rw [h3, Heap.size_push]; exact Nat.lt_succ_of_lt hlt⟩
    rw [upd_ne (by rw [← hD]; exact Nat.ne_of_lt hlt)]
    exact (f2 b hb).1
  have st3 : tn 0 s3.heap := T.keep _ _ _ st2 fun b _ ob e => by
    rw [h3]
    exact Heap.get?_push_of_some _ e
  have I4 := block_start I3 ok hN f3
  have pg := hg s3 (upd H2 D o) s3.heap.objs.size (cellsFrom (s3.heap.objs.size + 1) scope.names (cloFrom X.env.cells scope.names [])) fp
  have pt := ht s3 (upd H2 D o) s3.heap.objs.size (cellsFrom (s3.heap.objs.size + 1) scope.names (cloFrom X.env.cells scope.names [])) fp
  have bd := hb s3 (upd H2 D o) s3.heap.objs.size (cellsFrom (s3.heap.objs.size + 1) scope.names (cloFrom X.env.cells scope.names [])) fp D
  show codeAny _ _ (.compStart (.DictComp kx vx (⟨tg, iter, ifs, 0⟩ :: rest) scope pos) 0 (.ref it) (.ref D) (compEnvC scope (cellsFrom (s3.heap.objs.size + 1) scope.names (cloFrom X.env.cells scope.names [])) s3.heap.objs.size X.env))
    (compPost (model X.prog X.w) X.A X.xe none Qf (.ref D) s3.heap.objs.size) { s3 with heap := pushCells (s3.heap.push { cls := .type "dict", data := .dict #[] }) scope.names }
  have nfp : ∀ b ∈ fp, (upd H2 D o) b = none := fun b hb => (f3 b hb).1.1
  generalize hce : compEnvC scope (cellsFrom (s3.heap.objs.size + 1) scope.names (cloFrom X.env.cells scope.names [])) s3.heap.objs.size X.env = ce at I4 pg pt bd ⊢
  have cL : ce.locals = s3.heap.objs.size := by
    subst hce
    rfl
  generalize hH3 : upd H2 D o = H3 at I3 I4 pg pt bd w0 nfp f3
  generalize hs4 : ({ s3 with heap := pushCells (s3.heap.push { cls := .type "dict", data := .dict #[] }) scope.names } : Shared) = s4 at I4 ⊢
  have st4 : tn 0 s4.heap := T.keep _ _ _ st3 fun b _ ob e => by
    rw [← hs4]
    exact pushCells_keeps _ _ _ _ (Heap.get?_push_of_some _ e)
  have stat : ∀ {σ' : L2.St} {H' : Hp} {s' : Shared}, L2.Inv (X.blk s3 H3 scope ce fp) [] σ' H' s' → ∀ H'', (∀ b ∈ fp, H'' b = none) → ∀ b ∈ fp, FpOk (X.blk s3 H3 scope ce fp) [] H'' b := fun {σ' H' s'} I' H'' hn b hb =>
    ⟨hn b hb, (I'.ok.exf b hb).1, I'.ok.exfs b hb, .inl hb, fun x c e => (I'.ok.exf b hb).2 x c e, fun p hp => absurd (show p ∈ ([] : List (Addr × Obj)) ++ [] from hp) (by simp)⟩
  have loop : codeAny (model X.prog X.w) X.A (.compLoop (.DictComp kx vx (⟨tg, iter, ifs, 0⟩ :: rest) scope pos) 0 (.ref it) (.ref D) ce) (compPost (model X.prog X.w) X.A X.xe none Qf (.ref D) s3.heap.objs.size) s4 := by
    refine hl (X.blk s3 H3 scope ce fp) D (.ref it) _ (fun n s' => ∃ i H', L2.Inv (X.blk s3 H3 scope ce fp) [] (wipe σ (own.map (·.2))) H' s' ∧ tn i s'.heap ∧ (∀ b ∈ fp, H' b = none) ∧ W i n H') rfl rfl rfl ?_ m0 s4 ⟨0, H3, I4, st4, nfp, w0⟩
    rintro n s5 ⟨i, H5, I5, st5, n5, w5⟩
    rcases turn i n H5 w5 with ⟨stop, qq⟩ | ⟨go, Nx, hNx, step⟩
    · refine thnF (T.done (X.blk s3 H3 scope ce fp) rfl rfl rfl hc i [] s5 _ H5 (fun _ _ => False) I5 (stat I5 H5 n5) st5 stop) fun r s6 ⟨hr, I6⟩ => ?_
      subst hr
      have I7 : L2.Inv X pins σ H5 s6 := I3.call' (ch := fp) I6.os I6.base I6.hok I6.bare fun b hb => by
        have z := (f3 b hb).1.2
        exact ⟨z.2.2.1, z.1, z.2.2.2.1, z.2.2.2.2⟩
      have nC : H5 s3.heap.objs.size = none := by
        have z : H5 ce.locals = none := I6.free
        rw [cL] at z
        exact z
      obtain ⟨m, hn, _⟩ := I6.loc
      have hn : s6.heap.Ns ce.locals m := hn
      rw [cL] at hn
      exact hRR D s3.heap.objs.size s6 m H5 I7 qq hn (I3.fpOk (Nat.le_refl _) nC)
    · refine thnF (turn_go (Y := X.blk s3 H3 scope ce fp) (F := fun s' => ∃ m, m < n ∧ ∃ i H', L2.Inv (X.blk s3 H3 scope ce fp) [] (wipe σ (own.map (·.2))) H' s' ∧ tn i s'.heap ∧ (∀ b ∈ fp, H' b = none) ∧ W i m H')
        hc rfl T pg pt bd I5 st5 (stat I5 H5 n5) (stat I5) go step fun H' s' I' st' n' nx => ?_) fun r s6 h6 => ?_
      · obtain ⟨m', hm, w'⟩ := hNx H' nx
        exact ⟨m', hm, i + 1, H', I', st', n', w'⟩
      · cases r with
        | none => exact h6.elim
        | some v => exact h6
  exact codeAny_compStart_dict loop (T.self X.A 0 _ _ _ st4 loop)
theorem loopD1 {prog : Program} {w : World} {A : Around} {R : Result → Shared → Prop} {s : Shared} {kx vx t0 i0 : Expr} {f0 : List Expr} {scope : Scope} {pos : Pos} {it : Value} {D : Addr} {env : Env} (I : Nat → Shared → Prop)
    (turn : ∀ n s, I n s → wpAny (model prog w) A (pyNext it) (fun r s₁ => match r with
      | none => R (.ok .next) s₁
      | some v => wpAny (model prog w) A (letOwnedTupleGo t0 it v) (fun _ s₁' => wpAny (model prog w) A (assign t0 env v) (fun _ s₂ =>
          wpAny (model prog w) A (forIn f0 true fun c r => if r = true then do let ok ← isTrue c env (eval c env); pure (ForInStep.yield ok) else pure (ForInStep.yield r)) (fun ok s₃ =>
            if ok = true then wpAny (model prog w) A (eval kx env) (fun y s₄ => wpAny (model prog w) A (eval vx env) (fun z s₅ =>
              wpAny (model prog w) A (dictSet D y z) (fun _ s₆ => ∃ m, m < n ∧ I m s₆) (fun _ _ => False) s₅) (fun _ _ => False) s₄) (fun _ _ => False) s₃
            else ∃ m, m < n ∧ I m s₃) (fun _ _ => False) s₂) (fun _ _ => False) s₁') (fun _ _ => False) s₁) (fun _ _ => False) s)
    (n : Nat) (h : I n s) : codeAny (model prog w) A (.compLoop (.DictComp kx vx [⟨t0, i0, f0, 0⟩] scope pos) 0 it (.ref D) env) R s := by
  refine codeAny_loop rfl I (fun n s hI => ?_) n h
  show wpAny _ A ((compTurn (.DictComp kx vx [⟨t0, i0, f0, 0⟩] scope pos) 0 it (.ref D) env).onRaise fun x => do
    noteFrame x env
    theTreesLotGoes x) _ _ s
  refine wpAny_noted ?_
  rw [compTurn_dict]
  refine wpAny_bind (wpAny_standAt (wpAny_bind (thnF (turn n s hI) fun r s₁ h₁ => ?_)))
  cases r with
  | none => exact wpAny_pure h₁
  | some v =>
    refine wpAny_bind (thnF h₁ fun _ s₁' h₁' => wpAny_bind (thnF h₁' fun _ s₂ h₂ => wpAny_bind (thnF h₂ fun ok s₃ h₃ => ?_)))
    cases ok with
    | false => exact wpAny_pure ⟨rfl, h₃⟩
    | true =>
      exact wpAny_bind (wpAny_bind (thnF h₃ fun y s₄ h₄ => wpAny_bind (wpAny_holding (thnF h₄ fun z s₅ h₅ =>
        wpAny_bind (wpAny_standAt (wpAny_holding (thnF h₅ fun _ s₆ h₆ => wpAny_pure ⟨rfl, h₆⟩)))))))
/-- {k: v for target in iter if ..} -/
theorem pe_dg {kx vx tg iter : Expr} {ifs : List Expr} {scope : Scope} {own : List (Str × Nat)} {pos : Pos} {o : HO} {wi : TI} {g : TG} {tt : TT} {tk tv : TE} (ho : Emp o) (hu : X.A.units + 1 < cLine) (hc : X.calm = true) (hN : X.N.Nodup) (hi : PI X tg iter wi) (ok : BlkOk X.N X.env.scope scope own)
    (hg : ∀ (s : Shared) (H : Hp) (C : Addr) (cl : List (Str × Addr)) (fp : List Addr), PG (X.blk s H scope (compEnvC scope cl C X.env) fp) tg g)
    (ht : ∀ (s : Shared) (H : Hp) (C : Addr) (cl : List (Str × Addr)) (fp : List Addr), PTs (X.blk s H scope (compEnvC scope cl C X.env) fp) ifs tt)
    (hk : ∀ (s : Shared) (H : Hp) (C : Addr) (cl : List (Str × Addr)) (fp : List Addr), PE (X.blk s H scope (compEnvC scope cl C X.env) fp) kx tk)
    (he : ∀ (s : Shared) (H : Hp) (C : Addr) (cl : List (Str × Addr)) (fp : List Addr), PE (X.blk s H scope (compEnvC scope cl C X.env) fp) vx tv)
    (hs : ∀ x, foldedSetIterable iter X.env x = pure x := by intro _; rfl) : PE X (.DictComp kx vx [⟨tg, iter, ifs, 0⟩] scope pos) (tDg o wi g tt (rPut tk tv) (own.map (·.2))) := by
  refine ⟨fun pins s σ H Q I h => ?_⟩
  rw [arm_eval_DictComp]
  refine dg_core (rest := []) ho hc hN I hi ok hg ht hs (fun Y D F s => wpAny (model Y.prog Y.w) Y.A (eval kx Y.env) (fun y s₄ => wpAny (model Y.prog Y.w) Y.A (eval vx Y.env) (fun z s₅ => wpAny (model Y.prog Y.w) Y.A (dictSet D y z) (fun _ s₆ => F s₆) (fun _ _ => False) s₅) (fun _ _ => False) s₄) (fun _ _ => False) s)
    (fun s H C cl fp D => body_put hu (hk s H C cl fp) (he s H C cl fp) rfl) (fun Y D it R I e1 e2 e3 turn n s hI => ?_) h fun D C s' m H' I' q hn f => ⟨m, hn, fun h'' sb => ?_⟩
  · refine loopD1 I (fun n s hI => ?_) n hI
    have z := turn n s hI
    simp only [e1, e2, e3] at z
    exact z
  · obtain ⟨f0, f1, f2, f3, f4, f5⟩ := f
    exact ⟨.ref D, H', I'.turned (t' := s'.toks) (fun b o hb e => (sb.2 b hb).trans e) f0 f1 f3 f4 f5, rfl, q⟩
/-- {k: v for target in iter if .. for target1 in iter1 if ..} -/
theorem pe_dg2 {kx vx tg iter tg1 iter1 : Expr} {ifs ifs1 : List Expr} {scope : Scope} {own : List (Str × Nat)} {vs1 : List Nat} {pos : Pos} {o : HO} {wi wi1 : TI} {g g1 : TG} {tt tt1 : TT} {tk tv : TE} (ho : Emp o) (hu : X.A.units + 1 < cLine) (hc : X.calm = true) (hN : X.N.Nodup) (hi : PI X tg iter wi)
    (ok : BlkOk X.N X.env.scope scope own) (hvs : ∀ i ∈ vs1, i ∈ own.map (·.2))
    (hg : ∀ (s : Shared) (H : Hp) (C : Addr) (cl : List (Str × Addr)) (fp : List Addr), PG (X.blk s H scope (compEnvC scope cl C X.env) fp) tg g)
    (ht : ∀ (s : Shared) (H : Hp) (C : Addr) (cl : List (Str × Addr)) (fp : List Addr), PTs (X.blk s H scope (compEnvC scope cl C X.env) fp) ifs tt)
    (hi1 : ∀ (s : Shared) (H : Hp) (C : Addr) (cl : List (Str × Addr)) (fp : List Addr), PI (X.blk s H scope (compEnvC scope cl C X.env) fp) tg1 iter1 wi1)
    (hg1 : ∀ (s : Shared) (H : Hp) (C : Addr) (cl : List (Str × Addr)) (fp : List Addr), PG (X.blk s H scope (compEnvC scope cl C X.env) fp) tg1 g1)
    (ht1 : ∀ (s : Shared) (H : Hp) (C : Addr) (cl : List (Str × Addr)) (fp : List Addr), PTs (X.blk s H scope (compEnvC scope cl C X.env) fp) ifs1 tt1)
    (hk : ∀ (s : Shared) (H : Hp) (C : Addr) (cl : List (Str × Addr)) (fp : List Addr), PE (X.blk s H scope (compEnvC scope cl C X.env) fp) kx tk)
    (he : ∀ (s : Shared) (H : Hp) (C : Addr) (cl : List (Str × Addr)) (fp : List Addr), PE (X.blk s H scope (compEnvC scope cl C X.env) fp) vx tv)
    (hs : ∀ x, foldedSetIterable iter X.env x = pure x := by intro _; rfl) (hs1 : ∀ env x, foldedSetIterable iter1 env x = pure x := by intro _ _; rfl) :
    PE X (.DictComp kx vx [⟨tg, iter, ifs, 0⟩, ⟨tg1, iter1, ifs1, 0⟩] scope pos) (tDg o wi g tt (rFor wi1 g1 tt1 vs1 (rPut tk tv)) (own.map (·.2))) := by
  refine ⟨fun pins s σ H Q I h => ?_⟩
  rw [arm_eval_DictComp]
  refine dg_core (rest := [⟨tg1, iter1, ifs1, 0⟩]) ho hc hN I hi ok hg ht hs (fun Y D F s => wpAny (model Y.prog Y.w) Y.A (eval iter1 Y.env) (fun x s₄ => wpAny (model Y.prog Y.w) Y.A (pyIter x) (fun j s₅ =>
      codeAny (model Y.prog Y.w) Y.A (.compStart (dc2e kx vx tg iter tg1 iter1 ifs ifs1 scope pos) 1 j (.ref D) Y.env) (fun r s' => match r with
        | .ok _ => F s'
        | .error _ => False) s₅) (fun _ _ => False) s₄) (fun _ _ => False) s)
    (fun s H C cl fp D => body_for hvs hc hu rfl (hi1 s H C cl fp) (hg1 s H C cl fp) (ht1 s H C cl fp) (hk s H C cl fp) (he s H C cl fp)) (fun Y D it R I e1 e2 e3 turn n s hI => ?_) h fun D C s' m H' I' q hn f => ⟨m, hn, fun h'' sb => ?_⟩
  · refine loopD2_out (hs1 Y.env) I (fun n s hI => ?_) n hI
    have z := turn n s hI
    simp only [e1, e2, e3] at z
    exact z
  · obtain ⟨f0, f1, f2, f3, f4, f5⟩ := f
    exact ⟨.ref D, H', I'.turned (t' := s'.toks) (fun b o hb e => (sb.2 b hb).trans e) f0 f1 f3 f4 f5, rfl, q⟩
end
end LD
set_option maxRecDepth 100000
set_option maxHeartbeats 4000000
/-! LdNewT: a dict display with one key, a tuple. -/
namespace LD
open PySem PySem.Spec PyProof.Rows L2
def tDisp1T (tk tv : TE) : TE := fun σ H Q => ∀ p, H p = none → tk σ (upd H p (.dT [])) fun y H1 => tv σ H1 fun z H2 => ∃ (b : Addr) (ks : List L2.Key), y = .ref b ∧ H2 b = some (.tup (ks.map kV)) ∧ H2 p = some (.dT []) ∧ Q (.ref p) (upd H2 p (.dT [(ks, z)]))
theorem pe_disp1T {X : Cx} {pos : Pos} {k v : Expr} {tk tv : TE} (hu : X.A.units + 1 < cLine) (hk : PE X k tk) (hv : PE X v tv) : PE X (.Dict [some k] [v] pos) (tDisp1T tk tv) := by
  refine ⟨fun pins s σ H Q I q => ?_⟩
  have hn := I.hok.fresh (Nat.le_refl s.heap.objs.size)
  have I1 := I.laid (a := s.heap.objs.size) (o := .dT []) (h' := s.heap.push { cls := .type "dict", data := .dict #[] }) (t' := s.toks) (fun _ _ q => Heap.get?_push_of_some _ q) (Nat.le_refl _) (dt_empty s.heap I.big)
  have hp : (pairTrees [some k] [v] X.env pos).length = 1 := pairTrees_length [some k] [v] X.env pos rfl rfl
  rw [arm_eval_Dict, zip_pairTrees [some k] [v] X.env pos rfl rfl, dictDisplay_pairs (pairTrees [some k] [v] X.env pos) (fun e => by rw [e] at hp; cases hp) (by omega)]
  refine wpAny_bind (wpAny_standAt (wpAny_bind (wpAny_subDictH (knd := tupleKind (mixKind X.prog X.w)) (show X.A.units < cLine by omega) (by omega) ?_)))
  refine pairTrees_cons_walk ?_
  refine thn (hk.run pins _ σ _ _ I1 (q _ hn)) fun kv s1 ⟨y, H1, I2, r1, q1⟩ => thn (hv.run pins s1 σ H1 _ I2 q1) fun vv s2 ⟨z, H2, I3, r2, b, ks, ey, hb, hd, q2⟩ => ?_
  refine pairTrees_nil_walk ?_
  subst ey
  cases (show kv = Value.ref b from r1)
  obtain ⟨z1, hd1, xs, rel, dd⟩ := dt_of I3.hok hd
  cases rel
  refine ⟨[(ks, b, vv)], ⟨rfl, rfl, key_of I3.hok hb, trivial⟩, dd, fun h' tk dd' sb => ?_⟩
  obtain ⟨o, es, ep, g1, g2, g3, g4, _, g5⟩ := dd'
  refine wpAny_pure ⟨.ref s.heap.objs.size, _, d_write (t' := tk) (ob := .dT [(ks, z)]) I3 (by rw [hd]; exact trivial) sb ⟨o, g1⟩ ⟨by show 1 ≤ sizeLine; decide, hd1, [(ks, b, vv)], ?_, o, es, ep, g1, g2, g3, g4, g5⟩, rfl, q2⟩
  refine Paired.cons ⟨rfl, ?_, r2⟩ .nil
  show upd H2 _ _ b = _
  rw [upd_ne (ne_of hb hd (fun z => nomatch z))]
  exact hb
end LD
set_option maxRecDepth 100000
set_option maxHeartbeats 4000000
/-! LdNewN: a dict whose keys are tuples of tuples of ints, over the layer's «any other thing». -/
namespace LD
open PySem PySem.Spec PyProof.Rows L2
/-- such a key -/
abbrev FK := List (List Int)
def nk (f : FK) : NestedKey := .tup (f.map fun ns => .tup (ns.map .num))
theorem num_inj : ∀ {a b : List Int}, a.map NestedKey.num = b.map NestedKey.num → a = b
  | [], [], _ => rfl
  | x :: a, y :: b, h => by
    obtain ⟨h1, h2⟩ := List.cons.inj h
    rw [NestedKey.num.inj h1, num_inj h2]
  | [], _ :: _, h => by simp at h
  | _ :: _, [], h => by simp at h
theorem tups_inj : ∀ {a b : FK}, (a.map fun ns => NestedKey.tup (ns.map .num)) = (b.map fun ns => NestedKey.tup (ns.map .num)) → a = b
  | [], [], _ => rfl
  | x :: a, y :: b, h => by
    obtain ⟨h1, h2⟩ := List.cons.inj h
    rw [num_inj (NestedKey.tup.inj h1), tups_inj h2]
  | [], _ :: _, h => by simp at h
  | _ :: _, [], h => by simp at h
theorem nk_inj {a b : FK} (h : nk a = nk b) : a = b := tups_inj (NestedKey.tup.inj h)
def KeyAt (H : Hp) (b : Addr) (f : FK) : Prop := (yT (f.map yIs)).p (.ref b) H
theorem tup_at {P : Program} {w : World} {H : Hp} {h : Heap} {a : Addr} {vs : List V} (ok : HOk P w H h) (e : H a = some (.tup vs)) : ∃ (its : List Value) (o : Obj) (n : Nat), Vals vs its ∧ h.get? a = some o ∧ o.cls = .type "tuple" ∧ o.data = .seq its.toArray n := by
  obtain ⟨_, its, rv, o, ho, hc, n, hd⟩ := (show ObjOk P w H h a (.tup vs) from ok a _ e)
  exact ⟨its, o, n, rv, ho, hc, hd⟩
theorem nums_all {h : Heap} : ∀ {ns : List Int} {its : List Value}, Vals (ns.map V.int) its → NestedAll h (ns.map .num) its
  | [], _, .nil => .nil
  | _ :: ns, _, .cons r t => by
    obtain ⟨tk, rfl⟩ := r
    exact .cons (.int _ tk) (nums_all t)
theorem tups_all {P : Program} {w : World} {H : Hp} {h : Heap} (ok : HOk P w H h) : ∀ {f : FK} {vs : List V} {its : List Value}, All (f.map yIs) vs H → Vals vs its → NestedAll h (f.map fun ns => .tup (ns.map .num)) its
  | [], [], _, _, .nil => .nil
  | ns :: f, v :: vs, _, k, .cons r t => by
    obtain ⟨c, rfl, hc⟩ := yIs_iff.mp k.1
    cases r
    obtain ⟨its, o, n, rv, ho, hcl, hd⟩ := tup_at ok hc
    exact .cons (.tup ho hcl hd (nums_all rv)) (tups_all ok k.2 t)
  | [], _ :: _, _, k, _ => k.elim
  | _ :: _, [], _, k, _ => k.elim
theorem depth_nums : ∀ ns : List Int, NestedKey.depthAll (ns.map .num) = 0
  | [] => rfl
  | _ :: ns => by
    rw [List.map_cons, NestedKey.depthAll, depth_nums ns]
    rfl
theorem depth_tups : ∀ f : FK, NestedKey.depthAll (f.map fun ns => NestedKey.tup (ns.map .num)) ≤ 1
  | [] => Nat.zero_le _
  | ns :: f => by
    rw [List.map_cons, NestedKey.depthAll, NestedKey.depth, depth_nums]
    have := depth_tups f
    omega
theorem key_is {P : Program} {w : World} {H : Hp} {h : Heap} {b : Addr} {f : FK} (ok : HOk P w H h) (k : KeyAt H b f) : (nestedKind P w).is h (nk f) b := by
  obtain ⟨c, vs, e, hc, ka⟩ := k
  cases e
  obtain ⟨its, o, n, rv, ho, hcl, hd⟩ := tup_at ok hc
  refine ⟨.tup ho hcl hd (tups_all ok ka rv), ?_⟩
  show NestedKey.depth (nk f) ≤ 8
  unfold nk
  rw [NestedKey.depth]
  have := depth_tups f
  omega
section
variable (P : Program) (w : World)
/-- the dict's own object, by its entries -/
def eobj (a : Addr) (xs : List (NestedKey × Addr × Value)) (h : Heap) : Prop := xs.length ≤ sizeLine ∧ (a == sysModules) = false ∧ (xs.map (·.1)).Nodup ∧
  ∃ o es ep, h.get? a = some o ∧ o.ExactDict ∧ o.data = .dict es ep ∧ es.toList = xs.map (entryOfKey (nestedKind P w))
abbrev EKT (H : Hp) : List (FK × V) → List (NestedKey × Addr × Value) → Prop := Paired fun p x => nk p.1 = x.1 ∧ KeyAt H x.2.1 p.1 ∧ L2.RelV p.2 x.2.2
/-- such a dict stands at a -/
def EAt (H : Hp) (a : Addr) (m : List (FK × V)) : Prop := ∃ xs, H a = some (.ext (eobj P w a xs)) ∧ EKT H m xs
end
section
variable {P : Program} {w : World}
theorem eobj_stay {a : Addr} {xs : List (NestedKey × Addr × Value)} (h1 h2 : Heap) (e : eobj P w a xs h1) (k : ∀ o, h1.get? a = some o → h2.get? a = some o) : eobj P w a xs h2 := by
  obtain ⟨z, hs, hn, o, es, ep, ho, r⟩ := e
  exact ⟨z, hs, hn, o, es, ep, k o ho, r⟩
theorem eobj_ok {H : Hp} {h : Heap} {a : Addr} {xs : List (NestedKey × Addr × Value)} (e : eobj P w a xs h) : ObjOk P w H h a (.ext (eobj P w a xs)) := by
  obtain ⟨z, hs, hn, o, es, ep, ho, r⟩ := id e
  exact ⟨e, ⟨o, ho⟩, fun h1 h2 e1 k => eobj_stay h1 h2 e1 k⟩
theorem EKT.val {H : Hp} {m : List (FK × V)} {xs : List (NestedKey × Addr × Value)} (r : EKT H m xs) (f : FK) : RelO (valV m f) ((atKey xs (nk f)).map (·.2)) := by
  induction r with
  | nil => exact trivial
  | @cons p q ps qs h t ih =>
    obtain ⟨h1, _, h2⟩ := h
    by_cases e : p.1 = f
    · have b : atKey (q :: qs) (nk f) = some q.2 := by simp [atKey, List.find?_cons, ← h1, e]
      rw [valV_pos e, b]
      exact h2
    · have e' : ¬ q.1 = nk f := fun z => e (nk_inj (h1.trans z))
      have b : atKey (q :: qs) (nk f) = atKey qs (nk f) := by simp [atKey, List.find?_cons, e']
      rw [valV_neg e, b]
      exact ih
theorem EKT.repl {H : Hp} {m : List (FK × V)} {xs : List (NestedKey × Addr × Value)} (r : EKT H m xs) (f : FK) {y : V} {u : Value} (ry : L2.RelV y u) : EKT H (m.map fun kv => if kv.1 = f then (kv.1, y) else kv) (xs.map (putAt (nk f) u)) := by
  induction r with
  | nil => exact .nil
  | @cons p q ps qs h t ih =>
    rw [List.map_cons, List.map_cons]
    refine .cons ?_ ih
    obtain ⟨h1, h2, h3⟩ := h
    unfold putAt
    by_cases e : p.1 = f
    · rw [if_pos e, if_pos (by rw [← h1, e])]
      exact ⟨h1, h2, ry⟩
    · rw [if_neg e, if_neg (fun z => e (nk_inj (h1.trans z)))]
      exact ⟨h1, h2, h3⟩
theorem EKT.put {H : Hp} {m : List (FK × V)} {xs : List (NestedKey × Addr × Value)} (r : EKT H m xs) (f : FK) {b : Addr} {y : V} {u : Value} (hb : KeyAt H b f) (ry : L2.RelV y u) : EKT H (putK m f y) (storedH xs (nk f) b u) := by
  have e : (m.any fun kv => decide (kv.1 = f)) = (atKey xs (nk f)).isSome := by rw [valV_any, (r.val f).isSome_eq, Option.isSome_map]
  unfold putK storedH
  rw [e]
  by_cases q : (atKey xs (nk f)).isSome = true
  · rw [if_pos q, if_pos q]
    exact r.repl f ry
  · rw [if_neg q, if_neg q]
    exact Paired.snoc r ⟨rfl, hb, ry⟩
theorem EKT.dict {H : Hp} {h : Heap} {a : Addr} {m : List (FK × V)} {xs : List (NestedKey × Addr × Value)} (ok : HOk P w H h) (r : EKT H m xs) (e : eobj P w a xs h) : h.DictOfH (nestedKind P w) a xs := by
  obtain ⟨z, hs, hn, o, es, ep, h1, h2, h3, h4⟩ := e
  refine ⟨o, es, ep, h1, h2, h3, h4, ?_, hn⟩
  clear h4 hn z
  induction r with
  | nil => intro x hx; cases hx
  | @cons p q ps qs hq t ih =>
    intro x hx
    rcases List.mem_cons.mp hx with e | hx
    · subst e
      rw [← hq.1]
      exact key_is ok hq.2.1
    · exact ih x hx
theorem KeyAt.m {H H' : Hp} {b : Addr} {f : FK} (s : Same H H') (k : KeyAt H b f) : KeyAt H' b f := (yT (f.map yIs)).m s k
/-- a dict that is not changed stands on -/
theorem EAt.m {H H' : Hp} {a : Addr} {m : List (FK × V)} (s : Same H H') (e : EAt P w H a m) : EAt P w H' a m := by
  obtain ⟨xs, h, r⟩ := e
  exact ⟨xs, s _ _ h, Paired.mapP r fun _ _ z => ⟨z.1, z.2.1.m s, z.2.2⟩⟩
end
section
variable {X : Cx} {o i e value : Expr} {pos pos' : Pos} {td ty tv : TE}
def tDNewE (P : Program) (w : World) : TE := fun _ H Q => ∀ p, H p = none → Q (.ref p) (upd H p (.ext (eobj P w p [])))
theorem pe_dnewE : PE X (.Dict [] [] pos) (tDNewE X.prog X.w) := ⟨fun pins s σ H Q I h => by
  refine wpAny_Dict_empty ⟨.ref s.heap.objs.size, _, I.laid (a := s.heap.objs.size) (o := .ext (eobj X.prog X.w s.heap.objs.size [])) (t' := s.toks) (fun _ _ q => Heap.get?_push_of_some _ q) (Nat.le_refl _) (eobj_ok ?_), rfl, h _ (I.hok.fresh (Nat.le_refl _))⟩
  exact ⟨Nat.zero_le _, beq_eq_false_iff_ne.mpr (Ne.symm (Nat.ne_of_lt I.big)), List.nodup_nil, _, _, _, Heap.get?_push_size _ rfl, ⟨rfl, rfl, rfl⟩, rfl, rfl⟩⟩
/-- d[k] = v -/
def sEPut (P : Program) (w : World) (td ty tv : TE) : TS := fun D σ H => tv σ H fun v H1 => td σ H1 fun x H2 => ty σ H2 fun y H3 => ∃ a m f b, x = .ref a ∧ EAt P w H3 a m ∧ y = .ref b ∧ KeyAt H3 b f ∧ m.length < sizeLine ∧
  ∀ xs, EKT H3 (putK m f v) xs → D.nx σ (upd H3 a (.ext (eobj P w a xs)))
def tEGet (P : Program) (w : World) (td ty : TE) : TE := fun σ H Q => td σ H fun x H1 => ty σ H1 fun y H2 => ∃ a m f b v, x = .ref a ∧ EAt P w H2 a m ∧ y = .ref b ∧ KeyAt H2 b f ∧ valV m f = some v ∧ Q v H2
def tEIn (P : Program) (w : World) (ty td : TE) : TE := fun σ H Q => ty σ H fun y H1 => td σ H1 fun x H2 => ∃ a m f b, x = .ref a ∧ EAt P w H2 a m ∧ y = .ref b ∧ KeyAt H2 b f ∧ Q (.bl (valV m f).isSome) H2
theorem eat_upd {P : Program} {w : World} {H : Hp} {a : Addr} {m m' : List (FK × V)} {xs : List (NestedKey × Addr × Value)} (e : EAt P w H a m) (r : EKT H m' xs) : EAt P w (upd H a (.ext (eobj P w a xs))) a m' := by
  obtain ⟨ys, h, _⟩ := e
  have st : ∀ b vs, H b = some (.tup vs) → upd H a (.ext (eobj P w a xs)) b = some (.tup vs) := fun b vs hb => by
    rw [upd_ne (ne_of hb h (fun z => nomatch z))]
    exact hb
  have stA : ∀ {f : FK} {vs : List V}, All (f.map yIs) vs H → All (f.map yIs) vs (upd H a (.ext (eobj P w a xs))) := by
    intro f
    induction f with
    | nil => intro vs k; cases vs with
      | nil => trivial
      | cons _ _ => exact k.elim
    | cons ns f ih => intro vs k; cases vs with
      | nil => exact k.elim
      | cons v vs =>
        obtain ⟨c, e, hc⟩ := yIs_iff.mp k.1
        exact ⟨yIs_iff.mpr ⟨c, e, st _ _ hc⟩, ih k.2⟩
  refine ⟨xs, upd_same, Paired.mapP r fun _ _ z => ⟨z.1, ?_, z.2.2⟩⟩
  obtain ⟨c, vs, e, hc, k⟩ := z.2.1
  exact ⟨c, vs, e, st _ _ hc, stA k⟩
theorem eroom {A : Around} (hu : A.units + 16 < cLine) : A.in1.units + 8 < cLine := by
  show A.units + 1 + 8 < cLine
  omega
theorem pe_eget (hu : X.A.units + 16 < cLine) (ho : PE X o td) (hi : PE X i ty) (hs : NoSl i) : PE X (.Subscript o i pos) (tEGet X.prog X.w td ty) := by
  refine ⟨fun pins s σ H Q I h => ?_⟩
  refine subD_of PySem.F.slot_dict_getitem.lookup hs (thn (ho.run pins s σ H _ I h) fun u s1 ⟨x, H1, I1, rx, q1⟩ => thn (hi.run pins s1 σ H1 _ I1 q1) fun iv s2 ⟨y, H2, I2, ry, a, m, f, b, v, ex, g, ey, hk, hv, q2⟩ => ?_)
  subst ex ey
  obtain rfl : u = Value.ref a := rx
  obtain rfl : iv = Value.ref b := ry
  obtain ⟨xs, ha, r⟩ := g
  have eo : eobj X.prog X.w a xs s2.heap := (show ObjOk X.prog X.w H2 s2.heap a (.ext _) from I2.hok a _ ha).1
  have dd := r.dict I2.hok eo
  have rv := r.val f
  rw [hv] at rv
  obtain ⟨p, hp, rp⟩ : ∃ p, atKey xs (nk f) = some p ∧ L2.RelV v p.2 := by
    cases hq : atKey xs (nk f) with
    | none => rw [hq] at rv; exact rv.elim
    | some p => rw [hq] at rv; exact ⟨p, rfl, rv⟩
  exact ⟨dd.typeIs, wpAny_getItem_heap (eroom hu) (key_is I2.hok hk) dd hp ⟨v, H2, I2.tok _, rp, q2⟩⟩
theorem pc_ein (hu : X.A.units + 16 < cLine) (hi : PE X i ty) (ho : PE X o td) : PC X .In i o (tEIn X.prog X.w ty td) := by
  refine ⟨fun pins s σ H Q I h => ?_⟩
  refine thn (hi.run pins s σ H _ I h) fun iv s1 ⟨y, H1, I1, ry, q1⟩ => thn (ho.run pins s1 σ H1 _ I1 q1) fun u s2 ⟨x, H2, I2, rx, a, m, f, b, ex, g, ey, hk, q2⟩ => ?_
  subst ex ey
  obtain rfl : u = Value.ref a := rx
  obtain rfl : iv = Value.ref b := ry
  obtain ⟨xs, ha, r⟩ := g
  have eo : eobj X.prog X.w a xs s2.heap := (show ObjOk X.prog X.w H2 s2.heap a (.ext _) from I2.hok a _ ha).1
  have dd := r.dict I2.hok eo
  refine wpAny_in_heap (eroom hu) (key_is I2.hok hk) eo.2.1 dd ?_
  have q := (r.val f).isSome_eq
  rw [Option.isSome_map] at q
  rw [← q]
  exact ⟨.bl _, H2, I2.tok _, rfl, q2⟩
theorem ps_eput (hu : X.A.units + 16 < cLine) (ho : PE X o td) (hi : PE X i ty) (hv : PE X value tv) (hs : swapsWith value (some (.Subscript o i pos')) pos.line X.env = pure false) : PS X (.Assign [.Subscript o i pos'] value pos) (sEPut X.prog X.w td ty tv) := by
  refine ⟨fun pins s σ H D I h => ?_⟩
  refine wpAny_Assign_Subscript (thn (hv.run pins s σ H _ I h) fun rr s1 ⟨v, H1, I1, rv, q1⟩ => thn (ho.run pins s1 σ H1 _ I1 q1) fun u s2 ⟨x, H2, I2, rx, q2⟩ =>
    thn (hi.run pins s2 σ H2 _ I2 q2) fun iv s3 ⟨y, H3, I3, ry, a, m, f, b, ex, g, ey, hk, hl, q3⟩ => ?_) hs
  subst ex ey
  obtain rfl : u = Value.ref a := rx
  obtain rfl : iv = Value.ref b := ry
  obtain ⟨xs, ha, r⟩ := g
  have eo : eobj X.prog X.w a xs s3.heap := (show ObjOk X.prog X.w H3 s3.heap a (.ext _) from I3.hok a _ ha).1
  have dd := r.dict I3.hok eo
  have hz : xs.length ≤ sizeLine := eo.1
  refine wpAny_setItem_heap (hsz := hz) (eroom hu) (key_is I3.hok hk) dd fun h' dd' sb => ⟨σ, _, ?_, q3 _ (r.put f hk rv)⟩
  obtain ⟨ob, es, ep, g1, g2, g3, g4, _, g5⟩ := dd'
  refine d_write I3 (by rw [ha]; exact trivial) sb ⟨ob, g1⟩ (eobj_ok ⟨?_, eo.2.1, g5, ob, es, ep, g1, g2, g3, g4⟩)
  rw [← Paired.length (r.put f hk rv)]
  have := length_putK m f v
  omega
end
end LD
set_option maxRecDepth 100000
set_option maxHeartbeats 4000000
/-! LdDict: dicts told by types. -/
namespace LD
open PySem PyProof.Rows L2
abbrev keyL (ns : List Int) : List L2.Key := ns.map Sum.inl
theorem keyL_inj : ∀ {a b : List Int}, keyL a = keyL b → a = b
  | [], [], _ => rfl
  | x :: a, y :: b, h => by
    obtain ⟨h1, h2⟩ := List.cons.inj h
    rw [Sum.inl.inj h1, keyL_inj h2]
  | [], _ :: _, h => by simp at h
  | _ :: _, [], h => by simp at h
theorem keyL_kV (ns : List Int) : (keyL ns).map kV = ns.map V.int := kv_ints ns
section
variable {κ α : Type} [DecidableEq κ]
/-- what an association holds at a key -/
def look : List (κ × α) → κ → Option α
  | [], _ => none
  | p :: m, k => if p.1 = k then some p.2 else look m k
def put : List (κ × α) → κ → α → List (κ × α)
  | [], k, v => [(k, v)]
  | p :: m, k, v => if p.1 = k then (p.1, v) :: m else p :: put m k v
def drop (m : List (κ × α)) (k : κ) : List (κ × α) := m.filter fun p => decide (p.1 ≠ k)
theorem look_put {m : List (κ × α)} {k j : κ} {v : α} : look (put m k v) j = if k = j then some v else look m j := by
  induction m with
  | nil => simp only [put, look]
  | cons p m ih =>
    by_cases h : p.1 = k
    · simp only [put, if_pos h, look]
      by_cases e : p.1 = j
      · rw [if_pos e, if_pos (h.symm.trans e)]
      · rw [if_neg e, if_neg (fun z => e (h.trans z)), if_neg e]
    · simp only [put, if_neg h, look, ih]
      by_cases e : p.1 = j
      · rw [if_pos e, if_neg (fun z => h (e.trans z.symm)), if_pos e]
      · rw [if_neg e, if_neg e]
theorem look_drop {m : List (κ × α)} {k j : κ} : look (drop m k) j = if k = j then none else look m j := by
  induction m with
  | nil => simp [drop, look]
  | cons p m ih =>
    unfold drop at ih ⊢
    by_cases h : p.1 = k
    · rw [List.filter_cons, if_neg (by simp [h]), ih]
      by_cases e : k = j
      · rw [if_pos e, if_pos e]
      · rw [if_neg e, if_neg e, look, if_neg (fun z => e (h.symm.trans z))]
    · rw [List.filter_cons, if_pos (by simp [h]), look, look, ih]
      by_cases e : p.1 = j
      · rw [if_pos e, if_pos e, if_neg (fun z => h (e.trans z.symm))]
      · rw [if_neg e, if_neg e]
theorem look_none {m : List (κ × α)} {k : κ} : look m k = none ↔ k ∉ m.map (·.1) := by
  induction m with
  | nil => simp [look]
  | cons p m ih =>
    by_cases h : p.1 = k
    · simp [look, h]
    · simp only [look, if_neg h, ih, List.map_cons, List.mem_cons, not_or]
      exact ⟨fun z => ⟨fun e => h e.symm, z⟩, fun z => z.2⟩
theorem look_mem {m : List (κ × α)} {k : κ} {v : α} (h : look m k = some v) : (k, v) ∈ m := by
  induction m with
  | nil => simp [look] at h
  | cons p m ih =>
    by_cases e : p.1 = k
    · rw [look, if_pos e] at h
      cases h
      rw [← e]
      exact List.mem_cons_self
    · rw [look, if_neg e] at h
      exact List.mem_cons_of_mem _ (ih h)
theorem look_of_mem {m : List (κ × α)} {k : κ} {v : α} (hn : (m.map (·.1)).Nodup) (h : (k, v) ∈ m) : look m k = some v := by
  induction m with
  | nil => simp at h
  | cons p m ih =>
    rw [List.map_cons, List.nodup_cons] at hn
    rcases List.mem_cons.mp h with e | e
    · rw [← e, look, if_pos rfl]
    · have : p.1 ≠ k := fun z => hn.1 (by rw [z]; exact List.mem_map_of_mem (f := (·.1)) e)
      rw [look, if_neg this]
      exact ih hn.2 e
theorem put_keys {m : List (κ × α)} {k : κ} {v : α} : (put m k v).map (·.1) = if k ∈ m.map (·.1) then m.map (·.1) else m.map (·.1) ++ [k] := by
  induction m with
  | nil => simp [put]
  | cons p m ih =>
    by_cases h : p.1 = k
    · simp [put, h]
    · have h' : ¬ k = p.1 := fun z => h z.symm
      simp only [put, if_neg h, List.map_cons, ih, List.mem_cons, h', false_or]
      split <;> rfl
theorem put_nodup {m : List (κ × α)} {k : κ} {v : α} (h : (m.map (·.1)).Nodup) : ((put m k v).map (·.1)).Nodup := by
  rw [put_keys]
  split
  · exact h
  · rename_i hk
    exact nd_snoc h hk
theorem put_len {m : List (κ × α)} {k : κ} {v : α} : (put m k v).length ≤ m.length + 1 := by
  induction m with
  | nil => simp [put]
  | cons p m ih =>
    by_cases h : p.1 = k
    · simp [put, h]
    · simp only [put, if_neg h, List.length_cons]
      omega
theorem drop_nodup {m : List (κ × α)} {k : κ} (h : (m.map (·.1)).Nodup) : ((drop m k).map (·.1)).Nodup := List.Nodup.sublist (List.Sublist.map _ List.filter_sublist) h
theorem drop_len {m : List (κ × α)} {k : κ} : (drop m k).length ≤ m.length := List.length_filter_le _ _
theorem mem_put {m : List (κ × α)} {k : κ} {v : α} {p : κ × α} (h : p ∈ put m k v) : p ∈ m ∨ p = (k, v) := by
  induction m with
  | nil =>
    simp [put] at h
    exact .inr h
  | cons q m ih =>
    by_cases e : q.1 = k
    · simp only [put, if_pos e, List.mem_cons] at h
      rcases h with h | h
      · right; rw [h, e]
      · left; exact List.mem_cons_of_mem _ h
    · simp only [put, if_neg e, List.mem_cons] at h
      rcases h with h | h
      · left; rw [h]; exact List.mem_cons_self
      · rcases ih h with h | h
        · left; exact List.mem_cons_of_mem _ h
        · exact .inr h
end
/-- the dict kvs holds, key by key, values of the types of m -/
def DAll : List (List Int × Ty) → List (List L2.Key × V) → Hp → Prop
  | [], [], _ => True
  | p :: m, q :: kvs, H => q.1 = keyL p.1 ∧ p.2.p q.2 H ∧ DAll m kvs H
  | _, _, _ => False
def DAllI : List (Int × Ty) → List (L2.Key × V) → Hp → Prop
  | [], [], _ => True
  | p :: m, q :: kvs, H => q.1 = Sum.inl p.1 ∧ p.2.p q.2 H ∧ DAllI m kvs H
  | _, _, _ => False
theorem DAll.m {H H' : Hp} (s : Same H H') : ∀ {m : List (List Int × Ty)} {kvs : List (List L2.Key × V)}, DAll m kvs H → DAll m kvs H'
  | [], [], _ => trivial
  | p :: m, q :: kvs, h => ⟨h.1, p.2.m s h.2.1, DAll.m s h.2.2⟩
  | [], _ :: _, h => h.elim
  | _ :: _, [], h => h.elim
theorem DAllI.m {H H' : Hp} (s : Same H H') : ∀ {m : List (Int × Ty)} {kvs : List (L2.Key × V)}, DAllI m kvs H → DAllI m kvs H'
  | [], [], _ => trivial
  | p :: m, q :: kvs, h => ⟨h.1, p.2.m s h.2.1, DAllI.m s h.2.2⟩
  | [], _ :: _, h => h.elim
  | _ :: _, [], h => h.elim
theorem DAll.len {H : Hp} : ∀ {m : List (List Int × Ty)} {kvs : List (List L2.Key × V)}, DAll m kvs H → kvs.length = m.length
  | [], [], _ => rfl
  | p :: m, q :: kvs, h => congrArg (· + 1) (DAll.len h.2.2)
  | [], _ :: _, h => h.elim
  | _ :: _, [], h => h.elim
theorem DAllI.len {H : Hp} : ∀ {m : List (Int × Ty)} {kvs : List (L2.Key × V)}, DAllI m kvs H → kvs.length = m.length
  | [], [], _ => rfl
  | p :: m, q :: kvs, h => congrArg (· + 1) (DAllI.len h.2.2)
  | [], _ :: _, h => h.elim
  | _ :: _, [], h => h.elim
theorem DAll.keys {H : Hp} : ∀ {m : List (List Int × Ty)} {kvs : List (List L2.Key × V)}, DAll m kvs H → kvs.map (·.1) = m.map fun p => keyL p.1
  | [], [], _ => rfl
  | p :: m, q :: kvs, h => by rw [List.map_cons, List.map_cons, DAll.keys h.2.2, h.1]
  | [], _ :: _, h => h.elim
  | _ :: _, [], h => h.elim
theorem DAllI.keys {H : Hp} : ∀ {m : List (Int × Ty)} {kvs : List (L2.Key × V)}, DAllI m kvs H → kvs.map (·.1) = (m.map (·.1)).map Sum.inl
  | [], [], _ => rfl
  | p :: m, q :: kvs, h => by rw [List.map_cons, List.map_cons, List.map_cons, DAllI.keys h.2.2, h.1]
  | [], _ :: _, h => h.elim
  | _ :: _, [], h => h.elim
theorem DAll.get {H : Hp} : ∀ {m : List (List Int × Ty)} {kvs : List (List L2.Key × V)} {i : Nat} {k : List L2.Key} {v : V}, DAll m kvs H → kvs[i]? = some (k, v) → ∃ p, m[i]? = some p ∧ k = keyL p.1 ∧ p.2.p v H
  | [], [], _, _, _, _, e => by simp at e
  | p :: m, q :: kvs, 0, k, v, h, e => ⟨p, rfl, by simp at e; subst e; exact h.1, by simp at e; subst e; exact h.2.1⟩
  | p :: m, q :: kvs, i + 1, k, v, h, e => by
    obtain ⟨p', h1, h2⟩ := DAll.get (i := i) h.2.2 (by simpa using e)
    exact ⟨p', by simpa using h1, h2⟩
  | [], _ :: _, _, _, _, h, _ => h.elim
  | _ :: _, [], _, _, _, h, _ => h.elim
theorem DAll.at {H : Hp} : ∀ {m : List (List Int × Ty)} {kvs : List (List L2.Key × V)} {i : Nat} {p : List Int × Ty}, DAll m kvs H → m[i]? = some p → ∃ v, kvs[i]? = some (keyL p.1, v) ∧ p.2.p v H
  | [], [], _, _, _, e => by simp at e
  | p :: m, q :: kvs, 0, p', h, e => ⟨q.2, by simp at e; subst e; simp [← h.1], by simp at e; subst e; exact h.2.1⟩
  | p :: m, q :: kvs, i + 1, p', h, e => by
    obtain ⟨v, h1, h2⟩ := DAll.at (i := i) h.2.2 (by simpa using e)
    exact ⟨v, by simpa using h1, h2⟩
  | [], _ :: _, _, _, h, _ => h.elim
  | _ :: _, [], _, _, h, _ => h.elim
/-- what look finds, the dict finds -/
theorem DAll.look {H : Hp} : ∀ {m : List (List Int × Ty)} {kvs : List (List L2.Key × V)} (k : List Int), DAll m kvs H → match look m k with
    | none => valV kvs (keyL k) = none
    | some T => ∃ v, valV kvs (keyL k) = some v ∧ T.p v H
  | [], [], _, _ => rfl
  | p :: m, q :: kvs, k, h => by
    by_cases e : p.1 = k
    · rw [LD.look, if_pos e]
      exact ⟨q.2, valV_pos (by rw [h.1, e]), h.2.1⟩
    · rw [LD.look, if_neg e, valV_neg (fun z => e (keyL_inj (h.1.symm.trans z)))]
      exact DAll.look k h.2.2
  | [], _ :: _, _, h => h.elim
  | _ :: _, [], _, h => h.elim
theorem DAllI.look {H : Hp} : ∀ {m : List (Int × Ty)} {kvs : List (L2.Key × V)} (k : Int), DAllI m kvs H → match look m k with
    | none => valV kvs (Sum.inl k) = none
    | some T => ∃ v, valV kvs (Sum.inl k) = some v ∧ T.p v H
  | [], [], _, _ => rfl
  | p :: m, q :: kvs, k, h => by
    by_cases e : p.1 = k
    · rw [LD.look, if_pos e]
      exact ⟨q.2, valV_pos (by rw [h.1, e]), h.2.1⟩
    · rw [LD.look, if_neg e, valV_neg (fun z => e (Sum.inl.inj (h.1.symm.trans z)))]
      exact DAllI.look k h.2.2
  | [], _ :: _, _, h => h.elim
  | _ :: _, [], _, h => h.elim
section
variable {κ : Type} [DecidableEq κ]
theorem putK_cons {p : κ × V} {r : List (κ × V)} {k : κ} {v : V} (hn : ((p :: r).map (·.1)).Nodup) : putK (p :: r) k v = if p.1 = k then (p.1, v) :: r else p :: putK r k v := by
  rw [List.map_cons, List.nodup_cons] at hn
  unfold putK
  by_cases e : p.1 = k
  · rw [if_pos e, if_pos (by simp [e]), List.map_cons, if_pos e]
    congr 1
    conv => rhs; rw [← List.map_id r]
    refine List.map_congr_left fun q hq => ?_
    have : q.1 ≠ k := fun z => hn.1 (by rw [e, ← z]; exact List.mem_map_of_mem (f := (·.1)) hq)
    rw [if_neg this]
    rfl
  · rw [if_neg e, List.any_cons, decide_eq_false e, Bool.false_or]
    split
    · rw [List.map_cons, if_neg e]
    · rfl
end
theorem DAll.put {H : Hp} {T : Ty} {v : V} (hv : T.p v H) (k : List Int) : ∀ {m : List (List Int × Ty)} {kvs : List (List L2.Key × V)}, (m.map (·.1)).Nodup → DAll m kvs H → DAll (put m k T) (putK kvs (keyL k) v) H
  | [], [], _, _ => ⟨rfl, hv, trivial⟩
  | p :: m, q :: kvs, hn, h => by
    have hk : ((q :: kvs).map (·.1)).Nodup := by
      rw [DAll.keys (m := p :: m) h]
      have : ((p :: m).map fun p => keyL p.1) = ((p :: m).map (·.1)).map keyL := by simp
      rw [this]
      exact hn.map _ fun a b e => fun z => e (keyL_inj z)
    rw [putK_cons hk]
    rw [List.map_cons, List.nodup_cons] at hn
    by_cases e : p.1 = k
    · rw [LD.put, if_pos e, if_pos (by rw [h.1, e])]
      exact ⟨h.1, hv, h.2.2⟩
    · rw [LD.put, if_neg e, if_neg (fun z => e (keyL_inj (h.1.symm.trans z)))]
      exact ⟨h.1, h.2.1, DAll.put hv k hn.2 h.2.2⟩
  | [], _ :: _, _, h => h.elim
  | _ :: _, [], _, h => h.elim
theorem DAllI.put {H : Hp} {T : Ty} {v : V} (hv : T.p v H) (k : Int) : ∀ {m : List (Int × Ty)} {kvs : List (L2.Key × V)}, (m.map (·.1)).Nodup → DAllI m kvs H → DAllI (put m k T) (putK kvs (Sum.inl k) v) H
  | [], [], _, _ => ⟨rfl, hv, trivial⟩
  | p :: m, q :: kvs, hn, h => by
    have hk : ((q :: kvs).map (·.1)).Nodup := by
      rw [DAllI.keys (m := p :: m) h]
      exact hn.map _ fun a b e => fun z => e (Sum.inl.inj z)
    rw [putK_cons hk]
    rw [List.map_cons, List.nodup_cons] at hn
    by_cases e : p.1 = k
    · rw [LD.put, if_pos e, if_pos (by rw [h.1, e])]
      exact ⟨h.1, hv, h.2.2⟩
    · rw [LD.put, if_neg e, if_neg (fun z => e (Sum.inl.inj (h.1.symm.trans z)))]
      exact ⟨h.1, h.2.1, DAllI.put hv k hn.2 h.2.2⟩
  | [], _ :: _, _, h => h.elim
  | _ :: _, [], _, h => h.elim
theorem DAll.drop {H : Hp} (k : List Int) : ∀ {m : List (List Int × Ty)} {kvs : List (List L2.Key × V)}, DAll m kvs H → DAll (drop m k) (dropK kvs (keyL k)) H
  | [], [], _ => trivial
  | p :: m, q :: kvs, h => by
    have ih := DAll.drop k h.2.2
    unfold LD.drop at ih ⊢
    by_cases e : p.1 = k
    · rw [List.filter_cons, if_neg (by simp [e]), dropK_pos (by rw [h.1, e])]
      exact ih
    · rw [List.filter_cons, if_pos (by simp [e]), dropK_neg (fun z => e (keyL_inj (h.1.symm.trans z)))]
      exact ⟨h.1, h.2.1, ih⟩
  | [], _ :: _, h => h.elim
  | _ :: _, [], h => h.elim
theorem DAllI.drop {H : Hp} (k : Int) : ∀ {m : List (Int × Ty)} {kvs : List (L2.Key × V)}, DAllI m kvs H → DAllI (drop m k) (dropK kvs (Sum.inl k)) H
  | [], [], _ => trivial
  | p :: m, q :: kvs, h => by
    have ih := DAllI.drop k h.2.2
    unfold LD.drop at ih ⊢
    by_cases e : p.1 = k
    · rw [List.filter_cons, if_neg (by simp [e]), dropK_pos (by rw [h.1, e])]
      exact ih
    · rw [List.filter_cons, if_pos (by simp [e]), dropK_neg (fun z => e (Sum.inl.inj (h.1.symm.trans z)))]
      exact ⟨h.1, h.2.1, ih⟩
  | [], _ :: _, h => h.elim
  | _ :: _, [], h => h.elim

/-! ## dicts as types: strictly there, or to be read -/
def yDT (m : List (List Int × Ty)) : Ty := ⟨fun v H => ∃ a kvs, v = .ref a ∧ H a = some (.dT kvs) ∧ DAll m kvs H, fun s ⟨a, kvs, e, h, k⟩ => ⟨a, kvs, e, s _ _ h, k.m s⟩⟩
def yDI (m : List (Int × Ty)) : Ty := ⟨fun v H => ∃ a kvs, v = .ref a ∧ H a = some (.dK kvs) ∧ DAllI m kvs H, fun s ⟨a, kvs, e, h, k⟩ => ⟨a, kvs, e, s _ _ h, k.m s⟩⟩
theorem same_rd {H H' : Hp} {a : Addr} {u : HO} (s : Same H H') (h : Rd H a u) : Rd H' a u := by
  rcases h with h | ⟨o, h⟩
  · exact .inl (s _ _ h)
  · exact .inr ⟨o, s _ _ h⟩
def yDr (m : List (List Int × Ty)) : Ty := ⟨fun v H => ∃ a kvs, v = .ref a ∧ Rd H a (.dT kvs) ∧ DAll m kvs H, fun s ⟨a, kvs, e, h, k⟩ => ⟨a, kvs, e, same_rd s h, k.m s⟩⟩
def yDIr (m : List (Int × Ty)) : Ty := ⟨fun v H => ∃ a kvs, v = .ref a ∧ Rd H a (.dK kvs) ∧ DAllI m kvs H, fun s ⟨a, kvs, e, h, k⟩ => ⟨a, kvs, e, same_rd s h, k.m s⟩⟩
def IsDT (T : Ty) (m : List (List Int × Ty)) : Prop := ∀ v H, T.p v H → (yDr m).p v H
def IsDI (T : Ty) (m : List (Int × Ty)) : Prop := ∀ v H, T.p v H → (yDIr m).p v H
theorem isDT_s {m : List (List Int × Ty)} : IsDT (yDT m) m := fun v H ⟨a, kvs, e, h, k⟩ => ⟨a, kvs, e, .inl h, k⟩
theorem isDT_r {m : List (List Int × Ty)} : IsDT (yDr m) m := fun v H h => h
theorem isDI_s {m : List (Int × Ty)} : IsDI (yDI m) m := fun v H ⟨a, kvs, e, h, k⟩ => ⟨a, kvs, e, .inl h, k⟩
theorem isDI_r {m : List (Int × Ty)} : IsDI (yDIr m) m := fun v H h => h
section
variable {σ : L2.St} {B : Hp} {T T0 A : Ty} {td ty tx te : TE} {m : List (List Int × Ty)} {mi : List (Int × Ty)} {k : List Int} {i : Int}
theorem key_of_is {v : V} {H : Hp} (h : (yIs k).p v H) : ∃ b, v = .ref b ∧ H b = some (.tup ((keyL k).map kV)) := by
  obtain ⟨b, e, h⟩ := yIs_iff.mp h
  exact ⟨b, e, by rw [keyL_kV]; exact h⟩
theorem gv_dget (hd : Gv td σ B A) (hy : Gv ty σ B (yIs k)) (ht : IsDT A m) (e : look m k = some T) : Gv (tDGet td ty) σ B T := fun H s Q q =>
  hd H s _ fun x B1 H1 g1 hx => (hy.m g1.bs) H1 g1.in_ _ fun y B2 H2 g2 hk => by
    obtain ⟨a, kvs, rfl, hr, ka⟩ := ht x B2 (A.m g2.bs hx)
    obtain ⟨b, rfl, hb⟩ := key_of_is hk
    have z := DAll.look k ka
    rw [e] at z
    obtain ⟨v, hv, tv⟩ := z
    exact ⟨a, v, rfl, .inr ⟨kvs, keyL k, b, same_rd g2.in_ hr, rfl, g2.in_ _ _ hb, hv.symm⟩, q v B2 H2 (g1.trans g2) tv⟩
theorem gv_dgetI (hd : Gv td σ B A) (hy : Gv ty σ B (yI i)) (ht : IsDI A mi) (e : look mi i = some T) : Gv (tDGet td ty) σ B T := fun H s Q q =>
  hd H s _ fun x B1 H1 g1 hx => (hy.m g1.bs) H1 g1.in_ _ fun y B2 H2 g2 hk => by
    obtain ⟨a, kvs, rfl, hr, ka⟩ := ht x B2 (A.m g2.bs hx)
    obtain rfl : y = .int i := hk
    have z := DAllI.look i ka
    rw [e] at z
    obtain ⟨v, hv, tv⟩ := z
    exact ⟨a, v, rfl, .inl ⟨kvs, .inl i, same_rd g2.in_ hr, rfl, hv.symm⟩, q v B2 H2 (g1.trans g2) tv⟩
theorem gv_dget2 (hd : Gv td σ B A) (hy : Gv ty σ B (yIs k)) (hx : Gv tx σ B T0) (ht : IsDT A m) (e : (look m k).getD T0 = T) : Gv (tDGet2 td ty tx) σ B T := fun H s Q q =>
  hd H s _ fun x B1 H1 g1 h1 => by
    obtain ⟨a, kvs, rfl, hr, ka⟩ := ht x B1 h1
    refine ⟨a, rfl, .inr ⟨kvs, same_rd g1.in_ hr⟩, (hy.m g1.bs) H1 g1.in_ _ fun y B2 H2 g2 hk => (hx.m (g1.bs.trans g2.bs)) H2 g2.in_ _ fun z B3 H3 g3 hz => ?_⟩
    obtain ⟨b, rfl, hb⟩ := key_of_is hk
    have w := DAll.look k (ka.m (g2.bs.trans g3.bs))
    have rd : Rd H3 a (.dT kvs) := same_rd (g2.bs.trans (g3.bs.trans g3.in_)) hr
    have hb3 := g3.in_ _ _ (g3.bs _ _ hb)
    cases hl : look m k with
    | none =>
      rw [hl] at w e
      have e : T0 = T := e
      subst e
      exact ⟨none, .inr ⟨kvs, keyL k, b, rd, rfl, hb3, w.symm⟩, q z B3 H3 (g1.trans (g2.trans g3)) hz⟩
    | some T1 =>
      rw [hl] at w e
      have e : T1 = T := e
      subst e
      obtain ⟨v, hv, tv⟩ := w
      exact ⟨some v, .inr ⟨kvs, keyL k, b, rd, rfl, hb3, hv.symm⟩, q v B3 H3 (g1.trans (g2.trans g3)) tv⟩
theorem gv_dget2I (hd : Gv td σ B A) (hy : Gv ty σ B (yI i)) (hx : Gv tx σ B T0) (ht : IsDI A mi) (e : (look mi i).getD T0 = T) : Gv (tDGet2 td ty tx) σ B T := fun H s Q q =>
  hd H s _ fun x B1 H1 g1 h1 => by
    obtain ⟨a, kvs, rfl, hr, ka⟩ := ht x B1 h1
    refine ⟨a, rfl, .inl ⟨kvs, same_rd g1.in_ hr⟩, (hy.m g1.bs) H1 g1.in_ _ fun y B2 H2 g2 hk => (hx.m (g1.bs.trans g2.bs)) H2 g2.in_ _ fun z B3 H3 g3 hz => ?_⟩
    obtain rfl : y = .int i := hk
    have w := DAllI.look i (ka.m (g2.bs.trans g3.bs))
    have rd : Rd H3 a (.dK kvs) := same_rd (g2.bs.trans (g3.bs.trans g3.in_)) hr
    cases hl : look mi i with
    | none =>
      rw [hl] at w e
      have e : T0 = T := e
      subst e
      exact ⟨none, .inl ⟨kvs, .inl i, rd, rfl, w.symm⟩, q z B3 H3 (g1.trans (g2.trans g3)) hz⟩
    | some T1 =>
      rw [hl] at w e
      have e : T1 = T := e
      subst e
      obtain ⟨v, hv, tv⟩ := w
      exact ⟨some v, .inl ⟨kvs, .inl i, rd, rfl, hv.symm⟩, q v B3 H3 (g1.trans (g2.trans g3)) tv⟩
theorem din_some {H : Hp} {kvs : List (List L2.Key × V)} (ka : DAll m kvs H) : (valV kvs (keyL k)).isSome = (look m k).isSome := by
  have w := DAll.look k ka
  cases hl : look m k with
  | none => rw [hl] at w; rw [w]; rfl
  | some T1 => rw [hl] at w; obtain ⟨v, hv, _⟩ := w; rw [hv]; rfl
theorem din_someI {H : Hp} {kvs : List (L2.Key × V)} (ka : DAllI mi kvs H) : (valV kvs (Sum.inl i)).isSome = (look mi i).isSome := by
  have w := DAllI.look i ka
  cases hl : look mi i with
  | none => rw [hl] at w; rw [w]; rfl
  | some T1 => rw [hl] at w; obtain ⟨v, hv, _⟩ := w; rw [hv]; rfl
theorem gv_din (hy : Gv ty σ B (yIs k)) (hd : Gv td σ B A) (ht : IsDT A m) : Gv (tDIn ty td) σ B (yB (look m k).isSome) := fun H s Q q =>
  hy H s _ fun y B1 H1 g1 hk => (hd.m g1.bs) H1 g1.in_ _ fun x B2 H2 g2 hx => by
    obtain ⟨a, kvs, rfl, hr, ka⟩ := ht x B2 hx
    obtain ⟨b, rfl, hb⟩ := key_of_is hk
    exact ⟨a, _, rfl, .inr ⟨kvs, keyL k, b, same_rd g2.in_ hr, rfl, g2.in_ _ _ (g2.bs _ _ hb), rfl⟩, by rw [din_some ka]; exact q _ B2 H2 (g1.trans g2) rfl⟩
theorem gv_dnotin (hy : Gv ty σ B (yIs k)) (hd : Gv td σ B A) (ht : IsDT A m) : Gv (tDNotIn ty td) σ B (yB (!(look m k).isSome)) := fun H s Q q =>
  hy H s _ fun y B1 H1 g1 hk => (hd.m g1.bs) H1 g1.in_ _ fun x B2 H2 g2 hx => by
    obtain ⟨a, kvs, rfl, hr, ka⟩ := ht x B2 hx
    obtain ⟨b, rfl, hb⟩ := key_of_is hk
    exact ⟨a, _, rfl, .inr ⟨kvs, keyL k, b, same_rd g2.in_ hr, rfl, g2.in_ _ _ (g2.bs _ _ hb), rfl⟩, by rw [din_some ka]; exact q _ B2 H2 (g1.trans g2) rfl⟩
theorem gv_dinI (hy : Gv ty σ B (yI i)) (hd : Gv td σ B A) (ht : IsDI A mi) : Gv (tDIn ty td) σ B (yB (look mi i).isSome) := fun H s Q q =>
  hy H s _ fun y B1 H1 g1 hk => (hd.m g1.bs) H1 g1.in_ _ fun x B2 H2 g2 hx => by
    obtain ⟨a, kvs, rfl, hr, ka⟩ := ht x B2 hx
    obtain rfl : y = .int i := hk
    exact ⟨a, _, rfl, .inl ⟨kvs, .inl i, same_rd g2.in_ hr, rfl, rfl⟩, by rw [din_someI ka]; exact q _ B2 H2 (g1.trans g2) rfl⟩
end
/-! ## a dict is locked while it is walked -/
def IsDic : HO → Prop
  | .dK _ => True
  | .dT _ => True
  | _ => False
theorem IsDic.mut {u : HO} (h : IsDic u) : Mut (some u) := by
  cases u <;> first | exact h.elim | trivial
/-- what still holds when a locked dict is let go; when a dict is locked -/
def Unf (T : Ty) : Prop := ∀ v B d od u, B d = some (.frz od u) → IsDic u → T.p v B → T.p v (upd B d u)
def Frz (T : Ty) : Prop := ∀ v B d od u, B d = some u → IsDic u → T.p v B → T.p v (upd B d (.frz od u))
theorem unf_x {x : V} : Unf (yX x) := fun _ _ _ _ _ _ _ h => h
theorem frz_x {x : V} : Frz (yX x) := fun _ _ _ _ _ _ _ h => h
theorem unf_all {d : Addr} {od : Obj} {u : HO} {B : Hp} (hd : B d = some (.frz od u)) (hu : IsDic u) : ∀ {ts : List Ty} {vs : List V}, (∀ t ∈ ts, Unf t) → All ts vs B → All ts vs (upd B d u)
  | [], [], _, _ => trivial
  | t :: ts, v :: vs, ht, h => ⟨ht t List.mem_cons_self v B d od u hd hu h.1, unf_all hd hu (fun t' h' => ht t' (List.mem_cons_of_mem _ h')) h.2⟩
  | [], _ :: _, _, h => h.elim
  | _ :: _, [], _, h => h.elim
theorem frz_all {d : Addr} {od : Obj} {u : HO} {B : Hp} (hd : B d = some u) (hu : IsDic u) : ∀ {ts : List Ty} {vs : List V}, (∀ t ∈ ts, Frz t) → All ts vs B → All ts vs (upd B d (.frz od u))
  | [], [], _, _ => trivial
  | t :: ts, v :: vs, ht, h => ⟨ht t List.mem_cons_self v B d od u hd hu h.1, frz_all hd hu (fun t' h' => ht t' (List.mem_cons_of_mem _ h')) h.2⟩
  | [], _ :: _, _, h => h.elim
  | _ :: _, [], _, h => h.elim
theorem unf_t {ts : List Ty} (ht : ∀ t ∈ ts, Unf t) : Unf (yT ts) := fun v B d od u hd hu ⟨a, vs, e, h, k⟩ => ⟨a, vs, e, by rw [upd_ne (ne_of h hd (fun z => nomatch z))]; exact h, unf_all hd hu ht k⟩
theorem unf_l {ts : List Ty} (ht : ∀ t ∈ ts, Unf t) : Unf (yL ts) := fun v B d od u hd hu ⟨a, vs, e, h, k⟩ => ⟨a, vs, e, by rw [upd_ne (ne_of h hd (fun z => nomatch z))]; exact h, unf_all hd hu ht k⟩
theorem frz_t {ts : List Ty} (ht : ∀ t ∈ ts, Frz t) : Frz (yT ts) := fun v B d od u hd hu ⟨a, vs, e, h, k⟩ => ⟨a, vs, e, by rw [upd_ne (ne_of h hd (fun z => by subst z; exact hu))]; exact h, frz_all hd hu ht k⟩
theorem unf_is {ns : List Int} : Unf (yIs ns) := unf_t fun t ht => by
  obtain ⟨n, _, rfl⟩ := List.mem_map.mp ht
  exact unf_x
theorem frz_is {ns : List Int} : Frz (yIs ns) := frz_t fun t ht => by
  obtain ⟨n, _, rfl⟩ := List.mem_map.mp ht
  exact frz_x
theorem frz_f {K : PySem.W.Frag} {r : Rat} : Frz (yF K r) := fun v B d od u hd hu ⟨a, e, h⟩ => ⟨a, e, by
  rcases h with (h | ⟨o, h⟩) | h
  · exact .inl (.inl (by rw [upd_ne (ne_of h hd (fun z => by subst z; exact hu))]; exact h))
  · exact .inl (.inr ⟨o, by rw [upd_ne (ne_of h hd (fun z => by subst z; exact hu))]; exact h⟩)
  · exact .inr h⟩
theorem unf_f {K : PySem.W.Frag} {r : Rat} : Unf (yF K r) := fun v B d od u hd hu ⟨a, e, h⟩ => ⟨a, e, by
  rcases h with (h | ⟨o, h⟩) | h
  · exact .inl (.inl (by rw [upd_ne (ne_of h hd (fun z => nomatch z))]; exact h))
  · refine .inl (.inr ⟨o, ?_⟩)
    rw [upd_ne (ne_of h hd (fun z => by cases z; exact hu))]
    exact h
  · exact .inr h⟩
theorem unf_dall {d : Addr} {od : Obj} {u : HO} {B : Hp} (hd : B d = some (.frz od u)) (hu : IsDic u) : ∀ {m : List (List Int × Ty)} {kvs : List (List L2.Key × V)}, (∀ p ∈ m, Unf p.2) → DAll m kvs B → DAll m kvs (upd B d u)
  | [], [], _, _ => trivial
  | p :: m, q :: kvs, ht, h => ⟨h.1, ht p List.mem_cons_self q.2 B d od u hd hu h.2.1, unf_dall hd hu (fun t' h' => ht t' (List.mem_cons_of_mem _ h')) h.2.2⟩
  | [], _ :: _, _, h => h.elim
  | _ :: _, [], _, h => h.elim
theorem unf_dallI {d : Addr} {od : Obj} {u : HO} {B : Hp} (hd : B d = some (.frz od u)) (hu : IsDic u) : ∀ {m : List (Int × Ty)} {kvs : List (L2.Key × V)}, (∀ p ∈ m, Unf p.2) → DAllI m kvs B → DAllI m kvs (upd B d u)
  | [], [], _, _ => trivial
  | p :: m, q :: kvs, ht, h => ⟨h.1, ht p List.mem_cons_self q.2 B d od u hd hu h.2.1, unf_dallI hd hu (fun t' h' => ht t' (List.mem_cons_of_mem _ h')) h.2.2⟩
  | [], _ :: _, _, h => h.elim
  | _ :: _, [], _, h => h.elim
theorem frz_dall {d : Addr} {od : Obj} {u : HO} {B : Hp} (hd : B d = some u) (hu : IsDic u) : ∀ {m : List (List Int × Ty)} {kvs : List (List L2.Key × V)}, (∀ p ∈ m, Frz p.2) → DAll m kvs B → DAll m kvs (upd B d (.frz od u))
  | [], [], _, _ => trivial
  | p :: m, q :: kvs, ht, h => ⟨h.1, ht p List.mem_cons_self q.2 B d od u hd hu h.2.1, frz_dall hd hu (fun t' h' => ht t' (List.mem_cons_of_mem _ h')) h.2.2⟩
  | [], _ :: _, _, h => h.elim
  | _ :: _, [], _, h => h.elim
theorem frz_dallI {d : Addr} {od : Obj} {u : HO} {B : Hp} (hd : B d = some u) (hu : IsDic u) : ∀ {m : List (Int × Ty)} {kvs : List (L2.Key × V)}, (∀ p ∈ m, Frz p.2) → DAllI m kvs B → DAllI m kvs (upd B d (.frz od u))
  | [], [], _, _ => trivial
  | p :: m, q :: kvs, ht, h => ⟨h.1, ht p List.mem_cons_self q.2 B d od u hd hu h.2.1, frz_dallI hd hu (fun t' h' => ht t' (List.mem_cons_of_mem _ h')) h.2.2⟩
  | [], _ :: _, _, h => h.elim
  | _ :: _, [], _, h => h.elim
theorem unf_d {m : List (List Int × Ty)} (ht : ∀ p ∈ m, Unf p.2) : Unf (yDT m) := fun v B d od u hd hu ⟨a, kvs, e, h, k⟩ => ⟨a, kvs, e, by rw [upd_ne (ne_of h hd (fun z => nomatch z))]; exact h, unf_dall hd hu ht k⟩
/-- a locked dict d of the base: base and heap go on alike -/
theorem lock_same {B H : Hp} {d : Addr} {od : Obj} {u : HO} (s : Same B H) : Same (upd B d (.frz od u)) (upd H d (.frz od u)) := same_upd s
theorem lock_back {B H B1 H1 : Hp} {d : Addr} {od : Obj} {u : HO} (hd : B d = some u) (s : Same B H) (g : Gr (upd B d (.frz od u)) (upd H d (.frz od u)) B1 H1) : Gr B H (upd B1 d u) (upd H1 d u) :=
  ⟨fun a o e => by
    by_cases h : a = d
    · subst h; rw [upd_same]; rw [hd] at e; exact e
    · rw [upd_ne h]
      exact g.bs a o (by rw [upd_ne h]; exact e),
   fun a o e => by
    by_cases h : a = d
    · subst h; rw [upd_same]; rw [s _ _ hd] at e; exact e
    · rw [upd_ne h]
      exact g.hs a o (by rw [upd_ne h]; exact e),
   same_upd g.in_,
   fun a e => by
    by_cases h : a = d
    · subst h; left; rw [hd]; exact fun z => nomatch z
    · rw [upd_ne h] at e
      have := g.nw a e
      rw [upd_ne h, upd_ne h] at this
      exact this⟩
theorem gv_lock {σ : L2.St} {B : Hp} {d : Addr} {u : HO} {te : TE} {T : Ty} (hd : B d = some u) (hu : IsDic u) (hT : Unf T) (h : ∀ od, Gv te σ (upd B d (.frz od u)) T) : Gv (tLockE te) σ B T := fun H s Q q =>
  ⟨d, u, s _ _ hd, hu.mut, fun od => h od _ (lock_same s) _ fun v B1 H1 g hv => by
    have h1 : B1 d = some (.frz od u) := g.bs d _ upd_same
    exact ⟨g.in_ _ _ h1, q v _ _ (lock_back hd s g) (hT v B1 d od u h1 hu hv)⟩⟩
section
variable {σ : L2.St} {B : Hp} {te : TE} {A : Ty}
/-- the keys of a locked dict -/
theorem gi_keys {m : List (List Int × Ty)} {d : Addr} {od : Obj} {kvs : List (List L2.Key × V)} (h : Gv te σ B (yX (.ref d))) (hd : B d = some (.frz od (.dT kvs))) (ka : DAll m kvs B) : GvI (iKeys te) σ B m.length (fun i => yIs ((m.map (·.1)).getD i [])) := fun H s R r => h H s _ fun v B1 H1 g hv => by
  obtain rfl : v = .ref d := hv
  have hd1 := g.bs _ _ hd
  refine ⟨d, od, rfl, .inr ⟨kvs, g.in_ _ _ hd1, r _ B1 H1 g (ka.len ▸ walkT (walk_keysT (kvs := kvs)) (fun H2 s2 => s2 _ _ hd1) fun i B2 H2 x H3 hi s1 s2 hy => ?_)⟩⟩
  obtain ⟨e, k, v, q, hk, rfl, hq⟩ := hy
  subst e
  obtain ⟨p, hp, rfl, _⟩ := ka.get hk
  have e2 : (m.map (·.1)).getD i [] = p.1 := by
    rw [List.getD_eq_getElem?_getD, List.getElem?_map, hp]
    rfl
  rw [e2]
  rw [keyL_kV] at hq
  exact ⟨_, Gr.take s2 hq, yIs_iff.mpr ⟨q, rfl, upd_same⟩⟩
theorem gi_keysI {m : List (Int × Ty)} {d : Addr} {od : Obj} {kvs : List (L2.Key × V)} (h : Gv te σ B (yX (.ref d))) (hd : B d = some (.frz od (.dK kvs))) (ka : DAllI m kvs B) : GvI (iKeys te) σ B m.length (fun i => yI ((m.map (·.1)).getD i 0)) := fun H s R r => h H s _ fun v B1 H1 g hv => by
  obtain rfl : v = .ref d := hv
  have hd1 := g.bs _ _ hd
  refine ⟨d, od, rfl, .inl ⟨kvs, g.in_ _ _ hd1, r _ B1 H1 g (ka.len ▸ walkT (walk_keys (kvs := kvs)) (fun H2 s2 => s2 _ _ hd1) fun i B2 H2 x H3 hi s1 s2 hy => ?_)⟩⟩
  obtain ⟨e, k, v, hk, rfl⟩ := hy
  subst e
  have e3 := ka.keys
  have e4 : (kvs.map (·.1))[i]? = some k := by rw [List.getElem?_map, hk]; rfl
  rw [e3, List.getElem?_map] at e4
  cases e5 : (m.map (·.1))[i]? with
  | none => rw [e5] at e4; cases e4
  | some z =>
    rw [e5] at e4
    cases e4
    have e2 : (m.map (·.1)).getD i 0 = z := by
      rw [List.getD_eq_getElem?_getD, e5]
      rfl
    rw [e2]
    exact ⟨B2, Gr.refl s2, rfl⟩
end
end LD
set_option maxHeartbeats 4000000
/-! LdElim: elimination in fractions, the plain law. -/
namespace LD
abbrev Nm := List Int
abbrev Row := List (Nm × Rat)
section
variable {κ : Type} [DecidableEq κ]
def val (m : List (κ × Rat)) (k : κ) : Rat := (look m k).getD 0
def dot (m : List (κ × Rat)) (x : κ → Rat) : Rat := (m.map fun p => p.2 * x p.1).sum
/-- no key twice, no nought -/
def RowOk (m : List (κ × Rat)) : Prop := (m.map (·.1)).Nodup ∧ ∀ p ∈ m, p.2 ≠ 0
theorem val_nil {k : κ} : val ([] : List (κ × Rat)) k = 0 := rfl
theorem val_cons {p : κ × Rat} {m : List (κ × Rat)} {k : κ} : val (p :: m) k = if p.1 = k then p.2 else val m k := by
  unfold val
  rw [look]
  split <;> rfl
theorem val_of_not {m : List (κ × Rat)} {k : κ} (h : k ∉ m.map (·.1)) : val m k = 0 := by
  unfold val
  rw [look_none.mpr h]
  rfl
theorem val_put {m : List (κ × Rat)} {k j : κ} {v : Rat} : val (put m k v) j = if k = j then v else val m j := by
  unfold val
  rw [look_put]
  split <;> rfl
theorem val_drop {m : List (κ × Rat)} {k j : κ} : val (drop m k) j = if k = j then 0 else val m j := by
  unfold val
  rw [look_drop]
  split <;> rfl
theorem val_mem {m : List (κ × Rat)} {k : κ} (h : val m k ≠ 0) : k ∈ m.map (·.1) := by
  by_cases z : k ∈ m.map (·.1)
  · exact z
  · exact absurd (val_of_not z) h
theorem val_at {m : List (κ × Rat)} {p : κ × Rat} (hn : (m.map (·.1)).Nodup) (h : p ∈ m) : val m p.1 = p.2 := by
  unfold val
  rw [look_of_mem hn h]
  rfl
theorem RowOk.look {m : List (κ × Rat)} (h : RowOk m) (k : κ) : look m k = if val m k = 0 then none else some (val m k) := by
  cases e : LD.look m k with
  | none =>
    have : val m k = 0 := by unfold val; rw [e]; rfl
    rw [if_pos this]
  | some v =>
    have h1 : val m k = v := by unfold val; rw [e]; rfl
    have h2 := h.2 _ (look_mem e)
    rw [h1, if_neg h2]
theorem sum_zero {α : Type} {l : List α} {f : α → Rat} (h : ∀ a ∈ l, f a = 0) : (l.map f).sum = 0 := by
  induction l with
  | nil => rfl
  | cons a l ih =>
    rw [List.map_cons, List.sum_cons, h a List.mem_cons_self, ih fun b hb => h b (List.mem_cons_of_mem _ hb)]
    grind
theorem sum_add {α : Type} {l : List α} {f g : α → Rat} : (l.map fun a => f a + g a).sum = (l.map f).sum + (l.map g).sum := by
  induction l with
  | nil => simp; grind
  | cons a l ih =>
    simp only [List.map_cons, List.sum_cons, ih]
    grind
theorem sum_mul {α : Type} {l : List α} {f : α → Rat} {c : Rat} : (l.map fun a => c * f a).sum = c * (l.map f).sum := by
  induction l with
  | nil => simp
  | cons a l ih =>
    simp only [List.map_cons, List.sum_cons, ih]
    grind
theorem sum_one {U : List κ} (hU : U.Nodup) {k : κ} (hk : k ∈ U) (c : κ → Rat) : (U.map fun j => if k = j then c j else 0).sum = c k := by
  induction U with
  | nil => simp at hk
  | cons a U ih =>
    rw [List.nodup_cons] at hU
    rw [List.map_cons, List.sum_cons]
    rcases List.mem_cons.mp hk with e | e
    · subst e
      rw [if_pos rfl, sum_zero fun j hj => by
        have : k ≠ j := fun z => hU.1 (by rw [z]; exact hj)
        rw [if_neg this]]
      grind
    · have : k ≠ a := fun z => hU.1 (by rw [← z]; exact e)
      rw [if_neg this, ih hU.2 e]
      grind
/-- a row's product with x, over a list of names that has all of its keys -/
theorem dot_eq {U : List κ} (hU : U.Nodup) {m : List (κ × Rat)} (hn : (m.map (·.1)).Nodup) (hk : ∀ p ∈ m, p.1 ∈ U) (x : κ → Rat) : dot m x = (U.map fun k => val m k * x k).sum := by
  induction m with
  | nil =>
    rw [sum_zero fun k _ => by rw [val_nil]; grind]
    rfl
  | cons p m ih =>
    rw [List.map_cons, List.nodup_cons] at hn
    have e1 : (fun k => val (p :: m) k * x k) = fun k => (if p.1 = k then p.2 * x k else 0) + val m k * x k := by
      funext k
      rw [val_cons]
      by_cases h : p.1 = k
      · rw [if_pos h, if_pos h]
        have : val m k = 0 := val_of_not (by rw [← h]; exact hn.1)
        rw [this]; grind
      · rw [if_neg h, if_neg h]; grind
    rw [e1, sum_add, sum_one hU (hk p List.mem_cons_self) (fun k => p.2 * x k), ← ih hn.2 fun q hq => hk q (List.mem_cons_of_mem _ hq)]
    unfold dot
    rw [List.map_cons, List.sum_cons]
theorem keys_union {m1 m2 m3 : List (κ × Rat)} : ∃ U : List κ, U.Nodup ∧ (∀ p ∈ m1, p.1 ∈ U) ∧ (∀ p ∈ m2, p.1 ∈ U) ∧ (∀ p ∈ m3, p.1 ∈ U) := by
  have base : ∀ l : List κ, ∃ U : List κ, U.Nodup ∧ ∀ k ∈ l, k ∈ U := by
    intro l
    induction l with
    | nil => exact ⟨[], List.nodup_nil, fun k hk => hk⟩
    | cons a l ih =>
      obtain ⟨U, h1, h2⟩ := ih
      by_cases h : a ∈ U
      · exact ⟨U, h1, fun k hk => (List.mem_cons.mp hk).elim (fun e => e ▸ h) (h2 k)⟩
      · exact ⟨a :: U, List.nodup_cons.mpr ⟨h, h1⟩, fun k hk => (List.mem_cons.mp hk).elim (fun e => by rw [e]; exact List.mem_cons_self) fun z => List.mem_cons_of_mem _ (h2 k z)⟩
  obtain ⟨U, h1, h2⟩ := base (m1.map (·.1) ++ m2.map (·.1) ++ m3.map (·.1))
  have mem : ∀ (m : List (κ × Rat)) (p : κ × Rat), p ∈ m → p.1 ∈ m.map (·.1) := fun m p hp => List.mem_map_of_mem (f := (·.1)) hp
  refine ⟨U, h1, fun p hp => h2 _ ?_, fun p hp => h2 _ ?_, fun p hp => h2 _ ?_⟩
  · exact List.mem_append_left _ (List.mem_append_left _ (mem _ _ hp))
  · exact List.mem_append_left _ (List.mem_append_right _ (mem _ _ hp))
  · exact List.mem_append_right _ (mem _ _ hp)
/-- a row and a factor times another one, together -/
theorem dot_with {m m1 m2 : List (κ × Rat)} (hn : (m.map (·.1)).Nodup) (hn1 : (m1.map (·.1)).Nodup) (hn2 : (m2.map (·.1)).Nodup) {c : Rat} (h : ∀ k, val m k = val m1 k + c * val m2 k) (x : κ → Rat) : dot m x = dot m1 x + c * dot m2 x := by
  obtain ⟨U, hU, h0, h1, h2⟩ := keys_union (m1 := m) (m2 := m1) (m3 := m2)
  rw [dot_eq hU hn h0, dot_eq hU hn1 h1, dot_eq hU hn2 h2, ← sum_mul, ← sum_add]
  congr 1
  refine List.map_congr_left fun k _ => ?_
  rw [h k]
  grind
theorem dot_upd {m : List (κ × Rat)} (hn : (m.map (·.1)).Nodup) (x : κ → Rat) (p : κ) (c : Rat) : dot m (fun k => if p = k then c else x k) = dot m x + val m p * (c - x p) := by
  induction m with
  | nil => unfold dot; rw [val_nil]; simp; grind
  | cons q m ih =>
    rw [List.map_cons, List.nodup_cons] at hn
    have e : ∀ y : κ → Rat, dot (q :: m) y = q.2 * y q.1 + dot m y := fun y => by unfold dot; rw [List.map_cons, List.sum_cons]
    rw [e, e, ih hn.2, val_cons]
    by_cases h : q.1 = p
    · have : val m p = 0 := val_of_not (by rw [← h]; exact hn.1)
      rw [if_pos h.symm, if_pos h, this, h]
      grind
    · rw [if_neg (fun z => h z.symm), if_neg h]
      grind
theorem dot_congr {m : List (κ × Rat)} {x y : κ → Rat} (h : ∀ p ∈ m, x p.1 = y p.1) : dot m x = dot m y := by
  unfold dot
  congr 1
  exact List.map_congr_left fun p hp => by rw [h p hp]
end
/-! ### rows at their heads -/
/-- each head's row has no nought at its own name, and none of the names ahead of it -/
def Ech : List (Nm × Row) → Prop
  | [] => True
  | h :: r => val h.2 h.1 ≠ 0 ∧ (∀ g ∈ r, val g.2 h.1 = 0) ∧ Ech r
theorem back {hs : List (Nm × Row)} (he : Ech hs) (hn : ∀ h ∈ hs, (h.2.map (·.1)).Nodup) (x0 : Nm → Rat) : ∃ x : Nm → Rat, (∀ k, k ∉ hs.map (·.1) → x k = x0 k) ∧ ∀ h ∈ hs, dot h.2 x = 0 := by
  induction hs with
  | nil => exact ⟨x0, fun _ _ => rfl, fun h hh => by simp at hh⟩
  | cons g r ih =>
    obtain ⟨h1, h2, h3⟩ := he
    obtain ⟨x, hx1, hx2⟩ := ih h3 fun h hh => hn h (List.mem_cons_of_mem _ hh)
    refine ⟨fun k => if g.1 = k then x g.1 - dot g.2 x / val g.2 g.1 else x k, fun k hk => ?_, fun h hh => ?_⟩
    · rw [List.map_cons, List.mem_cons, not_or] at hk
      show (if g.1 = k then _ else x k) = x0 k
      rw [if_neg (fun z => hk.1 z.symm)]
      exact hx1 k hk.2
    · show dot h.2 (fun k => if g.1 = k then x g.1 - dot g.2 x / val g.2 g.1 else x k) = 0
      rw [dot_upd (hn h hh)]
      rcases List.mem_cons.mp hh with e | e
      · subst e
        have : val h.2 h.1 * (x h.1 - dot h.2 x / val h.2 h.1 - x h.1) = - dot h.2 x := by
          generalize dot h.2 x = d at *
          generalize val h.2 h.1 = v at *
          grind
        rw [this]; grind
      · rw [hx2 h e, h2 h e]; grind
/-- names that the rows' kernel leaves no room for are all heads -/
theorem all_heads {U : List Nm} {hs : List (Nm × Row)} (he : Ech hs) (hn : ∀ h ∈ hs, (h.2.map (·.1)).Nodup) (ker : ∀ x : Nm → Rat, (∀ h ∈ hs, dot h.2 x = 0) → ∀ k ∈ U, x k = 0) : ∀ k ∈ U, k ∈ hs.map (·.1) := by
  intro k hk
  by_cases z : k ∈ hs.map (·.1)
  · exact z
  · obtain ⟨x, h1, h2⟩ := back he hn fun _ => 1
    have e1 := h1 k z
    have e2 := ker x h2 k hk
    rw [e1] at e2
    exact absurd e2 (by decide)
theorem Ech.nodup {hs : List (Nm × Row)} (he : Ech hs) : (hs.map (·.1)).Nodup := by
  induction hs with
  | nil => exact List.nodup_nil
  | cons g r ih =>
    obtain ⟨h1, h2, h3⟩ := he
    rw [List.map_cons, List.nodup_cons]
    refine ⟨fun hm => ?_, ih h3⟩
    obtain ⟨h, hh, e⟩ := List.mem_map.mp hm
    have q : val h.2 h.1 ≠ 0 := by
      clear ih h2 h1
      induction r with
      | nil => simp at hh
      | cons a r ih =>
        obtain ⟨a1, a2, a3⟩ := h3
        rcases List.mem_cons.mp hh with z | z
        · subst z; exact a1
        · exact ih a3 (by
            obtain ⟨h, hh, e⟩ := List.mem_map.mp hm
            exact List.mem_map.mpr ⟨_, z, by assumption⟩) z
    rw [e] at q
    exact q (h2 h hh)
theorem Ech.snoc {hs : List (Nm × Row)} (he : Ech hs) {h : Nm × Row} (h1 : val h.2 h.1 ≠ 0) (h2 : ∀ g ∈ hs, val h.2 g.1 = 0) : Ech (hs ++ [h]) := by
  induction hs with
  | nil => exact ⟨h1, by simp, trivial⟩
  | cons g r ih =>
    obtain ⟨a1, a2, a3⟩ := he
    refine ⟨a1, fun k hk => ?_, ih a3 fun q hq => h2 q (List.mem_cons_of_mem _ hq)⟩
    rcases List.mem_append.mp hk with z | z
    · exact a2 k z
    · rw [List.mem_singleton.mp z]
      exact h2 g List.mem_cons_self
/-- in the row of the i-th head only heads behind it stand beside its own name -/
theorem Ech.behind {hs : List (Nm × Row)} (he : Ech hs) {i j : Nat} {g h : Nm × Row} (hg : hs[i]? = some g) (hh : hs[j]? = some h) (hv : val g.2 h.1 ≠ 0) : i ≤ j := by
  induction hs generalizing i j with
  | nil => simp at hg
  | cons a r ih =>
    obtain ⟨a1, a2, a3⟩ := he
    cases i with
    | zero => omega
    | succ i =>
      cases j with
      | zero =>
        have e1 : a = h := by simpa using hh
        have e2 : r[i]? = some g := by simpa using hg
        exact absurd (by rw [← e1]; exact a2 g (List.mem_of_getElem? e2)) hv
      | succ j =>
        have := ih a3 (i := i) (j := j) (by simpa using hg) (by simpa using hh)
        omega
end LD
set_option maxHeartbeats 4000000
/-! LdElim2: a row and a factor times another one. -/
namespace LD
section
variable {κ : Type} [DecidableEq κ]
def stepW (m : List (κ × Rat)) (k : κ) (v : Rat) : List (κ × Rat) := if v = 0 then drop m k else put m k v
def withTimes (one other : List (κ × Rat)) (c : Rat) : List (κ × Rat) := other.foldl (fun m p => stepW m p.1 (val m p.1 + c * p.2)) one
theorem val_stepW {m : List (κ × Rat)} {k j : κ} {v : Rat} : val (stepW m k v) j = if k = j then v else val m j := by
  unfold stepW
  by_cases h : v = 0
  · rw [if_pos h, val_drop]
    by_cases e : k = j
    · rw [if_pos e, if_pos e, h]
    · rw [if_neg e, if_neg e]
  · rw [if_neg h, val_put]
theorem rowOk_stepW {m : List (κ × Rat)} {k : κ} {v : Rat} (hm : RowOk m) : RowOk (stepW m k v) := by
  unfold stepW
  by_cases h : v = 0
  · rw [if_pos h]
    exact ⟨drop_nodup hm.1, fun p hp => hm.2 p (List.mem_filter.mp hp).1⟩
  · rw [if_neg h]
    refine ⟨put_nodup hm.1, fun p hp => ?_⟩
    rcases mem_put hp with e | e
    · exact hm.2 p e
    · rw [e]; exact h
theorem keys_stepW {U : List κ} {m : List (κ × Rat)} {k : κ} {v : Rat} (hm : ∀ p ∈ m, p.1 ∈ U) (hk : k ∈ U) : ∀ p ∈ stepW m k v, p.1 ∈ U := fun p hp => by
  unfold stepW at hp
  by_cases h : v = 0
  · rw [if_pos h] at hp
    exact hm p (List.mem_filter.mp hp).1
  · rw [if_neg h] at hp
    rcases mem_put hp with e | e
    · exact hm p e
    · rw [e]; exact hk
theorem len_stepW {m : List (κ × Rat)} {k : κ} {v : Rat} : (stepW m k v).length ≤ m.length + 1 := by
  unfold stepW
  split
  · exact Nat.le_succ_of_le drop_len
  · exact put_len
theorem withTimes_snoc {one other : List (κ × Rat)} {c : Rat} {p : κ × Rat} : withTimes one (other ++ [p]) c = stepW (withTimes one other c) p.1 (val (withTimes one other c) p.1 + c * p.2) := by
  unfold withTimes
  rw [List.foldl_append]
  rfl
theorem withTimes_take {one other : List (κ × Rat)} {c : Rat} {i : Nat} {p : κ × Rat} (h : other[i]? = some p) : withTimes one (other.take (i + 1)) c = stepW (withTimes one (other.take i) c) p.1 (val (withTimes one (other.take i) c) p.1 + c * p.2) := by
  rw [List.take_add_one, h]
  exact withTimes_snoc
theorem withTimes_ok {one other : List (κ × Rat)} {c : Rat} (h : RowOk one) : RowOk (withTimes one other c) := by
  unfold withTimes
  induction other generalizing one with
  | nil => exact h
  | cons p r ih => exact ih (rowOk_stepW h)
theorem withTimes_keys {U : List κ} {one other : List (κ × Rat)} {c : Rat} (h : ∀ p ∈ one, p.1 ∈ U) (h2 : ∀ p ∈ other, p.1 ∈ U) : ∀ p ∈ withTimes one other c, p.1 ∈ U := by
  unfold withTimes
  induction other generalizing one with
  | nil => exact h
  | cons p r ih => exact ih (keys_stepW h (h2 p List.mem_cons_self)) fun q hq => h2 q (List.mem_cons_of_mem _ hq)
theorem withTimes_len {one other : List (κ × Rat)} {c : Rat} : (withTimes one other c).length ≤ one.length + other.length := by
  unfold withTimes
  induction other generalizing one with
  | nil => simp
  | cons p r ih =>
    have h1 := ih (one := stepW one p.1 (val one p.1 + c * p.2))
    have h2 := len_stepW (m := one) (k := p.1) (v := val one p.1 + c * p.2)
    simp only [List.foldl_cons, List.length_cons] at h1 ⊢
    omega
theorem withTimes_val {one other : List (κ × Rat)} {c : Rat} (hn : (other.map (·.1)).Nodup) (k : κ) : val (withTimes one other c) k = val one k + c * val other k := by
  unfold withTimes
  induction other generalizing one with
  | nil => rw [val_nil]; simp; grind
  | cons p r ih =>
    rw [List.map_cons, List.nodup_cons] at hn
    rw [List.foldl_cons, ih hn.2, val_stepW, val_cons]
    by_cases h : p.1 = k
    · rw [if_pos h, if_pos h]
      have : val r k = 0 := val_of_not (by rw [← h]; exact hn.1)
      rw [this, h]; grind
    · rw [if_neg h, if_neg h]
/-- a name that does not come twice still has its first value -/
theorem withTimes_at {one other : List (κ × Rat)} {c : Rat} (hn : (other.map (·.1)).Nodup) {i : Nat} {p : κ × Rat} (h : other[i]? = some p) : val (withTimes one (other.take i) c) p.1 = val one p.1 := by
  have hs : ((other.take i).map (·.1)).Nodup := List.Nodup.sublist (List.Sublist.map _ (List.take_sublist _ _)) hn
  rw [withTimes_val hs]
  have : val (other.take i) p.1 = 0 := by
    refine val_of_not fun hm => ?_
    obtain ⟨q, hq, e⟩ := List.mem_map.mp hm
    obtain ⟨j, hj⟩ := List.getElem?_of_mem hq
    have hlt : j < (other.take i).length := (List.getElem?_eq_some_iff.mp hj).1
    rw [List.length_take] at hlt
    rw [List.getElem?_take, if_pos (by omega)] at hj
    have e1 : (other.map (·.1))[j]? = some q.1 := by rw [List.getElem?_map, hj]; rfl
    have e2 : (other.map (·.1))[i]? = some p.1 := by rw [List.getElem?_map, h]; rfl
    have hi : i < (other.map (·.1)).length := (List.getElem?_eq_some_iff.mp e2).1
    have e3 := (List.getElem?_inj (by omega : j < (other.map (·.1)).length) hn).mp (e1.trans (by rw [e2, e]))
    omega
  rw [this]; grind
/-- without noughts -/
def noughtless (m : List (κ × Rat)) : List (κ × Rat) := m.filter fun p => decide (p.2 ≠ 0)
theorem noughtless_ok {m : List (κ × Rat)} (h : (m.map (·.1)).Nodup) : RowOk (noughtless m) :=
  ⟨List.Nodup.sublist (List.Sublist.map _ List.filter_sublist) h, fun p hp => of_decide_eq_true (List.mem_filter.mp hp).2⟩
theorem noughtless_val {m : List (κ × Rat)} (h : (m.map (·.1)).Nodup) (k : κ) : val (noughtless m) k = val m k := by
  induction m with
  | nil => rfl
  | cons p m ih =>
    rw [List.map_cons, List.nodup_cons] at h
    unfold noughtless at ih ⊢
    by_cases z : p.2 = 0
    · rw [List.filter_cons, if_neg (by simp [z]), ih h.2, val_cons]
      by_cases e : p.1 = k
      · rw [if_pos e, z]
        exact val_of_not (by rw [← e]; exact h.1)
      · rw [if_neg e]
    · rw [List.filter_cons, if_pos (by simp [z]), val_cons, val_cons, ih h.2]
end
end LD
set_option maxRecDepth 100000
set_option maxHeartbeats 4000000
/-! LdOwn: what is owned (it changes), and what is read of it. -/
namespace LD
open PySem PyProof.Rows L2
/-! ## readings over one heap -/
def Gh (te : TE) (σ : L2.St) (B H : Hp) (T : Ty) : Prop := ∀ Q : VK, Post B H T Q → te σ H Q
def GhT (tt : TT) (σ : L2.St) (B H : Hp) (b : Bool) : Prop := ∀ Q : Bool → Hp → Prop, (∀ B' H', Gr B H B' H' → Q b H') → tt σ H Q
section
variable {σ : L2.St} {B H : Hp} {T A C : Ty} {te ta tb : TE} {t : TT} {D : Ends} {tu tw tz : TS}
theorem Gv.h (g : Gv te σ B T) (s : Same B H) : Gh te σ B H T := g H s
theorem GvT.h {b : Bool} (g : GvT t σ B b) (s : Same B H) : GhT t σ B H b := g H s
theorem Gh.imp (g : Gh te σ B H A) (k : ∀ v B1, Same B B1 → A.p v B1 → C.p v B1) : Gh te σ B H C := fun Q q => g Q fun v B2 H2 g2 hv => q v B2 H2 g2 (k v B2 g2.bs hv)
theorem ht_ret (h : Gh te σ B H T) (k : Post B H T D.rt) : tRet te D σ H := h _ k
theorem ht_set {i : Nat} (h : Gh te σ B H T) (k : ∀ v B1 H1, Gr B H B1 H1 → T.p v B1 → D.nx (σ.set i (some v)) H1) : tAsg te (gName i) D σ H := h _ k
theorem hq_set {i : Nat} (h : Gh te σ B H T) (k : ∀ v B1 H1, Gr B H B1 H1 → T.p v B1 → tz D (σ.set i (some v)) H1) : tSeq (tAsg te (gName i)) tz D σ H := h _ k
theorem ht_if {b : Bool} (h : GhT t σ B H b) (h1 : b = true → ∀ B1 H1, Gr B H B1 H1 → tu D σ H1) (h2 : b = false → ∀ B1 H1, Gr B H B1 H1 → tw D σ H1) : tIfS t tu tw D σ H := h _ fun B1 H1 g => by
  cases b with
  | true =>
    show tu D σ H1
    exact h1 rfl B1 H1 g
  | false =>
    show tw D σ H1
    exact h2 rfl B1 H1 g
theorem hq_if {b : Bool} (h : GhT t σ B H b) (h1 : b = true → ∀ B1 H1, Gr B H B1 H1 → tu { D with nx := tz D } σ H1) (h2 : b = false → ∀ B1 H1, Gr B H B1 H1 → tw { D with nx := tz D } σ H1) : tSeq (tIfS t tu tw) tz D σ H := ht_if (D := { D with nx := tz D }) h h1 h2
theorem hq_if0 (h : GhT t σ B H false) (k : ∀ B1 H1, Gr B H B1 H1 → tz D σ H1) : tSeq (tIfS t tu tNext) tz D σ H := hq_if h (fun e => nomatch e) fun _ B1 H1 g => k B1 H1 g
theorem hq_drop (h : Gh te σ B H T) (k : ∀ v B1 H1, Gr B H B1 H1 → T.p v B1 → tz D σ H1) : tSeq (tDrop te) tz D σ H := h _ k
end
/-! ## one object taken from a base -/
def del (B : Hp) (d : Addr) : Hp := fun a => if a = d then none else B a
theorem del_same {B : Hp} {d : Addr} : del B d d = none := if_pos rfl
theorem del_ne {B : Hp} {d a : Addr} (h : a ≠ d) : del B d a = B a := if_neg h
theorem del_sub {B : Hp} {d : Addr} : Same (del B d) B := fun a o e => by
  by_cases h : a = d
  · subst h; rw [del_same] at e; cases e
  · rw [del_ne h] at e; exact e
/-- d is lent to the base and taken again -/
theorem Gr.del {B H B1 H1 : Hp} {d : Addr} {o : HO} (g : Gr (upd B d o) H B1 H1) (h : B d = none) : Gr B H (del B1 d) H1 :=
  ⟨fun a u e => by
    have ne : a ≠ d := ne_of_none e h
    rw [del_ne ne]
    exact g.bs a u (by rw [upd_ne ne]; exact e), g.hs, del_sub.trans g.in_, fun a e => by
    by_cases z : a = d
    · subst z; rw [del_same] at e; exact absurd rfl e
    · rw [del_ne z] at e
      have k := g.nw a e
      rw [upd_ne z] at k
      exact k⟩
/-- nothing of T is the object at d -/
def Rm (o : HO) (T : Ty) : Prop := ∀ v B d, B d = some o → T.p v B → T.p v (del B d)
theorem rm_x {o : HO} {x : V} : Rm o (yX x) := fun _ _ _ _ h => h
theorem rm_all {o : HO} {d : Addr} {B : Hp} (hd : B d = some o) : ∀ {ts : List Ty} {vs : List V}, (∀ t ∈ ts, Rm o t) → All ts vs B → All ts vs (del B d)
  | [], [], _, _ => trivial
  | t :: ts, v :: vs, ht, h => ⟨ht t List.mem_cons_self v B d hd h.1, rm_all hd (fun t' h' => ht t' (List.mem_cons_of_mem _ h')) h.2⟩
  | [], _ :: _, _, h => h.elim
  | _ :: _, [], _, h => h.elim
def NTu (o : HO) : Prop := ∀ xs, o ≠ .tup xs
def NLs (o : HO) : Prop := ∀ xs, o ≠ .lst xs
theorem rm_t {o : HO} {ts : List Ty} (n : NTu o) (ht : ∀ t ∈ ts, Rm o t) : Rm o (yT ts) := fun v B d hd ⟨a, vs, e, h, k⟩ => ⟨a, vs, e, by rw [del_ne (ne_of h hd (fun z => n _ z.symm))]; exact h, rm_all hd ht k⟩
theorem rm_l {o : HO} {ts : List Ty} (n : NLs o) (ht : ∀ t ∈ ts, Rm o t) : Rm o (yL ts) := fun v B d hd ⟨a, vs, e, h, k⟩ => ⟨a, vs, e, by rw [del_ne (ne_of h hd (fun z => n _ z.symm))]; exact h, rm_all hd ht k⟩
theorem rm_is {o : HO} {ns : List Int} (n : NTu o) : Rm o (yIs ns) := rm_t n fun t ht => by
  obtain ⟨m, _, rfl⟩ := List.mem_map.mp ht
  exact rm_x
theorem rm_fs {o : HO} {r : Rat} (n : NTu o) : Rm o (yT [yI r.num, yI r.den]) := rm_t n fun t ht => by
  simp only [List.mem_cons, List.not_mem_nil, or_false] at ht
  rcases ht with rfl | rfl <;> exact rm_x
theorem rm_f {K : PySem.W.Frag} {o : HO} {r : Rat} (n : NTu o) (nf : ∀ od u, o ≠ .frz od u) : Rm o (yF K r) := fun v B d hd ⟨a, e, h⟩ => ⟨a, e, by
  rcases h with (h | ⟨o2, h⟩) | h
  · exact .inl (.inl (by rw [del_ne (ne_of h hd (fun z => n _ z.symm))]; exact h))
  · refine .inl (.inr ⟨o2, ?_⟩)
    rw [del_ne (ne_of h hd (fun z => nf _ _ z.symm))]
    exact h
  · exact .inr h⟩
/-! ## owned objects -/
structure OT where
  p : HO → Hp → Prop
  m : ∀ {o : HO} {H H' : Hp}, Same H H' → p o H → p o H'
  nt : ∀ {o : HO} {H : Hp}, p o H → NTu o
def oL (ts : List Ty) : OT := ⟨fun o H => ∃ xs, o = .lst xs ∧ All ts xs H, fun s ⟨xs, e, k⟩ => ⟨xs, e, k.m s⟩, fun ⟨xs, e, k⟩ ys z => by subst e; cases z⟩
def oT (m : List (List Int × Ty)) : OT := ⟨fun o H => ∃ kvs, o = .dT kvs ∧ DAll m kvs H, fun s ⟨xs, e, k⟩ => ⟨xs, e, k.m s⟩, fun ⟨xs, e, k⟩ ys z => by subst e; cases z⟩
def oI (m : List (Int × Ty)) : OT := ⟨fun o H => ∃ kvs, o = .dK kvs ∧ DAllI m kvs H, fun s ⟨xs, e, k⟩ => ⟨xs, e, k.m s⟩, fun ⟨xs, e, k⟩ ys z => by subst e; cases z⟩
/-- published -/
def OT.ty (R : OT) : Ty := ⟨fun v H => ∃ a o, v = .ref a ∧ H a = some o ∧ R.p o H, fun s ⟨a, o, e, h, k⟩ => ⟨a, o, e, s _ _ h, R.m s k⟩⟩
theorem oL_ty {ts : List Ty} {v : V} {H : Hp} (h : (oL ts).ty.p v H) : (yL ts).p v H := by
  obtain ⟨a, o, e, h, xs, rfl, k⟩ := h
  exact ⟨a, xs, e, h, k⟩
theorem oT_ty {m : List (List Int × Ty)} {v : V} {H : Hp} (h : (oT m).ty.p v H) : (yDT m).p v H := by
  obtain ⟨a, o, e, h, xs, rfl, k⟩ := h
  exact ⟨a, xs, e, h, k⟩
theorem oI_ty {m : List (Int × Ty)} {v : V} {H : Hp} (h : (oI m).ty.p v H) : (yDI m).p v H := by
  obtain ⟨a, o, e, h, xs, rfl, k⟩ := h
  exact ⟨a, xs, e, h, k⟩
structure Ow (d : Addr) (R : OT) (B H : Hp) : Prop where
  nb : B d = none
  ex : ∃ o, H d = some o ∧ R.p o B
section
variable {d e : Addr} {R S : OT} {B H B0 H0 B1 H1 : Hp} {o : HO}
theorem Ow.m (w : Ow d R B H) (g : Gr B H B1 H1) : Ow d R B1 H1 := by
  obtain ⟨o, h, k⟩ := w.ex
  exact ⟨g.ob h w.nb (R.nt k), o, g.hs _ _ h, R.m g.bs k⟩
theorem Ow.there (w : Ow d R B H) : H d ≠ none := by
  obtain ⟨o, h, k⟩ := w.ex
  rw [h]; exact fun z => nomatch z
/-- one that was not there is another one -/
theorem Ow.ne (w : Ow d R B H) (h : H e = none) : d ≠ e := fun z => w.there (z ▸ h)
/-- laid and owned -/
theorem Ow.new (s : Same B H) (h : H d = none) (k : R.p o B) : Ow d R B (upd H d o) := ⟨s.free h, o, upd_same, k⟩
/-- it changes -/
theorem Ow.put (w : Ow d R B H) (k : S.p o B) : Ow d S B (upd H d o) := ⟨w.nb, o, upd_same, k⟩
/-- another one changes -/
theorem Ow.else (w : Ow d R B H) (h : d ≠ e) : Ow d R B (upd H e o) := by
  obtain ⟨u, h1, k⟩ := w.ex
  exact ⟨w.nb, u, by rw [upd_ne h]; exact h1, k⟩
theorem Ow.same (w : Ow d R B H) (s : Same B H) : Same B (upd H d o) := same_mut s w.nb
theorem Gr.put (g : Gr B0 H0 B H) (w : Ow d R B H) (n : H0 d = none) : Gr B0 H0 B (upd H d o) := g.mut n w.nb
/-- published at last -/
theorem Ow.pub (w : Ow d R B H) (g : Gr B0 H0 B H) (n : H0 d = none) : ∃ B1, Gr B0 H0 B1 H ∧ Same B B1 ∧ R.ty.p (.ref d) B1 := by
  obtain ⟨o, h, k⟩ := w.ex
  exact ⟨_, g.pub h n w.nb, same_new w.nb, d, o, rfl, upd_same, R.m (same_new w.nb) k⟩
/-- lent to the base -/
theorem Ow.lend (w : Ow d R B H) (s : Same B H) : ∃ o, H d = some o ∧ R.p o B ∧ Same B (upd B d o) ∧ Same (upd B d o) H ∧ R.ty.p (.ref d) (upd B d o) := by
  obtain ⟨o, h, k⟩ := w.ex
  refine ⟨o, h, k, same_new w.nb, fun a u e => ?_, d, o, rfl, upd_same, R.m (same_new w.nb) k⟩
  by_cases z : a = d
  · subst z; rw [upd_same] at e; rw [h, e]
  · rw [upd_ne z] at e; exact s _ _ e
/-- nothing of T is an object of R -/
def RmK (R : OT) (T : Ty) : Prop := ∀ o H, R.p o H → Rm o T
theorem rk_x {x : V} : RmK R (yX x) := fun _ _ _ => rm_x
theorem rk_is {ns : List Int} : RmK R (yIs ns) := fun _ _ h => rm_is (R.nt h)
theorem rk_fs {r : Rat} : RmK R (yT [yI r.num, yI r.den]) := fun _ _ h => rm_fs (R.nt h)
theorem rk_t {ts : List Ty} (h : ∀ t ∈ ts, RmK R t) : RmK R (yT ts) := fun o H k => rm_t (R.nt k) fun t ht => h t ht o H k
theorem rk_l {ts : List Ty} (n : ∀ o H, R.p o H → NLs o) (h : ∀ t ∈ ts, RmK R t) : RmK R (yL ts) := fun o H k => rm_l (n o H k) fun t ht => h t ht o H k
theorem nl_T {m : List (List Int × Ty)} : ∀ o H, (oT m).p o H → NLs o := fun o H ⟨_, e, _⟩ ys z => by subst e; cases z
theorem nl_I {m : List (Int × Ty)} : ∀ o H, (oI m).p o H → NLs o := fun o H ⟨_, e, _⟩ ys z => by subst e; cases z
theorem rk_fL {K : PySem.W.Frag} {ts : List Ty} {r : Rat} : RmK (oL ts) (yF K r) := fun o H ⟨_, e, _⟩ => by subst e; exact rm_f (fun _ z => nomatch z) (fun _ _ z => nomatch z)
theorem rk_fT {K : PySem.W.Frag} {m : List (List Int × Ty)} {r : Rat} : RmK (oT m) (yF K r) := fun o H ⟨_, e, _⟩ => by subst e; exact rm_f (fun _ z => nomatch z) (fun _ _ z => nomatch z)
theorem rk_fI {K : PySem.W.Frag} {m : List (Int × Ty)} {r : Rat} : RmK (oI m) (yF K r) := fun o H ⟨_, e, _⟩ => by subst e; exact rm_f (fun _ z => nomatch z) (fun _ _ z => nomatch z)
theorem Gh.own {σ : L2.St} {te : TE} {T : Ty} (w : Ow d R B H) (s : Same B H) (rm : RmK R T) (h : ∀ B1, Same B B1 → Same B1 H → R.ty.p (.ref d) B1 → Gv te σ B1 T) : Gh te σ B H T := fun Q q => by
  obtain ⟨o, h1, h2, h3, h4, h5⟩ := w.lend s
  exact h _ h3 h4 h5 H h4 Q fun v B2 H2 g hv => q v _ _ (g.del w.nb) (rm o B h2 v B2 d (g.bs _ _ upd_same) hv)
theorem GhT.own {σ : L2.St} {tt : TT} {b : Bool} (w : Ow d R B H) (s : Same B H) (h : ∀ B1, Same B B1 → Same B1 H → R.ty.p (.ref d) B1 → GvT tt σ B1 b) : GhT tt σ B H b := fun Q q => by
  obtain ⟨o, h1, h2, h3, h4, h5⟩ := w.lend s
  exact h _ h3 h4 h5 H h4 Q fun B2 H2 g => q _ _ (g.del w.nb)
theorem Ow.lift (w : Ow d R B H) (w2 : Ow e S B H) (ne : d ≠ e) (h : H d = some o) (s3 : Same B (upd B d o)) : Ow e S (upd B d o) H := by
  obtain ⟨o2, k1, k2⟩ := w2.ex
  exact ⟨by rw [upd_ne (Ne.symm ne)]; exact w2.nb, o2, k1, S.m s3 k2⟩
/-- two of them -/
theorem Gh.own2 {σ : L2.St} {te : TE} {T : Ty} (w : Ow d R B H) (w2 : Ow e S B H) (ne : d ≠ e) (s : Same B H) (rm : RmK R T) (rm2 : RmK S T) (h : ∀ B1, Same B B1 → Same B1 H → R.ty.p (.ref d) B1 → S.ty.p (.ref e) B1 → Gv te σ B1 T) : Gh te σ B H T := fun Q q => by
  obtain ⟨o, h1, h2, h3, h4, h5⟩ := w.lend s
  exact Gh.own (w.lift w2 ne h1 h3) h4 rm2 (fun B1 s1 s2 t => h B1 (h3.trans s1) s2 (R.ty.m s1 h5) t) Q fun v B2 H2 g hv => q v _ _ (g.del w.nb) (rm o B h2 v B2 d (g.bs _ _ upd_same) hv)
theorem GhT.own2 {σ : L2.St} {tt : TT} {b : Bool} (w : Ow d R B H) (w2 : Ow e S B H) (ne : d ≠ e) (s : Same B H) (h : ∀ B1, Same B B1 → Same B1 H → R.ty.p (.ref d) B1 → S.ty.p (.ref e) B1 → GvT tt σ B1 b) : GhT tt σ B H b := fun Q q => by
  obtain ⟨o, h1, h2, h3, h4, h5⟩ := w.lend s
  exact GhT.own (w.lift w2 ne h1 h3) h4 (fun B1 s1 s2 t => h B1 (h3.trans s1) s2 (R.ty.m s1 h5) t) Q fun B2 H2 g => q _ _ (g.del w.nb)
end
/-! ## statements on what is owned -/
section
variable {σ : L2.St} {d : Addr} {B H : Hp} {T A C : Ty} {te ta ty td : TE} {D : Ends} {tz : TS} {ts : List Ty} {m : List (List Int × Ty)} {mi : List (Int × Ty)} {K : PySem.W.Frag}
/-- a new list, owned -/
theorem hq_newL {i : Nat} {tr : TA} (s : Same B H) (h : GvA tr σ B ts) (hl : ts.length ≤ 100000) (k : ∀ d B1 H1, Gr B H B1 H1 → B1 d = none → H d = none → Ow d (oL ts) B1 H1 → tz D (σ.set i (some (.ref d))) H1) : tSeq (tAsg (tLst tr) (gName i)) tz D σ H := h H s _ fun vs B2 H2 g hvs =>
  ⟨size_1000 (by rw [hvs.len]; exact hl), fun p hp => k p B2 _ (g.trans (Gr.own g.in_ hp)) (g.nb hp) (g.hs.free hp) (Ow.new g.in_ hp ⟨vs, rfl, hvs⟩)⟩
theorem hq_newI {i : Nat} (s : Same B H) (k : ∀ d H1, Gr B H B H1 → H d = none → Ow d (oI []) B H1 → tz D (σ.set i (some (.ref d))) H1) : tSeq (tAsg tDNewK (gName i)) tz D σ H := fun p hp => k p _ (Gr.own s hp) hp (Ow.new s hp ⟨[], rfl, trivial⟩)
theorem hq_newT {i : Nat} (s : Same B H) (k : ∀ d H1, Gr B H B H1 → H d = none → Ow d (oT []) B H1 → tz D (σ.set i (some (.ref d))) H1) : tSeq (tAsg tDNewT (gName i)) tz D σ H := fun p hp => k p _ (Gr.own s hp) hp (Ow.new s hp ⟨[], rfl, trivial⟩)
/-- a reading that gives what is owned at d -/
def Is (td : TE) (σ : L2.St) (B H : Hp) (d : Addr) : Prop := ∀ B1 H1, Gr B H B1 H1 → ∀ Q : VK, Q (.ref d) H1 → td σ H1 Q
theorem is_var {i : Nat} (h : σ[i]? = some (some (.ref d))) : Is (tVar i) σ B H d := fun B1 H1 g Q q => ⟨_, h, q⟩
theorem ty_lst {K : PySem.W.Frag} {d : Addr} {H : Hp} {xs : List V} (h : H d = some (.lst xs)) : tyV K "list" (.ref d) H := by
  exact .inl ⟨rfl, _, SqL.of h⟩
theorem ty_dT {K : PySem.W.Frag} {d : Addr} {H : Hp} {xs : List (List L2.Key × V)} (h : H d = some (.dT xs)) : tyV K "dict" (.ref d) H := .inr (.inr (.inl ⟨rfl, .inr ⟨_, h⟩⟩))
theorem valV_no {κ : Type} [DecidableEq κ] {kvs : List (κ × V)} {k : κ} (h : valV kvs k = none) : k ∉ kvs.map (·.1) := by
  induction kvs with
  | nil => simp
  | cons p r ih =>
    by_cases e : p.1 = k
    · rw [valV_pos e] at h; cases h
    · rw [valV_neg e] at h
      rw [List.map_cons, List.mem_cons, not_or]
      exact ⟨fun z => e z.symm, ih h⟩
theorem ht_app (hd : Is td σ B H d) (w : Ow d (oL ts) B H) (s : Same B H) (hl : ts.length < 100000) (h : Gh te σ B H T) (k : ∀ B1 H1 o, Gr B H B1 H1 → Ow d (oL (ts ++ [T])) B1 (upd H1 d o) → D.nx σ (upd H1 d o)) : tDrop (tBM K "list" rAppend td (tCons te tNil)) D σ H := by
  refine hd B H (Gr.refl s) _ ⟨?_, h _ fun v B1 H1 g hv => ?_⟩
  · obtain ⟨o, h1, xs, rfl, h2⟩ := w.ex
    exact ty_lst h1
  · obtain ⟨o, h1, xs, rfl, h2⟩ := (w.m g).ex
    refine ⟨d, xs, v, rfl, rfl, h1, ?_, k B1 H1 _ g ((w.m g).put ⟨_, rfl, All.append (us := [T]) (ws := [v]) ⟨hv, trivial⟩ h2⟩)⟩
    rw [h2.len]
    exact size_lt hl
theorem hq_app (hd : Is td σ B H d) (w : Ow d (oL ts) B H) (s : Same B H) (hl : ts.length < 100000) (h : Gh te σ B H T) (k : ∀ B1 H1 o, Gr B H B1 H1 → Ow d (oL (ts ++ [T])) B1 (upd H1 d o) → tz D σ (upd H1 d o)) : tSeq (tDrop (tBM K "list" rAppend td (tCons te tNil))) tz D σ H := ht_app (D := { D with nx := tz D }) hd w s hl h k
theorem ht_ext {us : List Ty} (hd : Is td σ B H d) (w : Ow d (oL ts) B H) (s : Same B H) (hl : ts.length + us.length < 100000) (h : Gh te σ B H (yL us)) (k : ∀ B1 H1 o, Gr B H B1 H1 → Ow d (oL (ts ++ us)) B1 (upd H1 d o) → D.nx σ (upd H1 d o)) : tDrop (tBM K "list" rExtend td (tCons te tNil)) D σ H := by
  refine hd B H (Gr.refl s) _ ⟨?_, h _ fun v B1 H1 g hv => ?_⟩
  · obtain ⟨o, h1, xs, rfl, h2⟩ := w.ex
    exact ty_lst h1
  · obtain ⟨o, h1, xs, rfl, h2⟩ := (w.m g).ex
    obtain ⟨a, zs, rfl, h3, h4⟩ := hv
    refine ⟨d, a, xs, zs, rfl, rfl, h1, g.in_ _ _ h3, ?_, k B1 H1 _ g ((w.m g).put ⟨_, rfl, All.append h4 h2⟩)⟩
    rw [h2.len, h4.len]
    exact size_1000 (by omega)
theorem all_last {H : Hp} : ∀ {ts : List Ty} {vs : List V}, All (ts ++ [T]) vs H → ∃ ws v, vs = ws ++ [v] ∧ All ts ws H ∧ T.p v H
  | [], [v], h => ⟨[], v, rfl, trivial, h.1⟩
  | [], [], h => h.elim
  | [], _ :: _ :: _, h => h.2.elim
  | t :: ts, v :: vs, h => by
    obtain ⟨ws, u, e, h1, h2⟩ := all_last h.2
    exact ⟨v :: ws, u, by rw [e]; rfl, ⟨h.1, h1⟩, h2⟩
  | _ :: _, [], h => h.elim
/-- goal = x.pop() -/
theorem ht_pop {i : Nat} (hd : Is td σ B H d) (w : Ow d (oL (ts ++ [T])) B H) (s : Same B H) (k : ∀ v o, T.p v B → Ow d (oL ts) B (upd H d o) → D.nx (σ.set i (some v)) (upd H d o)) : tAsg (tBM0 K "list" rPop td) (gName i) D σ H := by
  obtain ⟨o, h1, xs, rfl, h2⟩ := w.ex
  obtain ⟨ws, v, rfl, h3, h4⟩ := all_last h2
  refine hd B H (Gr.refl s) _ ⟨ty_lst h1, d, _, v, rfl, rfl, h1, by simp, ?_⟩
  rw [List.dropLast_concat]
  exact k v _ h4 (w.put ⟨_, rfl, h3⟩)
theorem hq_pop {i : Nat} (hd : Is td σ B H d) (w : Ow d (oL (ts ++ [T])) B H) (s : Same B H) (k : ∀ v o, T.p v B → Ow d (oL ts) B (upd H d o) → tz D (σ.set i (some v)) (upd H d o)) : tSeq (tAsg (tBM0 K "list" rPop td) (gName i)) tz D σ H := ht_pop (D := { D with nx := tz D }) hd w s k
theorem ht_dputT {ks : List Int} (hd : Is td σ B H d) (w : Ow d (oT m) B H) (s : Same B H) (hn : (m.map (·.1)).Nodup) (hl : m.length < 100000) (h : Gh te σ B H T) (hy : Gv ty σ B (yIs ks)) (k : ∀ B1 H1 o, Gr B H B1 H1 → Ow d (oT (put m ks T)) B1 (upd H1 d o) → D.nx σ (upd H1 d o)) : sDPut td ty te D σ H := by
  refine h _ fun v B1 H1 g hv => hd B1 H1 g _ ((hy.m g.bs) H1 g.in_ _ fun y B2 H2 g2 hk => ?_)
  have gg := g.trans g2
  obtain ⟨o, h1, kvs, rfl, h2⟩ := (w.m gg).ex
  obtain ⟨b, rfl, hb⟩ := key_of_is hk
  refine ⟨d, _, rfl, DPut.t h1 (g2.in_ _ _ hb) (by rw [h2.len]; exact size_lt hl), k B2 H2 _ gg ((w.m gg).put ⟨_, rfl, DAll.put (T.m g2.bs hv) ks hn h2⟩)⟩
theorem hq_dputT {ks : List Int} (hd : Is td σ B H d) (w : Ow d (oT m) B H) (s : Same B H) (hn : (m.map (·.1)).Nodup) (hl : m.length < 100000) (h : Gh te σ B H T) (hy : Gv ty σ B (yIs ks)) (k : ∀ B1 H1 o, Gr B H B1 H1 → Ow d (oT (put m ks T)) B1 (upd H1 d o) → tz D σ (upd H1 d o)) : tSeq (sDPut td ty te) tz D σ H := ht_dputT (D := { D with nx := tz D }) hd w s hn hl h hy k
theorem ht_dputI {ki : Int} (hd : Is td σ B H d) (w : Ow d (oI mi) B H) (s : Same B H) (hn : (mi.map (·.1)).Nodup) (hl : mi.length < 100000) (h : Gh te σ B H T) (hy : Gv ty σ B (yI ki)) (k : ∀ B1 H1 o, Gr B H B1 H1 → Ow d (oI (put mi ki T)) B1 (upd H1 d o) → D.nx σ (upd H1 d o)) : sDPut td ty te D σ H := by
  refine h _ fun v B1 H1 g hv => hd B1 H1 g _ ((hy.m g.bs) H1 g.in_ _ fun y B2 H2 g2 hk => ?_)
  have gg := g.trans g2
  obtain ⟨o, h1, kvs, rfl, h2⟩ := (w.m gg).ex
  obtain rfl : y = .int ki := hk
  refine ⟨d, _, rfl, DPut.k (k := Sum.inl ki) h1 (by rw [h2.len]; exact size_lt hl), k B2 H2 _ gg ((w.m gg).put ⟨_, rfl, DAllI.put (T.m g2.bs hv) ki hn h2⟩)⟩
theorem hq_dputI {ki : Int} (hd : Is td σ B H d) (w : Ow d (oI mi) B H) (s : Same B H) (hn : (mi.map (·.1)).Nodup) (hl : mi.length < 100000) (h : Gh te σ B H T) (hy : Gv ty σ B (yI ki)) (k : ∀ B1 H1 o, Gr B H B1 H1 → Ow d (oI (put mi ki T)) B1 (upd H1 d o) → tz D σ (upd H1 d o)) : tSeq (sDPut td ty te) tz D σ H := ht_dputI (D := { D with nx := tz D }) hd w s hn hl h hy k
theorem upd_self {H : Hp} {d : Addr} {o : HO} (h : H d = some o) : upd H d o = H := by
  funext a
  by_cases z : a = d
  · subst z; rw [upd_same, h]
  · rw [upd_ne z]
/-- x.pop(k, None) -/
theorem ht_dropT {ks : List Int} {v0 : V} (hd : Is td σ B H d) (w : Ow d (oT m) B H) (s : Same B H) (hy : Gv ty σ B (yIs ks)) (k : ∀ B1 H1 o, Gr B H B1 H1 → Ow d (oT (drop m ks)) B1 (upd H1 d o) → D.nx σ (upd H1 d o)) : tDrop (tBM K "dict" DX.rPopT td (tCons ty (tCons (tC v0) tNil))) D σ H := by
  refine hd B H (Gr.refl s) _ ⟨?_, hy H s _ fun y B2 H2 g hk => ?_⟩
  · obtain ⟨o, h1, kvs, rfl, h2⟩ := w.ex
    exact ty_dT h1
  · obtain ⟨o, h1, kvs, rfl, h2⟩ := (w.m g).ex
    obtain ⟨b, rfl, hb⟩ := key_of_is hk
    have k2 := k B2 H2 _ g ((w.m g).put ⟨_, rfl, DAll.drop ks h2⟩)
    refine ⟨d, kvs, keyL ks, b, v0, rfl, rfl, h1, g.in_ _ _ hb, fun v hv => k2, fun hn => ?_⟩
    have e : dropK kvs (keyL ks) = kvs := by
      refine dropK_no fun hm => ?_
      obtain ⟨p, hp, e⟩ := List.mem_map.mp hm
      have := valV_no hn
      exact this (List.mem_map.mpr ⟨p, hp, e⟩)
    rw [e, upd_self h1] at k2
    exact k2
theorem ht_dropI {ki : Int} {v0 : V} (hd : Is td σ B H d) (w : Ow d (oI mi) B H) (s : Same B H) (hy : Gv ty σ B (yI ki)) (k : ∀ B1 H1 o, Gr B H B1 H1 → Ow d (oI (drop mi ki)) B1 (upd H1 d o) → D.nx σ (upd H1 d o)) : tDrop (tDPop2 td ty (tC v0)) D σ H := by
  refine hd B H (Gr.refl s) _ ⟨d, rfl, ?_, hy H s _ fun y B2 H2 g hk => ?_⟩
  · obtain ⟨o, h1, kvs, rfl, h2⟩ := w.ex
    exact .inl ⟨_, .inl h1⟩
  · obtain ⟨o, h1, kvs, rfl, h2⟩ := (w.m g).ex
    obtain rfl : y = .int ki := hk
    have k2 := k B2 H2 _ g ((w.m g).put ⟨_, rfl, DAllI.drop ki h2⟩)
    refine ⟨kvs, Sum.inl ki, h1, rfl, fun v hv => k2, fun hn => ?_⟩
    have e : dropK kvs (Sum.inl ki) = kvs := by
      refine dropK_no fun hm => ?_
      have := valV_no hn
      exact this hm
    rw [e, upd_self h1] at k2
    exact k2
end
/-! ## a loop over a dict, which is locked meanwhile -/
def lockD (D : Ends) (d : Addr) (od : Obj) (u : HO) : Ends := ⟨fun σ' H' => H' d = some (.frz od u) ∧ D.nx σ' (upd H' d u), fun v H' => H' d = some (.frz od u) ∧ D.rt v (upd H' d u), fun σ' H' => H' d = some (.frz od u) ∧ D.bk σ' (upd H' d u), fun σ' H' => H' d = some (.frz od u) ∧ D.ct σ' (upd H' d u)⟩
section
variable {σ : L2.St} {d : Addr} {B H : Hp} {te : TE} {D : Ends} {g : TG} {tu : TS} {m : List (List Int × Ty)} {mi : List (Int × Ty)}
theorem ht_keysT {kvs : List (List L2.Key × V)} (s : Same B H) (hd : B d = some (.dT kvs)) (ka : DAll m kvs B) (fz : ∀ p ∈ m, Frz p.2) (hv : ∀ od, Gv te σ (upd B d (.frz od (.dT kvs))) (yX (.ref d))) (Pv : Obj → Nat → L2.St → Hp → Hp → Prop)
    (h0 : ∀ od, Pv od 0 σ (upd B d (.frz od (.dT kvs))) (upd H d (.frz od (.dT kvs))))
    (hm : ∀ od B1 H1 B2 H2, Gr B1 H1 B2 H2 → Pv od 0 σ B1 H1 → Pv od 0 σ B2 H2)
    (hs : ∀ od Bs (i : Nat) x σ' B1 H1 B2 H2 p, m[i]? = some p → Same (upd B d (.frz od (.dT kvs))) Bs → Same Bs B1 → Same B1 H1 → Pv od i σ' B1 H1 → Gr B1 H1 B2 H2 → (yIs p.1).p x B2 → B2 d = some (.frz od (.dT kvs)) → DAll m kvs B2 →
      g x σ' H2 fun σ2 H3 => tu { lockD D d od (.dT kvs) with nx := Nx (Pv od) Bs (i + 1), ct := Nx (Pv od) Bs (i + 1), bk := fun σ' H' => H' d = some (.frz od (.dT kvs)) ∧ D.nx σ' (upd H' d (.dT kvs)) } σ2 H3)
    (hdn : ∀ od σ' B1 H1, Same (upd B d (.frz od (.dT kvs))) B1 → Same B1 H1 → Pv od m.length σ' B1 H1 → D.nx σ' (upd H1 d (.dT kvs))) : tLock (tFor (iKeys te) g tu) D σ H := by
  refine ⟨d, .dT kvs, s _ _ hd, trivial, fun od => ?_⟩
  have ka2 := frz_dall (od := od) hd (u := .dT kvs) trivial fz ka
  have hd2 : upd B d (.frz od (.dT kvs)) d = some (.frz od (.dT kvs)) := upd_same
  refine st_for (D := lockD D d od (.dT kvs)) (lock_same s) (gi_keys (m := m) (hv od) hd2 ka2) (Pv od) (fun B1 H1 g1 => hm od _ _ _ _ g1 (h0 od)) (fun Bs i x σ' B1 H1 B2 H2 hi s1 s2 s3 hp g2 hx => ?_) (fun σ' B1 H1 s1 s2 hp => ?_)
  · obtain ⟨p, hpm⟩ : ∃ p, m[i]? = some p := ⟨m[i], List.getElem?_eq_getElem hi⟩
    have e : (m.map (·.1)).getD i [] = p.1 := by
      rw [List.getD_eq_getElem?_getD, List.getElem?_map, hpm]
      rfl
    rw [e] at hx
    exact hs od Bs i x σ' B1 H1 B2 H2 p hpm s1 s2 s3 hp g2 hx (g2.bs _ _ (s2 _ _ (s1 _ _ hd2))) (ka2.m (s1.trans (s2.trans g2.bs)))
  · exact ⟨s2 _ _ (s1 _ _ hd2), hdn od σ' B1 H1 s1 s2 hp⟩
theorem ht_keysI {kvs : List (L2.Key × V)} (s : Same B H) (hd : B d = some (.dK kvs)) (ka : DAllI mi kvs B) (fz : ∀ p ∈ mi, Frz p.2) (hv : ∀ od, Gv te σ (upd B d (.frz od (.dK kvs))) (yX (.ref d))) (Pv : Obj → Nat → L2.St → Hp → Hp → Prop)
    (h0 : ∀ od, Pv od 0 σ (upd B d (.frz od (.dK kvs))) (upd H d (.frz od (.dK kvs))))
    (hm : ∀ od B1 H1 B2 H2, Gr B1 H1 B2 H2 → Pv od 0 σ B1 H1 → Pv od 0 σ B2 H2)
    (hs : ∀ od Bs (i : Nat) x σ' B1 H1 B2 H2 p, mi[i]? = some p → Same (upd B d (.frz od (.dK kvs))) Bs → Same Bs B1 → Same B1 H1 → Pv od i σ' B1 H1 → Gr B1 H1 B2 H2 → (yI p.1).p x B2 → B2 d = some (.frz od (.dK kvs)) → DAllI mi kvs B2 →
      g x σ' H2 fun σ2 H3 => tu { lockD D d od (.dK kvs) with nx := Nx (Pv od) Bs (i + 1), ct := Nx (Pv od) Bs (i + 1), bk := fun σ' H' => H' d = some (.frz od (.dK kvs)) ∧ D.nx σ' (upd H' d (.dK kvs)) } σ2 H3)
    (hdn : ∀ od σ' B1 H1, Same (upd B d (.frz od (.dK kvs))) B1 → Same B1 H1 → Pv od mi.length σ' B1 H1 → D.nx σ' (upd H1 d (.dK kvs))) : tLock (tFor (iKeys te) g tu) D σ H := by
  refine ⟨d, .dK kvs, s _ _ hd, trivial, fun od => ?_⟩
  have ka2 := frz_dallI (od := od) hd (u := .dK kvs) trivial fz ka
  have hd2 : upd B d (.frz od (.dK kvs)) d = some (.frz od (.dK kvs)) := upd_same
  refine st_for (D := lockD D d od (.dK kvs)) (lock_same s) (gi_keysI (m := mi) (hv od) hd2 ka2) (Pv od) (fun B1 H1 g1 => hm od _ _ _ _ g1 (h0 od)) (fun Bs i x σ' B1 H1 B2 H2 hi s1 s2 s3 hp g2 hx => ?_) (fun σ' B1 H1 s1 s2 hp => ?_)
  · obtain ⟨p, hpm⟩ : ∃ p, mi[i]? = some p := ⟨mi[i], List.getElem?_eq_getElem hi⟩
    have e : (mi.map (·.1)).getD i 0 = p.1 := by
      rw [List.getD_eq_getElem?_getD, List.getElem?_map, hpm]
      rfl
    rw [e] at hx
    exact hs od Bs i x σ' B1 H1 B2 H2 p hpm s1 s2 s3 hp g2 hx (g2.bs _ _ (s2 _ _ (s1 _ _ hd2))) (ka2.m (s1.trans (s2.trans g2.bs)))
  · exact ⟨s2 _ _ (s1 _ _ hd2), hdn od σ' B1 H1 s1 s2 hp⟩
theorem lock_gr {B1 H1 : Hp} {u : HO} {od : Obj} (g : Gr B H B1 H1) (hd : B d = some u) : Gr (upd B d (.frz od u)) (upd H d (.frz od u)) (upd B1 d (.frz od u)) (upd H1 d (.frz od u)) :=
  ⟨same_upd g.bs, same_upd g.hs, same_upd g.in_, fun a e => by
    by_cases h : a = d
    · subst h; left; rw [upd_same]; exact fun z => nomatch z
    · rw [upd_ne h] at e
      have := g.nw a e
      rw [upd_ne h, upd_ne h]
      exact this⟩
/-- what is owned, over a lock and behind it -/
theorem Ow.lock {e : Addr} {R : OT} {u : HO} {od : Obj} (w : Ow e R B H) (hd : B d = some u) (hR : ∀ o, R.p o B → R.p o (upd B d (.frz od u))) : Ow e R (upd B d (.frz od u)) (upd H d (.frz od u)) := by
  obtain ⟨o, h1, h2⟩ := w.ex
  have ne : e ≠ d := fun z => by subst z; rw [w.nb] at hd; cases hd
  exact ⟨by rw [upd_ne ne]; exact w.nb, o, by rw [upd_ne ne]; exact h1, hR o h2⟩
theorem Ow.unlock {e : Addr} {R : OT} {u : HO} {od : Obj} (w : Ow e R B H) (hd : B d = some (.frz od u)) (hR : ∀ o, R.p o B → R.p o (upd B d u)) : Ow e R (upd B d u) (upd H d u) := by
  obtain ⟨o, h1, h2⟩ := w.ex
  have ne : e ≠ d := fun z => by subst z; rw [w.nb] at hd; cases hd
  exact ⟨by rw [upd_ne ne]; exact w.nb, o, by rw [upd_ne ne]; exact h1, hR o h2⟩
end
end LD
set_option maxRecDepth 100000
set_option maxHeartbeats 4000000
/-! LdCls: instances told by types. -/
namespace LD
open PySem PyProof.Rows L2
abbrev Fs := List (Str × Ty)
def FsAt (fs : Fs) (xs : List (Str × V)) (H : Hp) : Prop := xs.map (·.1) = fs.map (·.1) ∧ All (fs.map (·.2)) (xs.map (·.2)) H
/-- an instance -/
def oO (C : Addr) (fs : Fs) : OT := ⟨fun o H => ∃ dx xs, o = .ins C dx xs ∧ FsAt fs xs H, fun s ⟨dx, xs, e, h, k⟩ => ⟨dx, xs, e, h, k.m s⟩, fun ⟨dx, xs, e, k⟩ ys z => by subst e; cases z⟩
abbrev yO (C : Addr) (fs : Fs) : Ty := (oO C fs).ty
theorem FsAt.look {H : Hp} {f : Str} {T : Ty} : ∀ {fs : Fs} {xs : List (Str × V)}, FsAt fs xs H → LD.look fs f = some T → ∃ v, xs.lookup f = some v ∧ T.p v H
  | [], xs, h, e => by simp [LD.look] at e
  | p :: fs, [], h, e => by simp [FsAt] at h
  | p :: fs, q :: xs, h, e => by
    obtain ⟨h1, h2⟩ := h
    rw [List.map_cons, List.map_cons] at h1 h2
    obtain ⟨e1, e2⟩ := List.cons.inj h1
    by_cases z : p.1 = f
    · rw [LD.look, if_pos z] at e
      cases e
      refine ⟨q.2, ?_, h2.1⟩
      rw [List.lookup_cons, e1, z, beq_self_eq_true]
    · rw [LD.look, if_neg z] at e
      obtain ⟨v, k1, k2⟩ := FsAt.look (fs := fs) (xs := xs) ⟨e2, h2.2⟩ e
      refine ⟨v, ?_, k2⟩
      have : (f == q.1) = false := beq_eq_false_iff_ne.mpr (fun y => z (by rw [← e1]; exact y.symm))
      rw [List.lookup_cons, this]
      exact k1
theorem FsAt.no {H : Hp} {f : Str} : ∀ {fs : Fs} {xs : List (Str × V)}, FsAt fs xs H → f ∉ fs.map (·.1) → xs.lookup f = none
  | [], [], h, e => rfl
  | [], _ :: _, h, e => by simp [FsAt] at h
  | p :: fs, [], h, e => by simp [FsAt] at h
  | p :: fs, q :: xs, h, e => by
    obtain ⟨h1, h2⟩ := h
    rw [List.map_cons, List.map_cons] at h1 h2
    obtain ⟨e1, e2⟩ := List.cons.inj h1
    rw [List.map_cons, List.mem_cons, not_or] at e
    have : (f == q.1) = false := beq_eq_false_iff_ne.mpr (fun y => e.1 (by rw [← e1]; exact y))
    rw [List.lookup_cons, this]
    exact FsAt.no (fs := fs) (xs := xs) ⟨e2, h2.2⟩ e.2
theorem FsAt.len {H : Hp} {fs : Fs} {xs : List (Str × V)} (h : FsAt fs xs H) : xs.length = fs.length := by
  have := congrArg List.length h.1
  simpa using this
def yAny : Ty := ⟨fun _ _ => True, fun _ h => h⟩
theorem frz_any : Frz yAny := fun _ _ _ _ _ _ _ _ => trivial
theorem unf_any : Unf yAny := fun _ _ _ _ _ _ _ _ => trivial
theorem frz_o {C : Addr} {fs : Fs} (h : ∀ p ∈ fs, Frz p.2) : Frz (yO C fs) := fun v B d od u hd hu ⟨a, o, e, ha, dx, xs, eo, k1, k2⟩ => by
  subst eo
  refine ⟨a, _, e, ?_, dx, xs, rfl, k1, frz_all hd hu (fun t ht => ?_) k2⟩
  · rw [upd_ne (ne_of ha hd (fun z => by subst z; exact hu))]; exact ha
  · obtain ⟨p, hp, rfl⟩ := List.mem_map.mp ht
    exact h p hp
/-- an instance: its fields' types may be told anew -/
theorem yO_imp {C : Addr} {fs gs : Fs} {v : V} {B : Hp} (h : (yO C fs).p v B) (k : ∀ xs, FsAt fs xs B → FsAt gs xs B) : (yO C gs).p v B := by
  obtain ⟨a, o, e, ha, dx, xs, eo, hk⟩ := h
  exact ⟨a, o, e, ha, dx, xs, eo, k xs hk⟩
theorem fs_cons {f : Str} {T : Ty} {fs : Fs} {xs : List (Str × V)} {B : Hp} (h : FsAt ((f, T) :: fs) xs B) : ∃ v r, xs = (f, v) :: r ∧ T.p v B ∧ FsAt fs r B := by
  cases xs with
  | nil => simp [FsAt] at h
  | cons q r =>
    obtain ⟨h1, h2⟩ := h
    rw [List.map_cons, List.map_cons] at h1 h2
    obtain ⟨e1, e2⟩ := List.cons.inj h1
    refine ⟨q.2, r, ?_, h2.1, e2, h2.2⟩
    rw [← (show q.1 = f from e1)]
theorem fs_of {f : Str} {T : Ty} {fs : Fs} {r : List (Str × V)} {v : V} {B : Hp} (h : T.p v B) (k : FsAt fs r B) : FsAt ((f, T) :: fs) ((f, v) :: r) B :=
  ⟨by rw [List.map_cons, List.map_cons, k.1], h, k.2⟩
theorem fs_nil {xs : List (Str × V)} {B : Hp} (h : FsAt [] xs B) : xs = [] := by
  cases xs with
  | nil => rfl
  | cons _ _ => simp [FsAt] at h
/-! targets that are tuples -/
theorem g_tup2 {K : PySem.W.Frag} {σ : L2.St} {B H : Hp} {A C : Ty} {v : V} {i j : Nat} {Q : L2.St → Hp → Prop} (hv : (yT [A, C]).p v B) (s : Same B H) (k : ∀ x y, A.p x B → C.p y B → Q ((σ.set i (some x)).set j (some y)) H) : gTup K 2 (gCons (gName i) (gCons (gName j) gNil)) v σ H Q := by
  obtain ⟨a, vs, rfl, h, kk⟩ := hv
  obtain ⟨x, y, rfl, hx, hy⟩ := all2 kk
  exact ⟨a, _, rfl, SqT.of (s _ _ h), rfl, x, _, rfl, y, _, rfl, rfl, k x y hx hy⟩
theorem g_tup3 {K : PySem.W.Frag} {σ : L2.St} {B H : Hp} {A C D : Ty} {v : V} {i j l : Nat} {Q : L2.St → Hp → Prop} (hv : (yT [A, C, D]).p v B) (s : Same B H) (k : ∀ x y z, A.p x B → C.p y B → D.p z B → Q (((σ.set i (some x)).set j (some y)).set l (some z)) H) : gTup K 3 (gCons (gName i) (gCons (gName j) (gCons (gName l) gNil))) v σ H Q := by
  obtain ⟨a, vs, rfl, h, kk⟩ := hv
  obtain ⟨x, y, z, rfl, hx, hy, hz⟩ := all3 kk
  exact ⟨a, _, rfl, SqT.of (s _ _ h), rfl, x, _, rfl, y, _, rfl, z, _, rfl, rfl, k x y z hx hy hz⟩
/-- a class, and names that are none of its own -/
structure ClsF (K : PySem.W.Frag) (C : Addr) (ns : List Str) : Prop where
  cls : Cls K C
  no : ∀ f ∈ ns, NoAttr K C f
section
variable {σ : L2.St} {B H B0 H0 : Hp} {A T : Ty} {te td : TE} {K : PySem.W.Frag} {C a : Addr} {fs : Fs} {ns : List Str} {f : Str} {D : Ends} {tz : TS}
theorem gv_fld (h : Gv te σ B (yO C fs)) (c : ClsF K C ns) (hf : f ∈ ns) (e : look fs f = some T) : Gv (tFld K te f) σ B T := fun H s Q q =>
  h H s _ fun v B1 H1 g hv => by
    obtain ⟨a, o, rfl, h1, dx, xs, rfl, k⟩ := hv
    obtain ⟨v, hl, tv⟩ := k.look e
    exact ⟨a, C, dx, xs, v, rfl, g.in_ _ _ h1, c.cls, c.no f hf, hl, q v B1 H1 g tv⟩
/-- a field of an owned instance that is an address -/
theorem is_fld {d : Addr} (ht : Is te σ B H a) (w : Ow a (oO C fs) B H) (c : ClsF K C ns) (hf : f ∈ ns) (e : look fs f = some (yX (.ref d))) : Is (tFld K te f) σ B H d := fun B1 H1 g Q q =>
  ht B1 H1 g _ (by
    obtain ⟨o, h1, dx, xs, rfl, k⟩ := (w.m g).ex
    obtain ⟨v, hl, tv⟩ := k.look e
    exact ⟨a, C, dx, xs, v, rfl, h1, c.cls, c.no f hf, hl, tv ▸ q⟩)
/-- x.f = e, the first time -/
theorem ht_fnew {Ta : TE} (ht : Is Ta σ B H a) (w : Ow a (oO C fs) B H) (c : ClsF K C ns) (hf : f ∈ ns) (n : f ∉ fs.map (·.1)) (hl : fs.length < 100) (h : Gh te σ B H T) (k : ∀ B1 H1 o, Gr B H B1 H1 → Ow a (oO C (fs ++ [(f, T)])) B1 (upd H1 a o) → D.nx σ (upd H1 a o)) : sFld K Ta te f D σ H := by
  refine h _ fun v B1 H1 g hv => ht B1 H1 g _ ?_
  obtain ⟨o, h1, dx, xs, rfl, kk⟩ := (w.m g).ex
  refine ⟨a, C, dx, xs, rfl, h1, c.cls, c.no f hf, by have := kk.len; omega, k B1 H1 _ g ((w.m g).put ⟨dx, _, rfl, ?_⟩)⟩
  have e : ∀ {fs : Fs} {xs : List (Str × V)}, FsAt fs xs B1 → f ∉ fs.map (·.1) → FsAt (fs ++ [(f, T)]) (putF f v xs) B1 := by
    intro fs
    induction fs with
    | nil => intro xs h n; cases xs with
      | nil => exact ⟨rfl, hv, trivial⟩
      | cons _ _ => simp [FsAt] at h
    | cons p fs ih => intro xs h n; cases xs with
      | nil => simp [FsAt] at h
      | cons q xs =>
        obtain ⟨h1, h2⟩ := h
        rw [List.map_cons, List.map_cons] at h1 h2
        obtain ⟨e1, e2⟩ := List.cons.inj h1
        rw [List.map_cons, List.mem_cons, not_or] at n
        have z := ih ⟨e2, h2.2⟩ n.2
        have ne : ¬ q.1 = f := fun y => n.1 (by rw [← e1]; exact y.symm)
        show FsAt (p :: (fs ++ [(f, T)])) (if q.1 = f then _ else q :: putF f v xs) B1
        rw [if_neg ne]
        exact ⟨by rw [List.map_cons, List.map_cons, z.1, e1], h2.1, z.2⟩
  exact e kk n
theorem hq_fnew {Ta : TE} (ht : Is Ta σ B H a) (w : Ow a (oO C fs) B H) (c : ClsF K C ns) (hf : f ∈ ns) (n : f ∉ fs.map (·.1)) (hl : fs.length < 100) (h : Gh te σ B H T) (k : ∀ B1 H1 o, Gr B H B1 H1 → Ow a (oO C (fs ++ [(f, T)])) B1 (upd H1 a o) → tz D σ (upd H1 a o)) : tSeq (sFld K Ta te f) tz D σ H := ht_fnew (D := { D with nx := tz D }) ht w c hf n hl h k
/-- x.f = e, again -/
theorem ht_fput {Ta : TE} {T0 : Ty} (ht : Is Ta σ B H a) (w : Ow a (oO C fs) B H) (c : ClsF K C ns) (hf : f ∈ ns) (n : look fs f = some T0) (hl : fs.length < 100) (h : Gh te σ B H T) (k : ∀ B1 H1 o, Gr B H B1 H1 → Ow a (oO C (put fs f T)) B1 (upd H1 a o) → D.nx σ (upd H1 a o)) : sFld K Ta te f D σ H := by
  refine h _ fun v B1 H1 g hv => ht B1 H1 g _ ?_
  obtain ⟨o, h1, dx, xs, rfl, kk⟩ := (w.m g).ex
  refine ⟨a, C, dx, xs, rfl, h1, c.cls, c.no f hf, by have := kk.len; omega, k B1 H1 _ g ((w.m g).put ⟨dx, _, rfl, ?_⟩)⟩
  have e : ∀ {fs : Fs} {xs : List (Str × V)}, FsAt fs xs B1 → look fs f = some T0 → FsAt (put fs f T) (putF f v xs) B1 := by
    intro fs
    induction fs with
    | nil => intro xs h n; simp [look] at n
    | cons p fs ih => intro xs h n; cases xs with
      | nil => simp [FsAt] at h
      | cons q xs =>
        obtain ⟨h1, h2⟩ := h
        rw [List.map_cons, List.map_cons] at h1 h2
        obtain ⟨e1, e2⟩ := List.cons.inj h1
        by_cases y : p.1 = f
        · show FsAt (if p.1 = f then _ else _) (if q.1 = f then (q.1, v) :: xs else _) B1
          rw [if_pos y, if_pos (by rw [e1]; exact y)]
          refine ⟨?_, hv, h2.2⟩
          show q.1 :: xs.map (·.1) = p.1 :: fs.map (·.1)
          rw [e2, e1]
        · rw [look, if_neg y] at n
          have z := ih ⟨e2, h2.2⟩ n
          show FsAt (if p.1 = f then _ else p :: put fs f T) (if q.1 = f then _ else q :: putF f v xs) B1
          rw [if_neg y, if_neg (by rw [e1]; exact y)]
          exact ⟨by rw [List.map_cons, List.map_cons, z.1, e1], h2.1, z.2⟩
  exact e kk n
theorem hq_fput {Ta : TE} {T0 : Ty} (ht : Is Ta σ B H a) (w : Ow a (oO C fs) B H) (c : ClsF K C ns) (hf : f ∈ ns) (n : look fs f = some T0) (hl : fs.length < 100) (h : Gh te σ B H T) (k : ∀ B1 H1 o, Gr B H B1 H1 → Ow a (oO C (put fs f T)) B1 (upd H1 a o) → tz D σ (upd H1 a o)) : tSeq (sFld K Ta te f) tz D σ H := ht_fput (D := { D with nx := tz D }) ht w c hf n hl h k
end
/-! ## methods -/
section
variable {P : Program} {w : World} {K : PySem.W.Frag} {mg : Str → Option Value} {base : Heap}
structure DefM (K : PySem.W.Frag) (C : Addr) (m q : Str) (st : Stmt) (ps : List Str) : Prop where
  ex : ∃ f fd, Fun K m q st f fd ∧ Meth K C m f ∧ Binds K fd ps []
  cls : Cls K C
structure DefI (K : PySem.W.Frag) (mg : Str → Option Value) (C : Addr) (x q : Str) (st : Stmt) (ps : List Str) : Prop where
  ex : ∃ f fd, Fun K "__init__" q st f fd ∧ Mk K C f ∧ mg x = some (.ref C) ∧ Binds K fd ps []
structure CalM (P : Program) (w : World) (K : PySem.W.Frag) (mg : Str → Option Value) (base : Heap) (C : Addr) (m : Str) (k : Nat) (ps : List Str) (sp : Sp) : Prop where
  ex : ∃ f fd, FnOk P w K mg base CX0 k f fd ps sp ∧ Meth K C m f ∧ Binds K fd ps []
  cls : Cls K C
structure CalI (P : Program) (w : World) (K : PySem.W.Frag) (mg : Str → Option Value) (base : Heap) (C : Addr) (x : Str) (k : Nat) (ps : List Str) (sp : Sp) : Prop where
  ex : ∃ f fd, FnOk P w K mg base CX0 k f fd ps sp ∧ Mk K C f ∧ mg x = some (.ref C) ∧ Binds K fd ps []
/-- the reading of o.m(e, ..) -/
def tMe (C : Addr) (m : Str) (sp : Sp) (ta : TE) (t : TA) : TE := fun σ H Q => ta σ H fun x H1 => ∃ a dx fs, x = .ref a ∧ H1 a = some (.ins C dx fs) ∧ fs.lookup m = none ∧ t σ H1 fun vs H2 => sp (x :: vs) H2 Q E0
def tMk (C : Addr) (sp : Sp) (t : TA) : TE := fun σ H Q => t σ H fun vs H1 => ∀ x dx, H1 x = none → H1 dx = none → dx ≠ x → sp (.ref x :: vs) (upd (upd H1 dx (.own x)) x (.ins C dx [])) (fun v H2 => v = .non ∧ Q (.ref x) H2) E0
theorem pe_me {X : Cx} {C : Addr} {m : Str} {k : Nat} {ps : List Str} {sp : Sp} {o e : Expr} {es : List Expr} {ta : TE} {t : TA} {apos pos : Pos} {pl : Sem Bool} (c : CalM X.prog X.w X.K X.mg X.base C m k ps sp) (hr : Room k X.A) (he : PE X o ta) (ha : PA X (e :: es) t)
    (hst : starEach (e :: es) X.env = (false, eval e X.env) :: starEach es X.env := by rfl) (hpl : (backTo pos (starEach es X.env)).any (·.1) = false := by rfl)
    (ht : eval (.Call (.Attribute o m apos) (e :: es) [] pos) X.env = (do
      let ov ← eval o X.env
      standAt apos.atName
      let (f, first) ← holding [ov] (getMethod ov m pl)
      callWith pos f first (backTo pos (starEach (e :: es) X.env)) (backToKw pos (keywordEach [] X.env))) := by rfl) : PE X (.Call (.Attribute o m apos) (e :: es) [] pos) (tMe C m sp ta t) := by
  obtain ⟨f, fd, F, hm, hb⟩ := c.ex
  have cl := c.cls
  have q := pe_meth (pos := pos) (apos := apos) he cl hm F hr hb .nil pass0 ha hst hpl ht
  have e : tMe C m sp ta t = tMeth C m sp [] E0 ta t := by
    funext σ H Q
    unfold tMe tMeth
    simp only [List.append_nil]
  rw [e]
  exact q
theorem pe_me0 {X : Cx} {C : Addr} {m : Str} {k : Nat} {ps : List Str} {sp : Sp} {o : Expr} {ta : TE} {apos pos : Pos} {pl : Sem Bool} (c : CalM X.prog X.w X.K X.mg X.base C m k ps sp) (hr : Room k X.A) (he : PE X o ta)
    (ht : eval (.Call (.Attribute o m apos) [] [] pos) X.env = (do
      let ov ← eval o X.env
      standAt apos.atName
      let (f, first) ← holding [ov] (getMethod ov m pl)
      callWith pos f first (backTo pos (starEach [] X.env)) (backToKw pos (keywordEach [] X.env))) := by rfl) : PE X (.Call (.Attribute o m apos) [] [] pos) (tMe C m sp ta tNil) := by
  obtain ⟨f, fd, F, hm, hb⟩ := c.ex
  have cl := c.cls
  have q := pe_meth0 (pos := pos) (apos := apos) he cl hm F hr hb .nil pass0 ht
  have e : tMe C m sp ta tNil = tMeth C m sp [] E0 ta tNil := by
    funext σ H Q
    unfold tMe tMeth
    simp only [List.append_nil]
  rw [e]
  exact q
theorem pe_mk {X : Cx} {C : Addr} {x : Str} {k : Nat} {ps : List Str} {sp : Sp} {e : Expr} {es : List Expr} {t : TA} {p pos : Pos} (c : CalI X.prog X.w X.K X.mg X.base C x k ps sp) (hr : Room (k + 1) X.A) (ha : PA X (e :: es) t) (hg : Gl X x := by rfl) (hdb : (x == ("__debug__" : Str)) = false := by decide)
    (he : starEach (e :: es) X.env = (false, eval e X.env) :: starEach es X.env := by rfl) (hpl : (backTo pos (starEach es X.env)).any (·.1) = false := by rfl) : PE X (.Call (.Name x p) (e :: es) [] pos) (tMk C sp t) := by
  obtain ⟨f, fd, F, M, hm, hb⟩ := c.ex
  have q := pe_make (p := p) (pos := pos) M F hr hg hm hb .nil pass0 ha hdb he hpl
  have e : tMk C sp t = tMake C sp [] E0 t := by
    funext σ H Q
    unfold tMk tMake
    simp only [List.append_nil]
  rw [e]
  exact q
/-- an __init__ that ends with a whole instance -/
def spN (C : Addr) (R : List Ty → Fs → Prop) : Sp := fun vs H Q _ => ∃ x dx rest H1 B Ts fs, vs = .ref x :: rest ∧ R Ts fs ∧ H1 x = none ∧ H1 dx = none ∧ dx ≠ x ∧ H = upd (upd H1 dx (.own x)) x (.ins C dx []) ∧ Same B H1 ∧ All Ts rest B ∧
  ∀ B' H', Gr B H1 B' H' → Ow x (oO C fs) B' H' → Q .non H'
/-- a method that reads, and gives a value -/
theorem gv_me {C : Addr} {m : Str} {fs : Fs} {σ : L2.St} {B : Hp} {T : Ty} {ta : TE} {t : TA} {Ts : List Ty} {sp : Sp} (h : Gv ta σ B (yO C fs)) (n : m ∉ fs.map (·.1)) (ha : GvA t σ B Ts) (g : Gives sp (yO C fs :: Ts) T) : Gv (tMe C m sp ta t) σ B T := fun H s Q q =>
  h H s _ fun v B1 H1 g1 hv => by
    obtain ⟨a, o, rfl, h1, dx, xs, rfl, k⟩ := id hv
    refine ⟨a, dx, xs, rfl, g1.in_ _ _ h1, k.no n, ?_⟩
    -- arguments behind
    have ha1 : ∀ H, Same B1 H → ∀ Q : List V → Hp → Prop, (∀ vs B' H', Gr B1 H B' H' → All Ts vs B' → Q vs H') → t σ H Q := fun H s2 Q q2 => by
      refine ha H (g1.bs.trans s2) Q fun vs B' H' g2 hvs => ?_
      -- join B1 and B'
      let J : Hp := fun x => match B1 x with | some o => some o | none => B' x
      have hJ1 : Same B1 J := fun x o e => by show (match B1 x with | some o => some o | none => B' x) = some o; rw [e]
      have hJ2 : Same B' J := fun x o e => by
        show (match B1 x with | some o => some o | none => B' x) = some o
        cases e2 : B1 x with
        | none => exact e
        | some o2 =>
          have z1 := g2.in_ x o e
          have z2 := g2.hs x o2 (s2 x o2 e2)
          rw [z1] at z2
          exact z2.symm
      refine q2 vs J H' ⟨hJ1, g2.hs, fun x o e => ?_, fun x hx => ?_⟩ (hvs.m hJ2)
      · have e : (match B1 x with | some o => some o | none => B' x) = some o := e
        cases e2 : B1 x with
        | none => rw [e2] at e; exact g2.in_ x o e
        | some o2 =>
          rw [e2] at e
          have z : o2 = o := Option.some.inj e
          subst z
          exact g2.hs x _ (s2 x _ e2)
      · have hx : (match B1 x with | some o => some o | none => B' x) ≠ none := hx
        cases e2 : B1 x with
        | some o2 => exact .inl fun z => nomatch z
        | none =>
          rw [e2] at hx
          rcases g2.nw x hx with k | k | k
          · exfalso
            cases e3 : B x with
            | none => exact k e3
            | some o3 => rw [g1.bs x o3 e3] at e2; cases e2
          · exact .inr (.inl k)
          · exact .inr (.inr k)
    exact ha1 H1 g1.in_ _ fun vs B2 H2 g2 hvs => g (.ref a :: vs) B2 H2 g2.in_ ⟨(yO C fs).m g2.bs hv, hvs⟩ Q E0 (q.go (g1.trans g2))
theorem gv_mk {C : Addr} {fs : Fs} {σ : L2.St} {B : Hp} {t : TA} {Ts : List Ty} {R : List Ty → Fs → Prop} (ha : GvA t σ B Ts) (r : R Ts fs) : Gv (tMk C (spN C R) t) σ B (yO C fs) := fun H s Q q =>
  ha H s _ fun vs B1 H1 g hvs x dx hx hdx ne => ⟨x, dx, vs, H1, B1, Ts, fs, rfl, r, hx, hdx, ne, rfl, g.in_, hvs, fun B2 H2 g2 w => ⟨rfl, by
    obtain ⟨B3, g3, s3, hp⟩ := w.pub g2 hx
    exact q _ B3 H2 (g.trans g3) hp⟩⟩
theorem DefM.ok {C : Addr} {m q : Str} {st : Stmt} {N ps : List Str} {k : Nat} {sp : Sp} (D : DefM K C m q st ps) (S : FnScope N ps (defScope st)) (len : ∀ vs H Q E, sp vs H Q E → vs.length = ps.length)
    (body : ∀ (f : Addr) (cdv : Value) (A : Around) (outer : List Env) (s : Shared) (H : Hp) (vs : List V) (Q : VK) (E : XK), Room k (A.deeper (envOfC q (defScope st) s.heap.objs.size f cdv)) → sp vs H Q E →
      ∃ t, PSs (cxOf CX0 P w K mg base N q (defScope st) f cdv A outer s H E).nox (defBody st) t ∧ t { nx := fun _ H' => Q .non H', rt := Q } (start N vs) H) : CalM P w K mg base C m (k + 1) ps sp := by
  obtain ⟨f, fd, F, hm, hb⟩ := D.ex
  exact ⟨⟨f, fd, F.ok S len (body f), hm, hb⟩, D.cls⟩
theorem DefI.ok {C : Addr} {x q : Str} {st : Stmt} {N ps : List Str} {k : Nat} {sp : Sp} (D : DefI K mg C x q st ps) (S : FnScope N ps (defScope st)) (len : ∀ vs H Q E, sp vs H Q E → vs.length = ps.length)
    (body : ∀ (f : Addr) (cdv : Value) (A : Around) (outer : List Env) (s : Shared) (H : Hp) (vs : List V) (Q : VK) (E : XK), Room k (A.deeper (envOfC q (defScope st) s.heap.objs.size f cdv)) → sp vs H Q E →
      ∃ t, PSs (cxOf CX0 P w K mg base N q (defScope st) f cdv A outer s H E).nox (defBody st) t ∧ t { nx := fun _ H' => Q .non H', rt := Q } (start N vs) H) : CalI P w K mg base C x (k + 1) ps sp := by
  obtain ⟨f, fd, F, hm, hb⟩ := D.ex
  exact ⟨f, fd, F.ok S len (body f), hm, hb⟩
end
end LD
set_option maxRecDepth 100000
set_option maxHeartbeats 4000000
/-! LdBlu: built-ins on dicts. -/
namespace LD
open PySem PyProof.Rows L2
section
variable {X : Cx} {e : Expr} {es : List Expr} {t : TA} {p pos : Pos}
theorem pb_lenT (m : X.mg "len" = none) (ha : PA X (e :: es) t) (hg : Gl X "len" := by rfl) (he : starEach (e :: es) X.env = (false, eval e X.env) :: starEach es X.env := by rfl) (hpl : (backTo pos (starEach es X.env)).any (·.1) = false := by rfl) : PE X (.Call (.Name "len" p) (e :: es) [] pos) (tCB rLenT t) :=
  pe_callB call_len_dT hg m boot_len ha (he := he) (hpl := hpl)
theorem pb_minT (hu : X.A.units + 1 < cLine) (m : X.mg "min" = none) (ha : PA X (e :: es) t) (hc : X.calm = true := by rfl) (hg : Gl X "min" := by rfl) (he : starEach (e :: es) X.env = (false, eval e X.env) :: starEach es X.env := by rfl) (hpl : (backTo pos (starEach es X.env)).any (·.1) = false := by rfl) : PE X (.Call (.Name "min" p) (e :: es) [] pos) (tCB rMinT t) :=
  pe_callB (cr_minT hc hu) hg m (by decide +kernel) ha (he := he) (hpl := hpl)
theorem pb_dictT (hu : X.A.units + 8 < cLine) (m : X.mg "dict" = none) (ha : PA X (e :: es) t) (hg : Gl X "dict" := by rfl) (he : starEach (e :: es) X.env = (false, eval e X.env) :: starEach es X.env := by rfl) (hpl : (backTo pos (starEach es X.env)).any (·.1) = false := by rfl) : PE X (.Call (.Name "dict" p) (e :: es) [] pos) (tCB (rDictT X.prog X.w) t) :=
  pe_callTy (cr_dictT hu) hg m (by decide +kernel) ha (he := he) (hpl := hpl)
def rDictI : List V → Hp → VK → Prop := fun xs H Q => ∃ (a : Addr) (kvs : List (Key × V)), xs = [.ref a] ∧ Rd H a (.dK kvs) ∧ ∀ p, H p = none → Q (.ref p) (upd H p (.dK kvs))
theorem pb_dictI (m : X.mg "dict" = none) (ha : PA X (e :: es) t) (hg : Gl X "dict" := by rfl) (he : starEach (e :: es) X.env = (false, eval e X.env) :: starEach es X.env := by rfl) (hpl : (backTo pos (starEach es X.env)).any (·.1) = false := by rfl) : PE X (.Call (.Name "dict" p) (e :: es) [] pos) (tCB rDictI t) :=
  pe_callTy (r := rDictI) call_dictD hg m (by decide +kernel) ha (he := he) (hpl := hpl)
def rListI : List V → Hp → VK → Prop := fun xs H Q => ∃ (a : Addr) (kvs : List (Key × V)), xs = [.ref a] ∧ Rd H a (.dK kvs) ∧ ∀ p, H p = none → Q (.ref p) (upd H p (.lst (kvs.map fun kv => kV kv.1)))
theorem pb_listI (m : X.mg "list" = none) (ha : PA X (e :: es) t) (hc : X.calm = true := by rfl) (hg : Gl X "list" := by rfl) (he : starEach (e :: es) X.env = (false, eval e X.env) :: starEach es X.env := by rfl) (hpl : (backTo pos (starEach es X.env)).any (·.1) = false := by rfl) : PE X (.Call (.Name "list" p) (e :: es) [] pos) (tCB rListI t) :=
  pe_callTy (r := rListI) (call_listD hc) hg m (by decide +kernel) ha (he := he) (hpl := hpl)
theorem pb_sortI (m : X.mg "sorted" = none) (ha : PA X (e :: es) t) (hg : Gl X "sorted" := by rfl) (he : starEach (e :: es) X.env = (false, eval e X.env) :: starEach es X.env := by rfl) (hpl : (backTo pos (starEach es X.env)).any (·.1) = false := by rfl) : PE X (.Call (.Name "sorted" p) (e :: es) [] pos) (tCB (rSortedI X.K) t) :=
  pe_callB cr_sortedI hg m (by decide +kernel) ha (he := he) (hpl := hpl)
theorem pb_sortP (m : X.mg "sorted" = none) (ha : PA X (e :: es) t) (hg : Gl X "sorted" := by rfl) (he : starEach (e :: es) X.env = (false, eval e X.env) :: starEach es X.env := by rfl) (hpl : (backTo pos (starEach es X.env)).any (·.1) = false := by rfl) : PE X (.Call (.Name "sorted" p) (e :: es) [] pos) (tCB (rSortedPO X.K) t) :=
  pe_callB cr_sortedPO hg m (by decide +kernel) ha (he := he) (hpl := hpl)
def rSortDI : List V → Hp → VK → Prop := fun xs H Q => ∃ (a : Addr) (kvs : List (Key × V)) (ks : List Int), xs = [.ref a] ∧ Rd H a (.dK kvs) ∧ kvs.map (·.1) = ks.map Sum.inl ∧ ks.length < 64 ∧
    ∀ (ys : List Int) (p : Addr), ys.Perm ks → ys.Pairwise (· ≤ ·) → H p = none → Q (.ref p) (upd H p (.lst (ys.map V.int)))
theorem pb_sortD (m : X.mg "sorted" = none) (ha : PA X (e :: es) t) (hc : X.calm = true := by rfl) (hg : Gl X "sorted" := by rfl) (he : starEach (e :: es) X.env = (false, eval e X.env) :: starEach es X.env := by rfl) (hpl : (backTo pos (starEach es X.env)).any (·.1) = false := by rfl) : PE X (.Call (.Name "sorted" p) (e :: es) [] pos) (tCB rSortDI t) :=
  pe_callB (r := rSortDI) (call_sortedDI hc) hg m (by decide +kernel) ha (he := he) (hpl := hpl)
end
section
variable {σ : L2.St} {B H : Hp} {T A : Ty} {te : TE} {m : List (List Int × Ty)} {mi : List (Int × Ty)} {D : Ends} {tz : TS} {P : Program} {w : World} {K : PySem.W.Frag}
theorem gv_lenD (h : Gv te σ B (yDT m)) : Gv (tCB rLenT (tCons te tNil)) σ B (yI (m.length : Int)) :=
  gv_cb (ga_1 h) fun vs B1 H1 _ s hvs Q q => by
    obtain ⟨v, rfl, a, kvs, rfl, hl, k⟩ := all1 hvs
    refine ⟨a, kvs, rfl, s _ _ hl, q _ B1 H1 (Gr.refl s) ?_⟩
    rw [k.len]
    rfl
/-- a key of a dict -/
def yKy (m : List (List Int × Ty)) : Ty := ⟨fun v H => ∃ p ∈ m, (yIs p.1).p v H, fun s ⟨p, h, k⟩ => ⟨p, h, (yIs p.1).m s k⟩⟩
theorem DAll.mem {H : Hp} {kvs : List (List L2.Key × V)} (k : DAll m kvs H) {q : List L2.Key × V} (h : q ∈ kvs) : ∃ p ∈ m, q.1 = keyL p.1 := by
  obtain ⟨i, hi⟩ := List.getElem?_of_mem h
  obtain ⟨p, hp, e, _⟩ := k.get (k := q.1) (v := q.2) hi
  exact ⟨p, List.mem_of_getElem? hp, e⟩
theorem gv_minD (h : Gv te σ B (yDT m)) (h0 : m ≠ []) : Gv (tCB rMinT (tCons te tNil)) σ B (yKy m) :=
  gv_cb (ga_1 h) fun vs B1 H1 _ s hvs Q q => by
    obtain ⟨v, rfl, a, kvs, rfl, hl, k⟩ := all1 hvs
    refine ⟨a, kvs, rfl, .inl (s _ _ hl), fun e => h0 ?_, fun p hp => ?_, fun kk v b hm hb => ?_⟩
    · have := k.len
      rw [e] at this
      exact List.eq_nil_of_length_eq_zero this.symm
    · obtain ⟨p', _, e⟩ := k.mem hp
      exact ⟨p'.1, e⟩
    · obtain ⟨p', hp', e⟩ := k.mem hm
      have e : kk = keyL p'.1 := e
      subst e
      rw [keyL_kV] at hb
      exact q _ _ _ (Gr.take s hb) ⟨p', hp', yIs_iff.mpr ⟨b, rfl, upd_same⟩⟩
/-- no two of these keys have the same hash -/
def HashOk (P : Program) (w : World) (ks : List (List Int)) : Prop := (ks.map fun k => (tupleKind (mixKind P w)).hash (keyL k)).Nodup
theorem DAll.hashes {H : Hp} {kvs : List (List L2.Key × V)} (k : DAll m kvs H) (h : HashOk P w (m.map (·.1))) : (kvs.map fun p => (tupleKind (mixKind P w)).hash p.1).Nodup := by
  have e : (kvs.map fun p => (tupleKind (mixKind P w)).hash p.1) = (kvs.map (·.1)).map fun k => (tupleKind (mixKind P w)).hash k := by rw [List.map_map]; rfl
  rw [e, k.keys]
  unfold HashOk at h
  rw [List.map_map] at h ⊢
  exact h
theorem gv_dictT (h : Gv te σ B A) (ht : IsDT A m) (hh : HashOk P w (m.map (·.1))) : Gv (tCB (rDictT P w) (tCons te tNil)) σ B (yDT m) :=
  gv_cb (ga_1 h) fun vs B1 H1 _ s hvs Q q => by
    obtain ⟨v, rfl, hv⟩ := all1 hvs
    obtain ⟨a, kvs, rfl, hl, k⟩ := ht v B1 hv
    exact ⟨a, kvs, rfl, same_rd s hl, k.hashes hh, fun p hp => q _ _ _ (Gr.new s hp) ⟨p, kvs, rfl, upd_same, k.m (same_new (s.free hp))⟩⟩
/-- found = dict(d), owned -/
theorem hq_dictT {i : Nat} {tr : TA} (s : Same B H) (h : GvA tr σ B [A]) (ht : IsDT A m) (hh : HashOk P w (m.map (·.1))) (k : ∀ d B1 H1, Gr B H B1 H1 → H d = none → Ow d (oT m) B1 H1 → tz D (σ.set i (some (.ref d))) H1) : tSeq (tAsg (tCB (rDictT P w) tr) (gName i)) tz D σ H :=
  h H s _ fun vs B1 H1 g hvs => by
    obtain ⟨v, rfl, hv⟩ := all1 hvs
    obtain ⟨a, kvs, rfl, hl, kk⟩ := ht v B1 hv
    exact ⟨a, kvs, rfl, same_rd g.in_ hl, kk.hashes hh, fun p hp => k p _ _ (g.trans (Gr.own g.in_ hp)) (g.hs.free hp) (Ow.new g.in_ hp ⟨kvs, rfl, kk⟩)⟩
theorem hq_dictI {i : Nat} {tr : TA} (s : Same B H) (h : GvA tr σ B [A]) (ht : IsDI A mi) (k : ∀ d B1 H1, Gr B H B1 H1 → H d = none → Ow d (oI mi) B1 H1 → tz D (σ.set i (some (.ref d))) H1) : tSeq (tAsg (tCB rDictI tr) (gName i)) tz D σ H :=
  h H s _ fun vs B1 H1 g hvs => by
    obtain ⟨v, rfl, hv⟩ := all1 hvs
    obtain ⟨a, kvs, rfl, hl, kk⟩ := ht v B1 hv
    exact ⟨a, kvs, rfl, same_rd g.in_ hl, fun p hp => k p _ _ (g.trans (Gr.own g.in_ hp)) (g.hs.free hp) (Ow.new g.in_ hp ⟨kvs, rfl, kk⟩)⟩
theorem gv_listD (h : Gv te σ B A) (ht : IsDI A mi) : Gv (tCB rListI (tCons te tNil)) σ B (yL ((mi.map (·.1)).map yI)) :=
  gv_cb (ga_1 h) fun vs B1 H1 _ s hvs Q q => by
    obtain ⟨v, rfl, hv⟩ := all1 hvs
    obtain ⟨a, kvs, rfl, hl, k⟩ := ht v B1 hv
    refine ⟨a, kvs, rfl, same_rd s hl, fun p hp => q _ _ _ (Gr.new s hp) ⟨p, _, rfl, upd_same, all_ints.mpr ?_⟩⟩
    have e : (kvs.map fun kv => kV kv.1) = (kvs.map (·.1)).map kV := by rw [List.map_map]; rfl
    rw [e, k.keys, List.map_map]
    rfl
/-- sorted: ints -/
def ySrt (ns : List Int) : Ty := ⟨fun v H => ∃ ms : List Int, ms.Perm ns ∧ ms.Pairwise (· ≤ ·) ∧ (yL (ms.map yI)).p v H, fun s ⟨ms, h1, h2, k⟩ => ⟨ms, h1, h2, (yL _).m s k⟩⟩
theorem gv_sortI {ns : List Int} (h : Gv te σ B (yL (ns.map yI))) : Gv (tCB (rSortedI K) (tCons te tNil)) σ B (ySrt ns) :=
  gv_cb (ga_1 h) fun vs B1 H1 _ s hvs Q q => by
    obtain ⟨v, rfl, a, ws, rfl, hl, k⟩ := all1 hvs
    rw [all_ints.mp k] at hl
    exact ⟨a, ns, rfl, SqL.of (s _ _ hl), fun ms p h1 h2 hp => q _ _ _ (Gr.new s hp) ⟨ms, h1, h2, p, _, rfl, upd_same, all_ints.mpr rfl⟩⟩
theorem gv_sortD (h : Gv te σ B A) (ht : IsDI A mi) (hl : mi.length < 64) : Gv (tCB rSortDI (tCons te tNil)) σ B (ySrt (mi.map (·.1))) :=
  gv_cb (ga_1 h) fun vs B1 H1 _ s hvs Q q => by
    obtain ⟨v, rfl, hv⟩ := all1 hvs
    obtain ⟨a, kvs, rfl, hr, k⟩ := ht v B1 hv
    refine ⟨a, kvs, mi.map (·.1), rfl, same_rd s hr, k.keys, by rw [List.length_map]; exact hl, fun ys p h1 h2 hp => q _ _ _ (Gr.new s hp) ⟨ys, h1, h2, p, _, rfl, upd_same, all_ints.mpr rfl⟩⟩
/-- sorted: pairs of ints -/
def lexLt (a b : Int × Int) : Prop := a.1 < b.1 ∨ a.1 = b.1 ∧ a.2 < b.2
end
end LD
set_option maxRecDepth 100000
set_option maxHeartbeats 4000000
/-! LdDeep: == and in over data. -/
namespace LD
open PySem PyProof.Rows L2
def dI (ns : List Int) : PyData := .tuple (ns.map .int)
def dF (r : Rat) : PyData := .tuple [.int r.num, .int r.den]
def dIs (f : List (List Int)) : PyData := .tuple (f.map dI)
theorem eqv_ints : ∀ a b : List Int, PyData.eqvAll (a.map .int) (b.map .int) = decide (a = b)
  | [], [] => rfl
  | [], _ :: _ => by simp [PyData.eqvAll]
  | _ :: _, [] => by simp [PyData.eqvAll]
  | x :: a, y :: b => by
    rw [List.map_cons, List.map_cons, PyData.eqvAll, eqv_ints a b, PyData.eqv]
    by_cases h : x = y <;> simp [h]
theorem eqv_I (a b : List Int) : PyData.eqv (dI a) (dI b) = decide (a = b) := by
  unfold dI
  rw [PyData.eqv, eqv_ints]
theorem rat_ext {x y : Rat} : (x.num = y.num ∧ (x.den : Int) = y.den) ↔ x = y := by
  constructor
  · rintro ⟨h1, h2⟩
    exact Rat.ext h1 (by omega)
  · rintro rfl
    exact ⟨rfl, rfl⟩
theorem eqv_F (x y : Rat) : PyData.eqv (dF x) (dF y) = decide (x = y) := by
  unfold dF
  have e := eqv_ints [x.num, (x.den : Int)] [y.num, (y.den : Int)]
  simp only [List.map_cons, List.map_nil] at e
  rw [PyData.eqv, e]
  congr 1
  simp only [List.cons.injEq, and_true]
  exact propext rat_ext
theorem eqv_tups : ∀ a b : List (List Int), PyData.eqvAll (a.map dI) (b.map dI) = decide (a = b)
  | [], [] => rfl
  | [], _ :: _ => by simp [PyData.eqvAll]
  | _ :: _, [] => by simp [PyData.eqvAll]
  | x :: a, y :: b => by
    rw [List.map_cons, List.map_cons, PyData.eqvAll, eqv_tups a b, eqv_I]
    by_cases h : x = y <;> simp [h]
theorem eqv_Is (a b : List (List Int)) : PyData.eqv (dIs a) (dIs b) = decide (a = b) := by
  unfold dIs
  rw [PyData.eqv, eqv_tups]
theorem hr8 {k : Nat} {A : Around} (r : Room k A) : A.units + 8 < cLine := by have := r.un; omega
theorem hr16 {k : Nat} {A : Around} (r : Room k A) : A.units + 16 < cLine := by have := r.un; omega
theorem hr65 {k : Nat} {A : Around} (r : Room k A) : A.units + 65 < cLine := by have := r.un; omega
theorem hr0 {k : Nat} {A : Around} (r : Room k A) : A.units < cLine := by have := r.un; omega
section
variable {X : Cx} (K : PySem.W.Frag) (e : X.K = K)
include e
theorem ix_tupK : IxR X (rIxT K) := e ▸ ix_tup
theorem ix_listK : IxR X (rIxL K) := e ▸ ix_list
theorem pe_fldK {o : Expr} {f : Str} {pos : Pos} {ta : TE} (he : PE X o ta) (hb : attributeBase o f X.env (eval o X.env) = eval o X.env) : PE X (.Attribute o f pos) (tFld K ta f) := e ▸ pe_fld he hb
theorem op_eqDK (hu : X.A.units + 64 < cLine) : OpR X (compareOp .Eq) (rEqD K) := e ▸ op_eqD hu
theorem op_neDK (hu : X.A.units + 64 < cLine) : OpR X (compareOp .NotEq) (rNeD K) := e ▸ op_neD hu
theorem op_ltTK (hu : X.A.units < cLine) : OpR X (compareOp .Lt) (rLtT K) := e ▸ op_ltT hu
theorem op_inDK (hu : X.A.units + 65 < cLine) : OpR X (compareOp .In) (rInD K) := e ▸ op_inD hu
theorem op_notInDK (hu : X.A.units + 65 < cLine) : OpR X (compareOp .NotIn) (rNotInD K) := e ▸ op_notInD hu
theorem op_in_seqK : OpR X (compareOp .In) (rIn K false) := e ▸ op_in_seq
theorem op_notIn_seqK : OpR X (compareOp .NotIn) (rIn K true) := e ▸ op_notIn_seq
end
theorem hr64 {k : Nat} {A : Around} (r : Room k A) : A.units + 64 < cLine := by have := r.un; omega
theorem gv_cz {σ : L2.St} {B : Hp} {T : Ty} {v : V} (h : ∀ H, T.p v H) : Gv (tC v) σ B T := gv_ct (h B) (Same.refl _)
theorem isDT_o {m : List (List Int × Ty)} : IsDT (oT m).ty m := fun v H h => isDT_s v H (oT_ty h)
theorem isDI_o {m : List (Int × Ty)} : IsDI (oI m).ty m := fun v H h => isDI_s v H (oI_ty h)
theorem isLs_o {K : PySem.W.Frag} {ts : List Ty} : IsLs K (oL ts).ty ts := fun v H h => isLs_l v H (oL_ty h)
/-- every value of T is this data -/
def IsDp (K : PySem.W.Frag) (T : Ty) (d : PyData) : Prop := ∀ v H, T.p v H → Dp K H v d
section
variable {K : PySem.W.Frag} {σ : L2.St} {B : Hp} {A C T : Ty} {ta tb : TE} {d e : PyData}
theorem dp_ints {H : Hp} : ∀ ns : List Int, DpAll K H (ns.map V.int) (ns.map .int)
  | [] => .nil
  | n :: ns => .cons (.int n) (dp_ints ns)
theorem dp_i {i : Int} : IsDp K (yI i) (.int i) := fun v H h => by
  obtain rfl : v = .int i := h
  exact .int i
theorem dp_n : IsDp K yN .none := fun v H h => by
  obtain rfl : v = .non := h
  exact .non
theorem dp_I {ns : List Int} : IsDp K (yIs ns) (dI ns) := fun v H h => by
  obtain ⟨a, rfl, h2⟩ := yIs_iff.mp h
  exact .tup (SqT.of h2) (dp_ints ns)
theorem dp_F {r : Rat} : IsDp K (yF K r) (dF r) := fun v H ⟨a, e, h⟩ => by
  subst e
  exact .tup h (dp_ints [r.num, (r.den : Int)])
theorem dp_all : ∀ {ts : List Ty} {ds : List PyData} {vs : List V} {H : Hp}, ts.length = ds.length → (∀ (i : Nat) T d, ts[i]? = some T → ds[i]? = some d → IsDp K T d) → All ts vs H → DpAll K H vs ds
  | [], [], [], H, _, _, _ => .nil
  | T :: ts, d :: ds, v :: vs, H, hl, h, k => .cons (h 0 T d rfl rfl v H k.1) (dp_all (by simpa using hl) (fun i T d e1 e2 => h (i + 1) T d (by simpa using e1) (by simpa using e2)) k.2)
  | [], _ :: _, _, _, hl, _, _ => by simp at hl
  | _ :: _, [], _, _, hl, _, _ => by simp at hl
  | [], [], _ :: _, _, _, _, k => k.elim
  | _ :: _, _ :: _, [], _, _, _, k => k.elim
theorem dp_t {ts : List Ty} {ds : List PyData} (hl : ts.length = ds.length) (h : ∀ (i : Nat) T d, ts[i]? = some T → ds[i]? = some d → IsDp K T d) : IsDp K (yT ts) (.tuple ds) := fun v H ⟨a, vs, e, h1, k⟩ => by
  subst e
  exact .tup (SqT.of h1) (dp_all hl h k)
theorem dp_map {α : Type} {l : List α} {f : α → Ty} {g : α → PyData} (h : ∀ a ∈ l, IsDp K (f a) (g a)) : ∀ (i : Nat) T d, (l.map f)[i]? = some T → (l.map g)[i]? = some d → IsDp K T d := fun i T d e1 e2 => by
  rw [List.getElem?_map] at e1 e2
  cases e : l[i]? with
  | none => rw [e] at e1; cases e1
  | some a =>
    rw [e] at e1 e2
    cases e1
    cases e2
    exact h a (List.mem_of_getElem? e)
theorem dp_Is {f : List (List Int)} : IsDp K (yT (f.map yIs)) (dIs f) := dp_t (by simp) (dp_map fun a _ => dp_I)
theorem dp_L {f : List (List Int)} : IsDp K (yL (f.map yIs)) (.list (f.map dI)) := fun v H ⟨a, vs, e, h1, k⟩ => by
  subst e
  exact .lst (SqL.of h1) (dp_all (by simp) (dp_map fun a _ => dp_I) k)
theorem gv_eqD (ha : Gv ta σ B A) (hb : Gv tb σ B C) (h1 : IsDp K A d) (h2 : IsDp K C e) (s1 : SeqAt.shaped d = true) (s2 : SeqAt.shaped e = true) : Gv (tOp (rEqD K) ta tb) σ B (yB (PyData.eqv d e)) :=
  gv_op ha hb fun x y B1 H1 _ s hx hy Q q => ⟨d, e, h1 x H1 (A.m s hx), h2 y H1 (C.m s hy), s1, s2, q _ B1 H1 (Gr.refl s) rfl⟩
theorem gv_neD (ha : Gv ta σ B A) (hb : Gv tb σ B C) (h1 : IsDp K A d) (h2 : IsDp K C e) (s1 : SeqAt.shaped d = true) (s2 : SeqAt.shaped e = true) : Gv (tOp (rNeD K) ta tb) σ B (yB (!PyData.eqv d e)) :=
  gv_op ha hb fun x y B1 H1 _ s hx hy Q q => ⟨d, e, h1 x H1 (A.m s hx), h2 y H1 (C.m s hy), s1, s2, q _ B1 H1 (Gr.refl s) rfl⟩
theorem canAll_ints : ∀ ns : List Int, PyData.canLayAll0 (ns.map .int) = true
  | [] => by simp [PyData.canLayAll0]
  | n :: ns => by
    rw [List.map_cons, PyData.canLayAll0, canAll_ints ns]
    simp [PyData.canLay0]
theorem depthAll_ints : ∀ ns : List Int, PyData.depthAll (ns.map .int) = 0
  | [] => by simp [PyData.depthAll]
  | n :: ns => by
    rw [List.map_cons, PyData.depthAll, depthAll_ints ns]
    simp [PyData.depth]
theorem sh_I {ns : List Int} : SeqAt.shaped (dI ns) = true := by
  unfold SeqAt.shaped dI
  rw [PyData.canLay0, canAll_ints, PyData.depth, depthAll_ints]
  rfl
theorem sh_F {r : Rat} : SeqAt.shaped (dF r) = true := sh_I (ns := [r.num, (r.den : Int)])
theorem canAll_tups : ∀ f : List (List Int), PyData.canLayAll0 (f.map dI) = true
  | [] => by simp [PyData.canLayAll0]
  | n :: ns => by
    rw [List.map_cons, PyData.canLayAll0, canAll_tups ns]
    simp [dI, PyData.canLay0, canAll_ints]
theorem depthAll_tups : ∀ f : List (List Int), PyData.depthAll (f.map dI) ≤ 1
  | [] => by simp [PyData.depthAll]
  | n :: ns => by
    have := depthAll_tups ns
    rw [List.map_cons, PyData.depthAll]
    simp [dI, PyData.depth, depthAll_ints]
    omega
theorem sh_Is {f : List (List Int)} : SeqAt.shaped (dIs f) = true := by
  unfold SeqAt.shaped dIs
  rw [PyData.canLay0, canAll_tups, PyData.depth]
  have := depthAll_tups f
  simp
  omega
theorem sh_L {f : List (List Int)} : SeqAt.shaped (.list (f.map dI)) = true := by
  unfold SeqAt.shaped
  rw [PyData.canLay0, canAll_tups, PyData.depth]
  have := depthAll_tups f
  simp
  omega
theorem gv_eqF {x y : Rat} (ha : Gv ta σ B (yF K x)) (hb : Gv tb σ B (yF K y)) : Gv (tOp (rEqD K) ta tb) σ B (yB (decide (x = y))) := by
  rw [← eqv_F]
  exact gv_eqD ha hb dp_F dp_F sh_F sh_F
theorem gv_neF {x y : Rat} (ha : Gv ta σ B (yF K x)) (hb : Gv tb σ B (yF K y)) : Gv (tOp (rNeD K) ta tb) σ B (yB (!decide (x = y))) := by
  rw [← eqv_F]
  exact gv_neD ha hb dp_F dp_F sh_F sh_F
theorem gv_eqI {x y : List Int} (ha : Gv ta σ B (yIs x)) (hb : Gv tb σ B (yIs y)) : Gv (tOp (rEqD K) ta tb) σ B (yB (decide (x = y))) := by
  rw [← eqv_I]
  exact gv_eqD ha hb dp_I dp_I sh_I sh_I
theorem gv_neI {x y : List Int} (ha : Gv ta σ B (yIs x)) (hb : Gv tb σ B (yIs y)) : Gv (tOp (rNeD K) ta tb) σ B (yB (!decide (x = y))) := by
  rw [← eqv_I]
  exact gv_neD ha hb dp_I dp_I sh_I sh_I
/-- t in l, l a list of tuples of ints -/
theorem any_tups {ns : List Int} : ∀ f : List (List Int), ((f.map dI).any fun z => PyData.eqv z (dI ns)) = decide (ns ∈ f)
  | [] => rfl
  | x :: f => by
    rw [List.map_cons, List.any_cons, any_tups f, eqv_I, ← Bool.decide_or]
    congr 1
    rw [List.mem_cons, eq_comm (a := x)]
theorem gv_inL {ns : List Int} {f : List (List Int)} (ha : Gv ta σ B (yIs ns)) (hb : Gv tb σ B (yL (f.map yIs))) : Gv (tOp (rInD K) ta tb) σ B (yB (decide (ns ∈ f))) :=
  gv_op ha hb fun x y B1 H1 _ s hx hy Q q => ⟨dI ns, f.map dI, dp_I x H1 ((yIs ns).m s hx), dp_L y H1 ((yL _).m s hy), sh_I, sh_L, by rw [any_tups]; exact q _ B1 H1 (Gr.refl s) rfl⟩
theorem gv_notinL {ns : List Int} {f : List (List Int)} (ha : Gv ta σ B (yIs ns)) (hb : Gv tb σ B (yL (f.map yIs))) : Gv (tOp (rNotInD K) ta tb) σ B (yB (!decide (ns ∈ f))) :=
  gv_op ha hb fun x y B1 H1 _ s hx hy Q q => ⟨dI ns, f.map dI, dp_I x H1 ((yIs ns).m s hx), dp_L y H1 ((yL _).m s hy), sh_I, sh_L, by rw [any_tups]; exact q _ B1 H1 (Gr.refl s) rfl⟩
/-- i in t, t a tuple of ints -/
theorem inV_ints {i : Int} : ∀ ns : List Int, inV (.int i) (ns.map V.int) = decide (i ∈ ns) := by
  intro ns
  induction ns with
  | nil => rfl
  | cons n ns ih =>
    have e : inV (.int i) ((n :: ns).map V.int) = (eqV (.int n) (.int i) || inV (.int i) (ns.map V.int)) := rfl
    have e2 : eqV (.int n) (.int i) = decide (i = n) := by
      show (n == i) = _
      by_cases h : i = n
      · simp [h]
      · have h' : ¬ n = i := fun z => h z.symm
        simp [h, h']
    rw [e, ih, e2, ← Bool.decide_or]
    congr 1
    rw [List.mem_cons]
theorem gv_inI {neg : Bool} {i : Int} {ns : List Int} (ha : Gv ta σ B (yI i)) (hb : Gv tb σ B (yIs ns)) : Gv (tOp (rIn K neg) ta tb) σ B (yB (if neg then !decide (i ∈ ns) else decide (i ∈ ns))) :=
  gv_op ha hb fun x y B1 H1 _ s hx hy Q q => by
    obtain rfl : x = .int i := hx
    obtain ⟨a, rfl, h⟩ := yIs_iff.mp hy
    refine ⟨a, _, rfl, .inr (SqT.of (s _ _ h)), rfl, ?_, ?_⟩
    · simp [flatV]
    · rw [inV_ints]; exact q _ B1 H1 (Gr.refl s) rfl
/-- t < u -/
theorem gv_ltT {x y : List Int} (ha : Gv ta σ B (yIs x)) (hb : Gv tb σ B (yIs y)) : Gv (tOp (rLtT K) ta tb) σ B (yB (HT.lexLt x y)) :=
  gv_op ha hb fun u v B1 H1 _ s hx hy Q q => by
    obtain ⟨a, rfl, h⟩ := yIs_iff.mp hx
    obtain ⟨b, rfl, h2⟩ := yIs_iff.mp hy
    exact ⟨a, b, x, y, rfl, rfl, SqT.of (s _ _ h), SqT.of (s _ _ h2), q _ B1 H1 (Gr.refl s) rfl⟩
end
end LD
set_option maxRecDepth 100000
set_option maxHeartbeats 4000000
/-! LdRow: rows of fractions as types. -/
namespace LD
open PySem PyProof.Rows L2
def mR (K : PySem.W.Frag) {κ : Type} (a : List (κ × Rat)) : List (κ × Ty) := a.map fun p => (p.1, yF K p.2)
section
variable {K : PySem.W.Frag} {κ : Type} [DecidableEq κ]
theorem mR_keys {a : List (κ × Rat)} : (mR K a).map (·.1) = a.map (·.1) := by
  unfold mR
  rw [List.map_map]
  rfl
theorem mR_look {a : List (κ × Rat)} {k : κ} : look (mR K a) k = (look a k).map (yF K) := by
  induction a with
  | nil => rfl
  | cons p a ih =>
    show look ((p.1, yF K p.2) :: mR K a) k = _
    rw [look, look]
    split
    · rfl
    · exact ih
theorem mR_put {a : List (κ × Rat)} {k : κ} {v : Rat} : put (mR K a) k (yF K v) = mR K (put a k v) := by
  induction a with
  | nil => rfl
  | cons p a ih =>
    show put ((p.1, yF K p.2) :: mR K a) k _ = _
    rw [put, put]
    split
    · rfl
    · rw [ih]; rfl
theorem mR_drop {a : List (κ × Rat)} {k : κ} : drop (mR K a) k = mR K (drop a k) := by
  unfold drop mR
  rw [List.filter_map]
  rfl
theorem mR_len {a : List (κ × Rat)} : (mR K a).length = a.length := by unfold mR; rw [List.length_map]
theorem mR_at {a : List (κ × Rat)} {i : Nat} {p : κ × Ty} (h : (mR K a)[i]? = some p) : ∃ q, a[i]? = some q ∧ p = (q.1, yF K q.2) := by
  unfold mR at h
  rw [List.getElem?_map] at h
  cases e : a[i]? with
  | none => rw [e] at h; cases h
  | some q => rw [e] at h; exact ⟨q, rfl, (Option.some.inj h).symm⟩
theorem mR_get {a : List (κ × Rat)} {k : κ} {v : Rat} (h : look a k = some v) : look (mR K a) k = some (yF K v) := by rw [mR_look, h]; rfl
theorem mR_val {a : List (κ × Rat)} {k : κ} : (look (mR K a) k).getD (yF K 0) = yF K (val a k) := by
  rw [mR_look]
  unfold val
  cases look a k <;> rfl
theorem fz_mR {a : List (κ × Rat)} : ∀ p ∈ mR K a, Frz p.2 := fun p hp => by
  obtain ⟨q, _, rfl⟩ := List.mem_map.mp hp
  exact frz_f
theorem uz_mR {a : List (κ × Rat)} : ∀ p ∈ mR K a, Unf p.2 := fun p hp => by
  obtain ⟨q, _, rfl⟩ := List.mem_map.mp hp
  exact unf_f
end
end LD
set_option maxRecDepth 100000
set_option maxHeartbeats 4000000
/-! LdDg: dict comprehensions told by types. -/
namespace LD
open PySem PyProof.Rows L2
theorem Gr.join {B H B' B1 H1 : Hp} (s : Same B B') (a : Same B' H) (g : Gr B H B1 H1) : ∃ J, Gr B' H J H1 ∧ Same B1 J := by
  let J : Hp := fun x => match B' x with | some o => some o | none => B1 x
  have hB : Same B' J := fun x o e => by show (match B' x with | some o => some o | none => B1 x) = some o; rw [e]
  have hJ : Same B1 J := fun x o e => by
    show (match B' x with | some o => some o | none => B1 x) = some o
    cases e2 : B' x with
    | none => exact e
    | some o2 =>
      have h1 := g.in_ x o e
      have h2 := g.hs x o2 (a x o2 e2)
      rw [h1] at h2
      exact h2.symm
  refine ⟨J, ⟨hB, g.hs, fun x o e => ?_, fun x hx => ?_⟩, hJ⟩
  · have e : (match B' x with | some o => some o | none => B1 x) = some o := e
    cases e2 : B' x with
    | none => rw [e2] at e; exact g.in_ x o e
    | some o2 =>
      rw [e2] at e
      have z : o2 = o := Option.some.inj e
      subst z
      exact g.hs x _ (a x _ e2)
  · have hx : (match B' x with | some o => some o | none => B1 x) ≠ none := hx
    cases e2 : B' x with
    | some o2 => exact .inl fun z => nomatch z
    | none =>
      rw [e2] at hx
      rcases g.nw x hx with k | k | k
      · exfalso
        cases e3 : B x with
        | none => exact k e3
        | some o3 => rw [s x o3 e3] at e2; cases e2
      · exact .inr (.inl k)
      · exact .inr (.inr k)
theorem WalkT.m {J : It} {n : Nat} {B B' : Hp} {Ts : Nat → Ty} (s : Same B B') (w : WalkT J n B Ts) : WalkT J n B' Ts := by
  obtain ⟨G, Y, w, hG, hY⟩ := w
  exact ⟨G, Y, w, fun H h => hG H (s.trans h), fun i B1 H x H' hi s1 s2 y => hY i B1 H x H' hi (s.trans s1) s2 y⟩
theorem GvI.m {σ : L2.St} {B : Hp} {wi : TI} {n : Nat} {Ts : Nat → Ty} {B' : Hp} (s : Same B B') (h : GvI wi σ B n Ts) : GvI wi σ B' n Ts := fun H a R r => by
  refine h H (s.trans a) R fun J B1 H1 g w => ?_
  obtain ⟨Jb, g2, s2⟩ := g.join s a
  exact r J Jb H1 g2 (w.m s2)
/-- what a block's body does to the dict that is made at D -/
def RbO (rb : RB) (σ : L2.St) (B : Hp) (R R' : OT) : Prop := ∀ (D : Addr) B1, Same B B1 → ∀ B0 H0 H, H0 D = none → Gr B0 H0 B1 H → Ow D R B1 H → ∀ Nx : Hp → Prop, (∀ B' H', Gr B0 H0 B' H' → Ow D R' B' H' → Nx H') → rb D σ H Nx
section
variable {σ : L2.St} {B : Hp} {T : Ty} {tk tv : TE} {m : List (List Int × Ty)} {mi : List (Int × Ty)}
theorem rb_putT {k : List Int} (hk : Gv tk σ B (yIs k)) (hv : Gv tv σ B T) (hn : (m.map (·.1)).Nodup) (hl : m.length < 100000) : RbO (rPut tk tv) σ B (oT m) (oT (put m k T)) := fun D B1 s B0 H0 H hD g w Nx nx =>
  (hk.m s) H g.in_ _ fun y B2 H2 g2 hy => ((hv.m s).m g2.bs) H2 g2.in_ _ fun z B3 H3 g3 hz => by
    have w3 := (w.m g2).m g3
    obtain ⟨o, h1, kvs, rfl, h2⟩ := w3.ex
    obtain ⟨b, rfl, hb⟩ := key_of_is ((yIs k).m g3.bs hy)
    exact ⟨_, DPut.t h1 (g3.in_ _ _ hb) (by rw [h2.len]; exact size_lt hl), nx B3 _ (((g.trans g2).trans g3).put w3 hD) (w3.put ⟨_, rfl, DAll.put hz k hn h2⟩)⟩
theorem rb_putI {k : Int} (hk : Gv tk σ B (yI k)) (hv : Gv tv σ B T) (hn : (mi.map (·.1)).Nodup) (hl : mi.length < 100000) : RbO (rPut tk tv) σ B (oI mi) (oI (put mi k T)) := fun D B1 s B0 H0 H hD g w Nx nx =>
  (hk.m s) H g.in_ _ fun y B2 H2 g2 hy => ((hv.m s).m g2.bs) H2 g2.in_ _ fun z B3 H3 g3 hz => by
    have w3 := (w.m g2).m g3
    obtain ⟨o, h1, kvs, rfl, h2⟩ := w3.ex
    obtain rfl : y = .int k := hy
    exact ⟨_, DPut.k (k := Sum.inl k) h1 (by rw [h2.len]; exact size_lt hl), nx B3 _ (((g.trans g2).trans g3).put w3 hD) (w3.put ⟨_, rfl, DAllI.put hz k hn h2⟩)⟩
/-- the turns of a block -/
theorem dg_it {J : It} {n : Nat} {G : Hp → Prop} {Y : Nat → Hp → V → Hp → Prop} (w : Walk J n G Y) {g : TG} {tt : TT} {rb : RB} {vs : List Nat} {H1 : Hp} {D : Addr} {Qd : Hp → Prop} (Pv : Nat → Hp → Prop) (h0 : Pv 0 H1) (hG : ∀ i H, i ≤ n → Pv i H → G H)
    (hs : ∀ i x H H', i < n → Pv i H → Y i H x H' → g x (wipe σ vs) H' fun σ2 H2 => wipe σ2 vs = wipe σ vs ∧ tt σ2 H2 fun b H3 => if b = true then rb D σ2 H3 (Pv (i + 1)) else Pv (i + 1) H3) (hd : ∀ H, Pv n H → Qd H) :
    ∃ W : Nat → Nat → Hp → Prop, (∃ m, W 0 m H1) ∧ ∀ i m H, W i m H →
      (J.stop i H ∧ Qd H) ∨ (J.go i H ∧ ∃ Nx : Hp → Prop, (∀ H', Nx H' → ∃ m', m' < m ∧ W (i + 1) m' H') ∧ ∀ x H', J.yld i H x H' → g x (wipe σ vs) H' fun σ2 H2 => wipe σ2 vs = wipe σ vs ∧ tt σ2 H2 fun b H3 =>
        if b = true then rb D σ2 H3 Nx else Nx H3) := by
  refine ⟨fun i m H => m = n - i ∧ i ≤ n ∧ Pv i H, ⟨n, by simp, Nat.zero_le _, h0⟩, ?_⟩
  rintro i m H ⟨rfl, hi, p⟩
  have q := hG i H hi p
  by_cases hlt : i < n
  · refine .inr ⟨w.goes i H hlt q, Pv (i + 1), fun H' p' => ⟨n - (i + 1), by omega, rfl, hlt, p'⟩, fun x H' y => hs i x H H' hlt p (w.yields i H x H' hlt q y)⟩
  · have e : i = n := by omega
    subst e
    exact .inl ⟨w.stops H q, hd H p⟩
section
variable {wi : TI} {n : Nat} {Ts : Nat → Ty} {g : TG} {tt : TT} {rb : RB} {vs : List Nat} {RR : Nat → OT}
/-- one turn -/
theorem dg_turn {D : Addr} {B0 H0 B1 : Hp} (hs : ∀ (i : Nat) x B2 H2, i < n → Same B B2 → Same B2 H2 → (Ts i).p x B2 → ∀ Rq : L2.St → Hp → Prop, (∀ σ2, wipe σ2 vs = wipe σ vs → ∀ fi : Bool, GvT tt σ2 B2 fi → (fi = true → RbO rb σ2 B2 (RR i) (RR (i + 1))) → (fi = false → RR (i + 1) = RR i) → Rq σ2 H2) → g x (wipe σ vs) H2 Rq)
    (hD : H0 D = none) (sB : Same B B1) {Y : Nat → Hp → V → Hp → Prop}
    (hY2 : ∀ (i : Nat) B' H x H', i < n → Same B1 B' → Same B' H → Y i H x H' → ∃ B'', Gr B' H B'' H' ∧ (Ts i).p x B'') (i : Nat) (x : V) (H' H'' : Hp) (hlt : i < n) (h : ∃ B', Same B1 B' ∧ Gr B0 H0 B' H' ∧ Ow D (RR i) B' H') (hy : Y i H' x H'') :
    g x (wipe σ vs) H'' fun σ2 H2 => wipe σ2 vs = wipe σ vs ∧ tt σ2 H2 fun b H3 => if b = true then rb D σ2 H3 (fun H4 => ∃ B', Same B1 B' ∧ Gr B0 H0 B' H4 ∧ Ow D (RR (i + 1)) B' H4) else ∃ B', Same B1 B' ∧ Gr B0 H0 B' H3 ∧ Ow D (RR (i + 1)) B' H3 := by
  obtain ⟨B', s1, gg, w⟩ := h
  obtain ⟨B'', g2, hx⟩ := hY2 i B' H' x H'' hlt s1 gg.in_ hy
  have w2 := w.m g2
  refine hs i x B'' H'' hlt ((sB.trans s1).trans g2.bs) g2.in_ hx _ fun σ2 e2 fi ht he hne => ⟨e2, ht H'' g2.in_ _ fun B3 H3 g3 => ?_⟩
  have w3 := w2.m g3
  have gg3 := (gg.trans g2).trans g3
  have s3 := (s1.trans g2.bs).trans g3.bs
  cases fi with
  | true =>
    refine iteT ?_
    -- the body runs from B3 on; what it publishes holds B1 still
    refine he rfl D B3 g3.bs B3 (fun a => if a = D then none else H3 a) H3 (by simp) ⟨Same.refl _, fun a o e => by
      by_cases z : a = D
      · subst z; simp at e
      · simpa [z] using e, gg3.in_, fun a h => .inl h⟩ w3 _ fun B4 H4 g4 w4 => ⟨B4, s3.trans g4.bs, ⟨gg3.bs.trans g4.bs, fun a o e => ?_, g4.in_, fun a h => ?_⟩, w4⟩
    · have ne : a ≠ D := fun z => by rw [z, hD] at e; cases e
      exact g4.hs a o (by show (if a = D then none else H3 a) = _; rw [if_neg ne]; exact gg3.hs a o e)
    · by_cases z : a = D
      · subst z; exact .inr (.inl hD)
      · rcases g4.nw a h with k | k | ⟨xs, k⟩
        · exact gg3.nw a k
        · have k : (if a = D then none else H3 a) = none := k
          rw [if_neg z] at k
          exact .inr (.inl (gg3.hs.free k))
        · have k : (if a = D then none else H3 a) = some (.tup xs) := k
          rw [if_neg z] at k
          cases e : H0 a with
          | none => exact .inr (.inl rfl)
          | some o =>
            rw [gg3.hs a o e] at k
            exact .inr (.inr ⟨xs, k⟩)
  | false =>
    refine iteF ⟨B3, s3, gg3, ?_⟩
    rw [hne rfl]
    exact w3
theorem gv_dg {o : HO} (ho : ∀ B, (RR 0).p o B) (hi : GvI wi σ B n Ts)
    (hs : ∀ (i : Nat) x B2 H2, i < n → Same B B2 → Same B2 H2 → (Ts i).p x B2 → ∀ Rq : L2.St → Hp → Prop, (∀ σ2, wipe σ2 vs = wipe σ vs → ∀ fi : Bool, GvT tt σ2 B2 fi → (fi = true → RbO rb σ2 B2 (RR i) (RR (i + 1))) → (fi = false → RR (i + 1) = RR i) → Rq σ2 H2) → g x (wipe σ vs) H2 Rq) :
    Gv (tDg o wi g tt rb vs) σ B (RR n).ty := fun H s Q q => by
  refine hi H s _ fun J B1 H1 g1 hw D hD => ?_
  obtain ⟨G, Y, w, hG, hY⟩ := hw
  refine dg_it w (fun i H' => ∃ B', Same B1 B' ∧ Gr B1 H1 B' H' ∧ Ow D (RR i) B' H') ⟨B1, Same.refl _, Gr.own g1.in_ hD, Ow.new g1.in_ hD (ho B1)⟩ (fun i H' _ h => ?_) (fun i x H' H'' hlt h hy => dg_turn hs hD g1.bs hY i x H' H'' hlt h hy) (fun H' h => ?_)
  · obtain ⟨B', s1, gg, _⟩ := h
    exact hG H' (s1.trans gg.in_)
  · obtain ⟨B', s1, gg, w2⟩ := h
    obtain ⟨B2, g2, s2, hp⟩ := w2.pub gg hD
    exact q _ _ _ (g1.trans g2) hp
/-- for target1 in iter1: the rest -/
theorem rb_for (hi : GvI wi σ B n Ts)
    (hs : ∀ (i : Nat) x B2 H2, i < n → Same B B2 → Same B2 H2 → (Ts i).p x B2 → ∀ Rq : L2.St → Hp → Prop, (∀ σ2, wipe σ2 vs = wipe σ vs → ∀ fi : Bool, GvT tt σ2 B2 fi → (fi = true → RbO rb σ2 B2 (RR i) (RR (i + 1))) → (fi = false → RR (i + 1) = RR i) → Rq σ2 H2) → g x (wipe σ vs) H2 Rq) :
    RbO (rFor wi g tt vs rb) σ B (RR 0) (RR n) := fun D B1 s B0 H0 H hD gg w0 Nx nx => by
  refine (hi.m s) H gg.in_ _ fun J B2 H2 g2 hw => ?_
  obtain ⟨G, Y, w, hG, hY⟩ := hw
  have gg2 := gg.trans g2
  refine dg_it w (fun i H' => ∃ B', Same B2 B' ∧ Gr B0 H0 B' H' ∧ Ow D (RR i) B' H') ⟨B2, Same.refl _, gg2, w0.m g2⟩ (fun i H' _ h => ?_) (fun i x H' H'' hlt h hy => dg_turn hs hD (s.trans g2.bs) hY i x H' H'' hlt h hy) (fun H' h => ?_)
  · obtain ⟨B', s1, gg, _⟩ := h
    exact hG H' (s1.trans gg.in_)
  · obtain ⟨B', s1, gg, w2⟩ := h
    exact nx B' H' gg w2
end
end
section
variable {σ : L2.St} {B : Hp} {T : Ty} {tk tv : TE}
/-- {k: v} -/
theorem gv_disp1I {i : Int} (hk : Gv tk σ B (yI i)) (hv : Gv tv σ B T) : Gv (tDisp [(tk, tv)]) σ B (yDI [(i, T)]) := fun H s Q q p hp => by
  have w0 : Ow p (oI []) B (upd H p (.dK [])) := Ow.new s hp ⟨[], rfl, trivial⟩
  have g0 : Gr B H B (upd H p (.dK [])) := Gr.own s hp
  refine hk _ g0.in_ _ fun y B1 H1 g1 hy => (hv.m g1.bs) H1 g1.in_ _ fun z B2 H2 g2 hz => ?_
  obtain rfl : y = .int i := hy
  have g := g1.trans g2
  have w2 := w0.m g
  obtain ⟨o, h1, kvs, rfl, h2⟩ := w2.ex
  have hkv : kvs = [] := by
    cases kvs with
    | nil => rfl
    | cons _ _ => exact h2.elim
  subst hkv
  refine ⟨h1, [(Sum.inl i, z)], rfl, by simp, ?_⟩
  have w3 : Ow p (oI [(i, T)]) B2 (upd H2 p (.dK [(Sum.inl i, z)])) := w2.put ⟨_, rfl, rfl, hz, trivial⟩
  obtain ⟨B3, g3, s3, h3⟩ := w3.pub ((g0.trans g).put w2 hp) hp
  exact q _ B3 _ g3 (oI_ty h3)
/-- {t: v}, t a tuple of ints -/
theorem hq_disp1T {i : Nat} {H : Hp} {D : Ends} {tz : TS} {ks : List Int} (s : Same B H) (hk : Gv tk σ B (yIs ks)) (hv : Gv tv σ B T) (k : ∀ d B1 H1, Gr B H B1 H1 → H d = none → Ow d (oT [(ks, T)]) B1 H1 → tz D (σ.set i (some (.ref d))) H1) : tSeq (tAsg (tDisp1T tk tv) (gName i)) tz D σ H := fun p hp => by
  have w0 : Ow p (oT []) B (upd H p (.dT [])) := Ow.new s hp ⟨[], rfl, trivial⟩
  have g0 : Gr B H B (upd H p (.dT [])) := Gr.own s hp
  refine hk _ g0.in_ _ fun y B1 H1 g1 hy => (hv.m g1.bs) H1 g1.in_ _ fun z B2 H2 g2 hz => ?_
  have g := g1.trans g2
  have w2 := w0.m g
  obtain ⟨o, h1, kvs, rfl, h2⟩ := w2.ex
  have hkv : kvs = [] := by
    cases kvs with
    | nil => rfl
    | cons _ _ => exact h2.elim
  subst hkv
  obtain ⟨b, rfl, hb⟩ := key_of_is hy
  have w3 : Ow p (oT [(ks, T)]) B2 (upd H2 p (.dT [(keyL ks, z)])) := w2.put ⟨_, rfl, rfl, hz, trivial⟩
  exact ⟨b, keyL ks, rfl, g2.in_ _ _ (g2.bs _ _ hb), h1, k p B2 _ ((g0.trans g).put w2 hp) hp w3⟩
end
end LD
local macro_rules | `(tactic| walk_at "nm") => `(tactic| (simp only [List.map_cons, List.map_nil, List.nil_append, List.cons_append]; decide))
local macro_rules | `(tactic| walk_at "sm") => `(tactic| first
  | exact L2.Same.refl _
  | assumption
  | exact LD.Gr.bs (by assumption)
  | exact LD.Gr.in_ (by assumption)
  | (refine L2.Same.trans ?_ (LD.Gr.bs (by assumption)); walk_at "sm")
  | (refine L2.Same.trans ?_ (LD.Gr.in_ (by assumption)); walk_at "sm")
  | (refine' L2.Same.trans ?q8x ?q8y; (case' q8y => assumption); (case' q8x => walk_at "sm")))
local macro_rules | `(tactic| walk_at "gv") => `(tactic| first
  | exact LD.gv_cz (by assumption)
  | exact LD.gv_c
  | exact LD.gt_yes
  | refine LD.gv_var (by rfl) (by assumption) (by walk_at "sm")
  | exact LD.gv_v (by rfl)
  | (refine' LD.gv_I0 ?q15a ?q15b; (case' q15b => walk_at "gv"); (case' q15a => walk_at "gv"))
  | (refine' LD.gv_IC ?q16a ?q16b ?q16c; (case' q16b => walk_at "gv"); (case' q16a => walk_at "gv"))
  | (refine' LD.gv_abs ?q17a; (case' q17a => walk_at "gv"))
  | (refine' LD.gv_int ?q18a; (case' q18a => walk_at "gv"))
  | (refine' LD.gv_neg ?q19a; (case' q19a => walk_at "gv"))
  | (refine' LD.gv_max2 ?q20a ?q20b; (case' q20b => walk_at "gv"); (case' q20a => walk_at "gv"))
  | (refine' LD.gv_ixT ?q21a ?q21b ?q21t ?q21d ?qe; (case' q21a => walk_at "gv"); (case' q21b => walk_at "gv"); (case' q21t => first | exact LD.isTu_f | exact LD.isTu_t | skip); (case' q21d => first | rfl | skip); (case' qe => first | rfl | skip))
  | (refine' LD.gv_ixL ?q22a ?q22b ?q22t ?q22d ?qe; (case' q22a => walk_at "gv"); (case' q22b => walk_at "gv"); (case' q22t => first | exact LD.isLs_l | skip); (case' q22d => first | rfl | skip); (case' qe => first | rfl | skip))
  | (refine' LD.gv_lenT ?q23a ?q23t; (case' q23a => walk_at "gv"); (case' q23t => first | exact LD.isTu_f | exact LD.isTu_t))
  | (refine' LD.gv_lenL ?q24a ?q24t; (case' q24a => walk_at "gv"); (case' q24t => exact LD.isLs_l))
  | (refine' LD.gv_dget ?q25a ?q25b ?q25t ?qe; (case' q25a => walk_at "gv"); (case' q25b => walk_at "gv"); (case' q25t => first | exact LD.isDT_s | exact LD.isDT_r | exact LD.isDT_o); (case' qe => first | exact LD.mR_get (by assumption) | assumption | skip))
  | (refine' LD.gv_dgetI ?q26a ?q26b ?q26t ?qe; (case' q26a => walk_at "gv"); (case' q26b => walk_at "gv"); (case' q26t => first | exact LD.isDI_s | exact LD.isDI_r | exact LD.isDI_o); (case' qe => first | exact LD.mR_get (by assumption) | assumption | skip))
  | (refine' LD.gv_dget2 ?q27a ?q27b ?q27c ?q27t ?qe; (case' q27a => walk_at "gv"); (case' q27b => walk_at "gv"); (case' q27c => walk_at "gv"); (case' q27t => first | exact LD.isDT_s | exact LD.isDT_r | exact LD.isDT_o); (case' qe => first | exact LD.mR_val | rfl | skip))
  | (refine' LD.gv_dget2I ?q28a ?q28b ?q28c ?q28t ?qe; (case' q28a => walk_at "gv"); (case' q28b => walk_at "gv"); (case' q28c => walk_at "gv"); (case' q28t => first | exact LD.isDI_s | exact LD.isDI_r | exact LD.isDI_o); (case' qe => first | exact LD.mR_val | rfl | skip))
  | (refine' LD.gv_din ?q29b ?q29a ?q29t; (case' q29b => walk_at "gv"); (case' q29a => walk_at "gv"); (case' q29t => first | exact LD.isDT_s | exact LD.isDT_r | exact LD.isDT_o))
  | (refine' LD.gv_dinI ?q30b ?q30a ?q30t; (case' q30b => walk_at "gv"); (case' q30a => walk_at "gv"); (case' q30t => first | exact LD.isDI_s | exact LD.isDI_r | exact LD.isDI_o))
  | (refine' LD.gv_dnotin ?q31b ?q31a ?q31t; (case' q31b => walk_at "gv"); (case' q31a => walk_at "gv"); (case' q31t => first | exact LD.isDT_s | exact LD.isDT_r | exact LD.isDT_o))
  | (refine' LD.gv_eqF ?q32a ?q32b; (case' q32b => walk_at "gv"); (case' q32a => walk_at "gv"))
  | (refine' LD.gv_neF ?q33a ?q33b; (case' q33b => walk_at "gv"); (case' q33a => walk_at "gv"))
  | (refine' LD.gv_eqI ?q34a ?q34b; (case' q34b => walk_at "gv"); (case' q34a => walk_at "gv"))
  | (refine' LD.gv_neI ?q35a ?q35b; (case' q35b => walk_at "gv"); (case' q35a => walk_at "gv"))
  | (refine' LD.gv_fld ?q36a ?q36c ?q36m ?qe; (case' q36a => walk_at "gv"); (case' q36c => assumption); (case' q36m => first | decide | skip); (case' qe => first | rfl | skip))
  | (refine' LD.gv_eq ?q37a ?q37b ?q37c; (case' q37b => walk_at "gv"); (case' q37a => walk_at "gv"); (case' q37c => first | rfl | skip))
  | (refine' LD.gv_ne ?q38a ?q38b ?q38c; (case' q38b => walk_at "gv"); (case' q38a => walk_at "gv"); (case' q38c => first | rfl | skip))
  | exact LD.gv_tup0
  | (refine' LD.gv_tup1 ?q40a; (case' q40a => walk_at "gv"))
  | (refine' LD.gv_tup2 ?q41a ?q41b; (case' q41b => walk_at "gv"); (case' q41a => walk_at "gv"))
  | (refine' LD.gv_tup3 ?q42a ?q42b ?q42c; (case' q42c => walk_at "gv"); (case' q42b => walk_at "gv"); (case' q42a => walk_at "gv"))
  | exact LD.gv_lst0
  | (refine' LD.gv_lst1 ?q44a; (case' q44a => walk_at "gv"))
  | (refine' LD.gv_isi ?q45a ?q45b ?q45c ?q45d; (case' q45a => walk_at "gv"); (case' q45b => walk_at "gv"); (case' q45c => first | exact LD.isa_int | exact LD.isa_tup | skip); (case' q45d => first | exact LD.kit_ii | exact LD.kit_ib | exact LD.kit_tt | exact LD.kit_dd | skip))
  | (refine' LD.gv_notB ?q46a; (case' q46a => walk_at "gv"))
  | (refine' LD.gv_andB ?q47a (fun hh => ?q47b); (case' q47a => walk_at "gv"); (case' q47b => walk_at "gv"))
  | (refine' LD.gv_chainI ?q48a ?q48b ?q48c; (case' q48c => walk_at "gv"); (case' q48b => walk_at "gv"); (case' q48a => walk_at "gv"))
  | (refine' LD.gt_test ?q49a; (case' q49a => walk_at "gv"))
  | (refine' LD.gt_B ?q50a; (case' q50a => walk_at "gv"))
  | (refine' LD.gt_not ?q51a; (case' q51a => walk_at "gv"))
  | (refine' LD.gt_and ?q52a (fun hh => ?q52b); (case' q52a => walk_at "gv"); (case' q52b => walk_at "gv"))
  | (refine' LD.gt_or ?q53a (fun hh => ?q53b); (case' q53a => walk_at "gv"); (case' q53b => walk_at "gv"))
  | (refine' LD.gv_all ?lst; (case' lst => first | walk_at "gv" | skip))
  | (refine' LD.gv_tupL ?tpl; (case' tpl => first | walk_at "gv" | skip))
  | (refine' LD.gv_disp1I ?q54a ?q54b; (case' q54a => walk_at "gv"); (case' q54b => walk_at "gv"))
  | (refine' LD.gv_lenD ?q55a; (case' q55a => walk_at "gv"))
  | (refine' LD.gv_mk ?q56a ?r; (case' q56a => walk_at "ga"))
  | (refine' LD.gv_me ?q57a ?q57n ?q57b (LD.gives_G ?r); (case' q57a => walk_at "gv"); (case' q57n => first | walk_at "nm" | skip); (case' q57b => walk_at "ga"))
  | (refine' LD.gv_cl ?cl (LD.gives_G ?r); (case' cl => walk_at "ga")))
local macro_rules | `(tactic| walk_at "ga") => `(tactic| first
  | exact LD.ga_nil
  | (refine' LD.ga_1 ?one; (case' one => walk_at "gv"))
  | (refine' LD.ga_2 ?q62a ?q62b; (case' q62b => walk_at "gv"); (case' q62a => walk_at "gv"))
  | (refine' LD.ga_3 ?q63a ?q63b ?q63c; (case' q63c => walk_at "gv"); (case' q63b => walk_at "gv"); (case' q63a => walk_at "gv"))
  | (refine' LD.ga_4 ?q64a ?q64b ?q64c ?q64d; (case' q64d => walk_at "gv"); (case' q64c => walk_at "gv"); (case' q64b => walk_at "gv"); (case' q64a => walk_at "gv"))
  | (refine' LD.ga_5 ?q65a ?q65b ?q65c ?q65d ?q65e; (case' q65e => walk_at "gv"); (case' q65d => walk_at "gv"); (case' q65c => walk_at "gv"); (case' q65b => walk_at "gv"); (case' q65a => walk_at "gv")))
set_option maxRecDepth 100000
set_option maxHeartbeats 4000000
/-! LdFrac: lastdoors.fractions -/

namespace LD
open PySem PyProof.Rows L2
abbrev s_common : Stmt := topS 8
theorem sc_common : FnScope ["one", "other"] ["one", "other"] (defScope s_common) :=
  ⟨rfl, rfl, rfl, by decide +kernel, rfl, by decide +kernel, by decide +kernel⟩
abbrev s_made : Stmt := topS 9
theorem sc_made : FnScope ["top", "bottom", "divisor"] ["top", "bottom"] (defScope s_made) :=
  ⟨rfl, rfl, rfl, by decide +kernel, rfl, by decide +kernel, by decide +kernel⟩
abbrev s_whole : Stmt := topS 10
theorem sc_whole : FnScope ["number"] ["number"] (defScope s_whole) :=
  ⟨rfl, rfl, rfl, by decide +kernel, rfl, by decide +kernel, by decide +kernel⟩
abbrev s_plus : Stmt := topS 11
theorem sc_plus : FnScope ["one", "other"] ["one", "other"] (defScope s_plus) :=
  ⟨rfl, rfl, rfl, by decide +kernel, rfl, by decide +kernel, by decide +kernel⟩
abbrev s_minus : Stmt := topS 12
theorem sc_minus : FnScope ["one", "other"] ["one", "other"] (defScope s_minus) :=
  ⟨rfl, rfl, rfl, by decide +kernel, rfl, by decide +kernel, by decide +kernel⟩
abbrev s_times : Stmt := topS 13
theorem sc_times : FnScope ["one", "other"] ["one", "other"] (defScope s_times) :=
  ⟨rfl, rfl, rfl, by decide +kernel, rfl, by decide +kernel, by decide +kernel⟩
abbrev s_over : Stmt := topS 14
theorem sc_over : FnScope ["one", "other"] ["one", "other"] (defScope s_over) :=
  ⟨rfl, rfl, rfl, by decide +kernel, rfl, by decide +kernel, by decide +kernel⟩
theorem Sz.d {n : Nat} {x : Rat} (h : Sz n x) : ((x.den : Int)).natAbs < 2 ^ n := h.2
theorem prod_ne {i j : Int} (hi : i ≠ 0) (hj : j ≠ 0) (h1 : i.natAbs < 2 ^ 4000) (h2 : j.natAbs < 2 ^ 4000) : i * j ≠ 0 ∧ (i * j).natAbs < 2 ^ 9000 :=
  ⟨Int.mul_ne_zero hi hj, Nat.lt_of_lt_of_le (wide_lt h1 h2) (Nat.pow_le_pow_right (by decide) (by decide))⟩
theorem den_prod {x y : Rat} (h1 : x.den < 2 ^ 4000) (h2 : y.den < 2 ^ 4000) : (x.den : Int) * y.den ≠ 0 ∧ ((x.den : Int) * y.den).natAbs < 2 ^ 9000 :=
  prod_ne (by have := x.den_nz; omega) (by have := y.den_nz; omega) h1 h2
section
variable {P : Program} {w : World} {K : PySem.W.Frag} {mg : Str → Option Value} {base : Heap}
theorem gcd_step {u z : Int} (hu : 0 ≤ u) (hz : 0 ≤ z) : Int.gcd z (u % z) = Int.gcd u z := by
  obtain ⟨n, rfl⟩ := Int.eq_ofNat_of_zero_le hu
  obtain ⟨m, rfl⟩ := Int.eq_ofNat_of_zero_le hz
  simp only [Int.gcd, ← Int.natCast_emod, Int.natAbs_natCast]
  rw [Nat.gcd_comm m, ← Nat.gcd_rec, Nat.gcd_comm]
inductive Rcommon : List Ty → Ty → Prop
  | mk (a b : Int) : Rcommon [yI a, yI b] (yI (Int.gcd a b : Nat))
theorem ok_common (D : Def K mg "common" s_common ["one", "other"]) (bl : Blt mg) : Cal P w K mg base "common" 1 ["one", "other"] (spG Rcommon) := by
  have sc := sc_common
  refine D.ok sc (fun Ts T r => by cases r; rfl) (fun f cdv A outer s H vs E B Ts T r sb a hr => ?_)
  refine ⟨_, (pss_cons (ps_par (i := 0) (j := 1) (by rfl) sc.nd rfl rfl (by decide) rfl rfl (pa_cons (pb_abs bl.abs_ (pa_cons (pv 0) pa_nil)) (pa_cons (pb_abs bl.abs_ (pa_cons (pv 1) pa_nil)) pa_nil)) (by rfl))
(pss_cons (ps_while PassesOwn.never (pt_cmpR op_gt (pv 1) pe_int (nomark _))
  (pss_one (ps_par (i := 0) (j := 1) (by rfl) sc.nd rfl rfl (by decide) rfl rfl (pa_cons (pv 1) (pa_cons (pe_op op_modN (pv 0) (pv 1)) pa_nil)) (by rfl))))
(pss_one (ps_ret (pv 0))))), fun Q q => ?_⟩
  cases r with
  | mk x y =>
  obtain ⟨v, w', rfl, rfl, rfl⟩ := all2 a
  refine sq_par (A := yI (x.natAbs : Int)) (C := yI (y.natAbs : Int)) sb (by walk_at "ga") fun v w' B1 H1 g1 hv hw => ?_
  obtain rfl : v = .int (x.natAbs : Int) := hv
  obtain rfl : w' = .int (y.natAbs : Int) := hw
  refine sq_while (fun m σ B2 H2 => ∃ u z : Int, σ = [some (.int u), some (.int z)] ∧ 0 ≤ u ∧ 0 ≤ z ∧ m = z.toNat ∧ Int.gcd u z = Int.gcd x y ∧ Gr B H B2 H2) g1.in_ _ ⟨_, _, rfl, by omega, by omega, rfl, by simp [Int.gcd], g1⟩ fun m σ B2 H2 s2 h => ?_
  obtain ⟨u, z, rfl, hu, hz, hm, hg, g2⟩ := h
  refine ⟨decide (0 < z), by walk_at "gv", fun hb B3 H3 g3 => ?_, fun hb B3 H3 g3 => ?_⟩
  · have hb := of_decide_eq_true hb
    refine st_par (A := yI z) (C := yI (u.fmod z)) g3.in_ ?_ fun v w' B4 H4 g4 hv hw => ?_
    · walk_at "ga"
      show z ≠ 0
      omega
    obtain rfl : v = .int z := hv
    obtain rfl : w' = .int (u.fmod z) := hw
    have e1 : u.fmod z = u % z := Int.fmod_eq_emod_of_nonneg _ (by omega)
    have h1 := Int.emod_nonneg u (show z ≠ 0 by omega)
    have h2 := Int.emod_lt_of_pos u hb
    refine ⟨(u.fmod z).toNat, B4, g4.in_, by omega, z, u.fmod z, rfl, by omega, by omega, rfl, ?_, (g2.trans g3).trans g4⟩
    rw [e1, ← hg]
    exact gcd_step hu hz
  · have hb := of_decide_eq_false hb
    have hz0 : z = 0 := by omega
    subst hz0
    refine st_ret (T := yI u) g3.in_ (by walk_at "gv") ?_
    have e : u = (Int.gcd x y : Nat) := by
      rw [← hg, Int.gcd_zero_right]
      omega
    rw [e]
    exact q.go (g2.trans g3)
/-- the sizes that made's own steps ask -/
inductive Rmade (K : PySem.W.Frag) : List Ty → Ty → Prop
  | mk (a b : Int) (hb : b ≠ 0) (h : b.natAbs < 2 ^ 9000) : Rmade K [yI a, yI b] (yT [yI (Rat.divInt a b).num, yI (Rat.divInt a b).den])
theorem ok_made (D : Def K mg "made" s_made ["top", "bottom"]) (bl : Blt mg) (c_common : Cal P w K mg base "common" 1 ["one", "other"] (spG Rcommon)) : Cal P w K mg base "made" 2 ["top", "bottom"] (spG (Rmade K)) := by
  have sc := sc_made
  refine D.ok sc (fun Ts T r => by cases r; rfl) (fun f cdv A outer s H vs E B Ts T r sb a hr => ?_)
  refine ⟨_, (pss_cons (ps_set (i := 2) sc.nd rfl (.inl rfl) (pe_cl c_common (hr.mono (by decide)) (pa_cons (pv 0) (pa_cons (pv 1) pa_nil))))
(pss_cons (ps_if (pt_cmpR op_lt (pv 1) pe_int (nomark _))
  (pss_one (ps_set (i := 2) sc.nd rfl (.inl rfl) (pe_un un_neg (pv 2))))
  pss_nil)
(pss_one (ps_ret (pe_tup (pa_cons (pe_op op_fdivZ (pv 0) (pv 2)) (pa_cons (pe_op op_fdivZ (pv 1) (pv 2)) pa_nil))))))), fun Q q => ?_⟩
  cases r with
  | mk x y hy hs =>
  obtain ⟨v, w', rfl, rfl, rfl⟩ := all2 a
  refine sq_set (T := yI (Int.gcd x y : Nat)) sb ?_ fun v B1 H1 g1 hv => ?_
  · walk_at "gv"
    exact .mk x y
  obtain rfl : v = .int (Int.gcd x y : Nat) := hv
  have h0 : (Int.gcd x y : Int) ≠ 0 := by
    intro h
    have : Int.gcd x y = 0 := by omega
    exact hy (Int.gcd_eq_zero_iff.mp this).2
  have hle : Int.gcd x y ≤ y.natAbs := Nat.le_of_dvd (by omega) (Nat.gcd_dvd_right _ _)
  have fin : ∀ (d : Int), d = (if y < 0 then -((Int.gcd x y : Nat) : Int) else ((Int.gcd x y : Nat) : Int)) → ∀ B2 H2, Gr B H B2 H2 →
      tRet (L2.tTup (tCons (tOp (rI CDivZ fun i j => V.int (i.fdiv j)) (tVar 0) (tVar 2)) (tCons (tOp (rI CDivZ fun i j => V.int (i.fdiv j)) (tVar 1) (tVar 2)) tNil)))
        { nx := fun _ H' => Q .non H', rt := Q } [some (.int x), some (.int y), some (.int d)] H2 := by
    intro d hd B2 H2 g2
    obtain ⟨e1, e2, e3⟩ := made_eq x y hy d hd
    have hz : CDivZ x d ∧ CDivZ y d := by
      have : d.natAbs < 2 ^ 9000 := by
        have : d.natAbs = Int.gcd x y := by rw [hd]; split <;> omega
        omega
      exact ⟨divZ e3 this (by decide) (by decide), divZ e3 this (by decide) (by decide)⟩
    refine st_ret (T := yT [yI (Rat.divInt x y).num, yI (Rat.divInt x y).den]) g2.in_ ?_ (q.go g2)
    rw [← e1, ← e2]
    walk_at "gv"
    · exact hz.1
    · exact hz.2
  refine sq_if g1.in_ (b := decide (y < 0)) (by walk_at "gv") (fun hb B2 H2 g2 => ?_) (fun hb B2 H2 g2 => ?_)
  · have hb := of_decide_eq_true hb
    refine st_set (T := yI (-(Int.gcd x y : Nat))) g2.in_ (by walk_at "gv") fun v B3 H3 g3 hv => ?_
    obtain rfl : v = .int (-(Int.gcd x y : Nat)) := hv
    exact fin _ (by rw [if_pos hb]) B3 H3 ((g1.trans g2).trans g3)
  · have hb := of_decide_eq_false hb
    exact fin _ (by rw [if_neg hb]) B2 H2 (g1.trans g2)
abbrev yFs (r : Rat) : Ty := yT [yI r.num, yI r.den]
theorem yF_of {r : Rat} {v : V} {H : Hp} (h : (yFs r).p v H) : (yF K r).p v H := by
  obtain ⟨a, vs, e, h, k⟩ := h
  have e2 := all_ints (ns := [r.num, (r.den : Int)]).mp k
  rw [e2] at h
  exact ⟨a, e, SqT.of h⟩
inductive Rwhole (K : PySem.W.Frag) : List Ty → Ty → Prop
  | mk (a : Int) : Rwhole K [yI a] (yF K (a : Rat))
theorem ok_whole (D : Def K mg "whole" s_whole ["number"]) : Cal P w K mg base "whole" 1 ["number"] (spG (Rwhole K)) := by
  have sc := sc_whole
  refine D.ok sc (fun Ts T r => by cases r; rfl) (fun f cdv A outer s H vs E B Ts T r sb a hr => ?_)
  refine ⟨_, (pss_one (ps_ret (pe_tup (pa_cons (pv 0) (pa_cons pe_int pa_nil))))), fun Q q => ?_⟩
  cases r with
  | mk x =>
  obtain ⟨v, rfl, rfl⟩ := all1 a
  exact st_ret (T := yFs (x : Rat)) sb (by walk_at "gv") fun v B' H' g hv => q v B' H' g (yF_of hv)

inductive Rplus (K : PySem.W.Frag) : List Ty → Ty → Prop
  | mk (x y : Rat) (hx : Sz 4000 x) (hy : Sz 4000 y) : Rplus K [yF K x, yF K y] (yF K (x + y))
theorem ok_plus (D : Def K mg "plus" s_plus ["one", "other"]) (c_made : Cal P w K mg base "made" 2 ["top", "bottom"] (spG (Rmade K))) : Cal P w K mg base "plus" 3 ["one", "other"] (spG (Rplus K)) := by
  have sc := sc_plus
  refine D.ok sc (fun Ts T r => by cases r; rfl) (fun f cdv A outer s H vs E B Ts T r sb a hr => ?_)
  refine ⟨_, (pss_one (ps_ret (pe_cl c_made (hr.mono (by decide)) (pa_cons (pe_op op_add (pe_op op_mulW (pe_ix (ix_tupK K rfl) (pv 0) pe_int (fun _ _ => rfl)) (pe_ix (ix_tupK K rfl) (pv 1) pe_int (fun _ _ => rfl))) (pe_op op_mulW (pe_ix (ix_tupK K rfl) (pv 1) pe_int (fun _ _ => rfl)) (pe_ix (ix_tupK K rfl) (pv 0) pe_int (fun _ _ => rfl)))) (pa_cons (pe_op op_mulW (pe_ix (ix_tupK K rfl) (pv 0) pe_int (fun _ _ => rfl)) (pe_ix (ix_tupK K rfl) (pv 1) pe_int (fun _ _ => rfl))) pa_nil))))), fun Q q => ?_⟩
  cases r with
  | mk x y hx hy =>
  obtain ⟨v, w', rfl, hv, hw⟩ := all2 a
  have hd := den_prod hx.2 hy.2
  refine st_ret (T := yFs (x + y)) sb ?_ fun v B' H' g hv => q v B' H' g (yF_of hv)
  rw [← plus_eq x y]
  walk_at "gv"
  · exact wide_mul hx.1 hy.d (by decide) (by decide) (by decide)
  · exact wide_mul hy.1 hx.d (by decide) (by decide) (by decide)
  · exact wide_mul hx.d hy.d (by decide) (by decide) (by decide)
  · exact .mk _ _ hd.1 hd.2

inductive Rminus (K : PySem.W.Frag) : List Ty → Ty → Prop
  | mk (x y : Rat) (hx : Sz 4000 x) (hy : Sz 4000 y) : Rminus K [yF K x, yF K y] (yF K (x - y))
theorem ok_minus (D : Def K mg "minus" s_minus ["one", "other"]) (c_made : Cal P w K mg base "made" 2 ["top", "bottom"] (spG (Rmade K))) : Cal P w K mg base "minus" 3 ["one", "other"] (spG (Rminus K)) := by
  have sc := sc_minus
  refine D.ok sc (fun Ts T r => by cases r; rfl) (fun f cdv A outer s H vs E B Ts T r sb a hr => ?_)
  refine ⟨_, (pss_one (ps_ret (pe_cl c_made (hr.mono (by decide)) (pa_cons (pe_op op_sub (pe_op op_mulW (pe_ix (ix_tupK K rfl) (pv 0) pe_int (fun _ _ => rfl)) (pe_ix (ix_tupK K rfl) (pv 1) pe_int (fun _ _ => rfl))) (pe_op op_mulW (pe_ix (ix_tupK K rfl) (pv 1) pe_int (fun _ _ => rfl)) (pe_ix (ix_tupK K rfl) (pv 0) pe_int (fun _ _ => rfl)))) (pa_cons (pe_op op_mulW (pe_ix (ix_tupK K rfl) (pv 0) pe_int (fun _ _ => rfl)) (pe_ix (ix_tupK K rfl) (pv 1) pe_int (fun _ _ => rfl))) pa_nil))))), fun Q q => ?_⟩
  cases r with
  | mk x y hx hy =>
  obtain ⟨v, w', rfl, hv, hw⟩ := all2 a
  have hd := den_prod hx.2 hy.2
  refine st_ret (T := yFs (x - y)) sb ?_ fun v B' H' g hv => q v B' H' g (yF_of hv)
  rw [← minus_eq x y]
  walk_at "gv"
  · exact wide_mul hx.1 hy.d (by decide) (by decide) (by decide)
  · exact wide_mul hy.1 hx.d (by decide) (by decide) (by decide)
  · exact wide_mul hx.d hy.d (by decide) (by decide) (by decide)
  · exact .mk _ _ hd.1 hd.2

inductive Rtimes (K : PySem.W.Frag) : List Ty → Ty → Prop
  | mk (x y : Rat) (hx : Sz 4000 x) (hy : Sz 4000 y) : Rtimes K [yF K x, yF K y] (yF K (x * y))
theorem ok_times (D : Def K mg "times" s_times ["one", "other"]) (c_made : Cal P w K mg base "made" 2 ["top", "bottom"] (spG (Rmade K))) : Cal P w K mg base "times" 3 ["one", "other"] (spG (Rtimes K)) := by
  have sc := sc_times
  refine D.ok sc (fun Ts T r => by cases r; rfl) (fun f cdv A outer s H vs E B Ts T r sb a hr => ?_)
  refine ⟨_, (pss_one (ps_ret (pe_cl c_made (hr.mono (by decide)) (pa_cons (pe_op op_mulW (pe_ix (ix_tupK K rfl) (pv 0) pe_int (fun _ _ => rfl)) (pe_ix (ix_tupK K rfl) (pv 1) pe_int (fun _ _ => rfl))) (pa_cons (pe_op op_mulW (pe_ix (ix_tupK K rfl) (pv 0) pe_int (fun _ _ => rfl)) (pe_ix (ix_tupK K rfl) (pv 1) pe_int (fun _ _ => rfl))) pa_nil))))), fun Q q => ?_⟩
  cases r with
  | mk x y hx hy =>
  obtain ⟨v, w', rfl, hv, hw⟩ := all2 a
  have hd := den_prod hx.2 hy.2
  refine st_ret (T := yFs (x * y)) sb ?_ fun v B' H' g hv => q v B' H' g (yF_of hv)
  rw [← times_eq x y]
  walk_at "gv"
  · exact wide_mul hx.1 hy.1 (by decide) (by decide) (by decide)
  · exact wide_mul hx.d hy.d (by decide) (by decide) (by decide)
  · exact .mk _ _ hd.1 hd.2
inductive Rover (K : PySem.W.Frag) : List Ty → Ty → Prop
  | mk (x y : Rat) (hx : Sz 4000 x) (hy : Sz 4000 y) (h0 : y ≠ 0) : Rover K [yF K x, yF K y] (yF K (x / y))
theorem ok_over (D : Def K mg "over" s_over ["one", "other"]) (c_made : Cal P w K mg base "made" 2 ["top", "bottom"] (spG (Rmade K))) : Cal P w K mg base "over" 3 ["one", "other"] (spG (Rover K)) := by
  have sc := sc_over
  refine D.ok sc (fun Ts T r => by cases r; rfl) (fun f cdv A outer s H vs E B Ts T r sb a hr => ?_)
  refine ⟨_, (pss_one (ps_ret (pe_cl c_made (hr.mono (by decide)) (pa_cons (pe_op op_mulW (pe_ix (ix_tupK K rfl) (pv 0) pe_int (fun _ _ => rfl)) (pe_ix (ix_tupK K rfl) (pv 1) pe_int (fun _ _ => rfl))) (pa_cons (pe_op op_mulW (pe_ix (ix_tupK K rfl) (pv 0) pe_int (fun _ _ => rfl)) (pe_ix (ix_tupK K rfl) (pv 1) pe_int (fun _ _ => rfl))) pa_nil))))), fun Q q => ?_⟩
  cases r with
  | mk x y hx hy h0 =>
  obtain ⟨v, w', rfl, hv, hw⟩ := all2 a
  have hn : y.num ≠ 0 := fun e => h0 (Rat.num_eq_zero.mp e)
  have hd := prod_ne (i := (x.den : Int)) (j := y.num) (by have := x.den_nz; omega) hn hx.d hy.1
  refine st_ret (T := yFs (x / y)) sb ?_ fun v B' H' g hv => q v B' H' g (yF_of hv)
  rw [← over_eq x y h0]
  walk_at "gv"
  · exact wide_mul hx.1 hy.d (by decide) (by decide) (by decide)
  · exact wide_mul hx.d hy.1 (by decide) (by decide) (by decide)
  · exact .mk _ _ hd.1 hd.2
end
end LD
set_option maxRecDepth 100000
set_option maxHeartbeats 4000000
/-! LdWith: elimination.with_times -/

namespace LD
open PySem PyProof.Rows L2
abbrev s_with_times : Stmt := topS 30
theorem sc_with_times : FnScope ["one", "other", "factor", "found", "name", "value"] ["one", "other", "factor"] (defScope s_with_times) :=
  ⟨rfl, rfl, rfl, by decide +kernel, rfl, by decide +kernel, by decide +kernel⟩
/-- a constant that is a fraction -/
structure Gz (K : PySem.W.Frag) (mg : Str → Option Value) (x : Str) (r : Rat) : Prop where
  ex : ∃ v, Gc mg x v ∧ ∀ H, (yF K r).p v H
abbrev yRow (K : PySem.W.Frag) (a : Row) : Ty := yDT (mR K a)
abbrev yMix (K : PySem.W.Frag) (a : List (Int × Rat)) : Ty := yDI (mR K a)
/-- the sizes that with_times asks -/
structure WithOk {κ : Type} [DecidableEq κ] (a b : List (κ × Rat)) (c : Rat) : Prop where
  ha : RowOk a
  hb : RowOk b
  sc : Sz 4000 c
  sb : ∀ p ∈ b, Sz 4000 p.2
  scb : ∀ p ∈ b, Sz 4000 (c * p.2)
  sa : ∀ p ∈ a, Sz 4000 p.2
  len : a.length + b.length < 10000
theorem sz_zero {n : Nat} (h : 0 < n) : Sz n 0 := by
  have : 2 ^ 1 ≤ 2 ^ n := Nat.pow_le_pow_right (by decide) h
  constructor
  · show (0 : Nat) < 2 ^ n; omega
  · show (1 : Nat) < 2 ^ n; omega
theorem WithOk.sv {κ : Type} [DecidableEq κ] {a b : List (κ × Rat)} {c : Rat} (w : WithOk a b c) (k : κ) : Sz 4000 (val a k) := by
  unfold val
  cases e : look a k with
  | none => exact sz_zero (by decide)
  | some v => exact w.sa _ (look_mem e)
inductive Rwith (P : Program) (w : World) (K : PySem.W.Frag) : List Ty → Ty → Prop
  | t (a b : Row) (c : Rat) (h : WithOk a b c) (hh : HashOk P w (a.map (·.1))) : Rwith P w K [yRow K a, yRow K b, yF K c] (yRow K (withTimes a b c))
  | i (a b : List (Int × Rat)) (c : Rat) (h : WithOk a b c) : Rwith P w K [yMix K a, yMix K b, yF K c] (yMix K (withTimes a b c))
section
variable {P : Program} {w : World} {K : PySem.W.Frag} {mg : Str → Option Value} {base : Heap}
theorem ok_with (D : Def K mg "with_times" s_with_times ["one", "other", "factor"]) (bl : Blt mg) (gz : Gz K mg "ZERO" 0) (c_plus : Cal P w K mg base "plus" 3 ["one", "other"] (spG (Rplus K))) (c_times : Cal P w K mg base "times" 3 ["one", "other"] (spG (Rtimes K))) : Cal P w K mg base "with_times" 4 ["one", "other", "factor"] (spG (Rwith P w K)) := by
  have sc := sc_with_times
  obtain ⟨vz, gZERO, hz⟩ := gz.ex
  refine D.ok sc (fun Ts T r => by cases r <;> rfl) (fun f cdv A outer s H vs E B Ts T r sb a hr => ?_)
  cases r with
  | t x y c h hh =>
    refine ⟨_, (pss_cons (ps_set (i := 3) sc.nd rfl (.inl rfl) (pb_dictT (LD.hr8 hr) bl.dict_ (pa_cons (pv 0) pa_nil)))
(pss_cons (ps_lock (ps_for PassesOwn.never rfl (pi_keys (pv 1)) (pg_name (i := 4) sc.nd rfl (.inl rfl))
  (pss_cons (ps_set (i := 5) sc.nd rfl (.inl rfl) (pe_cl c_plus (hr.mono (by decide)) (pa_cons (pe_dget2 (hu_of hr) (pv 3) (pv 4) (pe_gc gZERO) ⟨rfl, rfl, rfl, rfl⟩) (pa_cons (pe_cl c_times (hr.mono (by decide)) (pa_cons (pv 2) (pa_cons (pe_dget (hu_of hr) (pv 1) (pv 4) (fun _ _ => rfl)) pa_nil))) pa_nil))))
(pss_one (ps_if (pt_cmpR (op_eqDK K rfl (hr64 hr)) (pv 5) (pe_gc gZERO) (nomark _))
  (pss_one (ps_expr (pe_bm PySem.F.plainAttrs_dict PySem.F.slot_dict_pop PySem.F.type_dict_pop (DX.mt_popT (hu_of hr)) (pv 3) (pa_cons (pv 4) (pa_cons pe_non pa_nil)))))
  (pss_one (ps_dput (hu_of hr) (pv 3) (pv 4) (pv 5) rfl)))))))
(pss_one (ps_ret (pv 3))))), fun Q q => ?_⟩
    obtain ⟨v1, v2, v3, rfl, hv1, hv2, hv3⟩ := all3 a
    refine hq_dictT (w := w) (P := P) (m := mR K x) sb (ga_1 (gv_var (i := 0) rfl hv1 (Same.refl _))) isDT_s (by rw [mR_keys]; exact hh) fun d B1 H1 g1 hd w1 => ?_
    obtain ⟨o, kvs, rfl, ho0, hk0⟩ := hv2
    have ho := g1.bs _ _ ho0
    have hk := hk0.m g1.bs
    refine ht_keysT (B := B1) g1.in_ ho hk fz_mR (fun od => gv_v rfl) (fun od i σ B2 H2 => ∃ n1 n2, σ = [some v1, some (.ref o), some v3, some (.ref d), n1, n2] ∧ Ow d (oT (mR K (withTimes x (y.take i) c))) B2 H2 ∧ Gr (upd B o (.frz od (.dT kvs))) (upd H o (.frz od (.dT kvs))) B2 H2)
      (fun od => ⟨_, _, rfl, w1.lock ho fun o2 ⟨k2, e, hk2⟩ => ⟨k2, e, frz_dall ho trivial fz_mR hk2⟩, lock_gr g1 ho0⟩) (fun od B2 H2 B3 H3 g ⟨n1, n2, e, w2, gg⟩ => ⟨n1, n2, e, w2.m g, gg.trans g⟩) (fun od Bs i k σ' B2 H2 B3 H3 p hp s1 s2 s3 hP g2 hx hod hka => ?_) (fun od σ' B2 H2 s1 s2 hP => ?_)
    · obtain ⟨n1, n2, rfl, w2, gg⟩ := hP
      have hdn : upd H o (.frz od (.dT kvs)) d = none := by
        rw [upd_ne (fun z => by rw [z, sb _ _ ho0] at hd; cases hd)]; exact hd
      obtain ⟨q, hq, rfl⟩ := mR_at hp
      have hr2 : (yDr (mR K y)).p (.ref o) B3 := ⟨o, kvs, rfl, .inr ⟨od, hod⟩, hka⟩
      have hl : look (mR K y) q.1 = some (yF K q.2) := mR_get (look_of_mem h.hb.1 (List.mem_of_getElem? hq))
      have hc : (yF K c).p v3 B3 := (yF K c).m (s1.trans (s2.trans g2.bs)) (frz_f _ _ _ _ _ ho trivial ((yF K c).m g1.bs hv3))
      have w3 := w2.m g2
      have mem := List.mem_of_getElem? hq
      refine hq_set (T := yF K (val (withTimes x (y.take i) c) q.1 + c * q.2)) (Gh.own w3 g2.in_ rk_fT fun B4 s4 s5 t => ?_) fun v B5 H5 g5 hv => ?_
      · walk_at "gv"
        case r => exact .mk _ _ h.sc (h.sb _ mem)
        case r =>
          refine .mk _ _ ?_ (h.scb _ mem)
          show Sz 4000 (val (withTimes x (y.take i) c) q.1)
          rw [withTimes_at h.hb.1 hq]
          exact h.sv _
      have w5 := w3.m g5
      have st : withTimes x (y.take (i + 1)) c = stepW (withTimes x (y.take i) c) q.1 (val (withTimes x (y.take i) c) q.1 + c * q.2) := withTimes_take hq
      have hx5 := (yIs q.1).m g5.bs hx
      have okm := withTimes_ok (other := y.take i) (c := c) h.ha
      have lnm : (withTimes x (y.take i) c).length < 100000 := by
        have h1 := withTimes_len (one := x) (other := y.take i) (c := c)
        have h2 := h.len
        rw [List.length_take] at h1
        omega
      refine st_if g5.in_ (b := decide (val (withTimes x (y.take i) c) q.1 + c * q.2 = 0)) (by walk_at "gv") (fun hb B6 H6 g6 => ?_) (fun hb B6 H6 g6 => ?_)
      · have hb := of_decide_eq_true hb
        refine ht_dropT (is_var rfl) (w5.m g6) g6.in_ (by walk_at "gv") fun B7 H7 o7 g7 w7 => ?_
        refine ⟨B7, (g2.bs.trans g5.bs).trans (g6.bs.trans g7.bs) |> s2.trans, ((w5.m g6).m g7).same g7.in_, _, _, rfl, ?_, ((((gg.trans g2).trans g5).trans g6).trans g7).put ((w5.m g6).m g7) hdn⟩
        rw [st]
        unfold stepW
        rw [if_pos hb, ← mR_drop]
        exact w7
      · have hb := of_decide_eq_false hb
        refine ht_dputT (is_var rfl) (w5.m g6) g6.in_ (by rw [mR_keys]; exact okm.1) (by rw [mR_len]; exact lnm) (Gv.h (by walk_at "gv") g6.in_) (by walk_at "gv") fun B7 H7 o7 g7 w7 => ?_
        refine ⟨B7, (g2.bs.trans g5.bs).trans (g6.bs.trans g7.bs) |> s2.trans, ((w5.m g6).m g7).same g7.in_, _, _, rfl, ?_, ((((gg.trans g2).trans g5).trans g6).trans g7).put ((w5.m g6).m g7) hdn⟩
        rw [st]
        unfold stepW
        rw [if_neg hb, ← mR_put]
        exact w7
    · obtain ⟨n1, n2, rfl, w2, gg⟩ := hP
      rw [mR_len, List.take_length] at w2
      have ho2 : B2 o = some (.frz od (.dT kvs)) := s1 _ _ upd_same
      have w3 := w2.unlock ho2 fun o2 ⟨k2, e, hk2⟩ => ⟨k2, e, unf_dall ho2 trivial uz_mR hk2⟩
      have g3 : Gr B H (upd B2 o (.dT kvs)) (upd H2 o (.dT kvs)) := lock_back ho0 sb gg
      obtain ⟨B4, g4, s4, h4⟩ := w3.pub g3 hd
      exact ⟨_, rfl, q _ B4 _ g4 (oT_ty h4)⟩
  | i x y c h =>
    refine ⟨_, (pss_cons (ps_set (i := 3) sc.nd rfl (.inl rfl) (pb_dictI bl.dict_ (pa_cons (pv 0) pa_nil)))
(pss_cons (ps_lock (ps_for PassesOwn.never rfl (pi_keys (pv 1)) (pg_name (i := 4) sc.nd rfl (.inl rfl))
  (pss_cons (ps_set (i := 5) sc.nd rfl (.inl rfl) (pe_cl c_plus (hr.mono (by decide)) (pa_cons (pe_dget2 (hu_of hr) (pv 3) (pv 4) (pe_gc gZERO) ⟨rfl, rfl, rfl, rfl⟩) (pa_cons (pe_cl c_times (hr.mono (by decide)) (pa_cons (pv 2) (pa_cons (pe_dget (hu_of hr) (pv 1) (pv 4) (fun _ _ => rfl)) pa_nil))) pa_nil))))
(pss_one (ps_if (pt_cmpR (op_eqDK K rfl (hr64 hr)) (pv 5) (pe_gc gZERO) (nomark _))
  (pss_one (ps_expr (pe_dpop2 (pv 3) (pv 4) pe_non ⟨rfl, rfl, rfl, rfl⟩)))
  (pss_one (ps_dput (hu_of hr) (pv 3) (pv 4) (pv 5) rfl)))))))
(pss_one (ps_ret (pv 3))))), fun Q q => ?_⟩
    obtain ⟨v1, v2, v3, rfl, hv1, hv2, hv3⟩ := all3 a
    refine hq_dictI (mi := mR K x) sb (ga_1 (gv_var (i := 0) rfl hv1 (Same.refl _))) isDI_s fun d B1 H1 g1 hd w1 => ?_
    obtain ⟨o, kvs, rfl, ho0, hk0⟩ := hv2
    have ho := g1.bs _ _ ho0
    have hk := hk0.m g1.bs
    refine ht_keysI (B := B1) g1.in_ ho hk fz_mR (fun od => gv_v rfl) (fun od i σ B2 H2 => ∃ n1 n2, σ = [some v1, some (.ref o), some v3, some (.ref d), n1, n2] ∧ Ow d (oI (mR K (withTimes x (y.take i) c))) B2 H2 ∧ Gr (upd B o (.frz od (.dK kvs))) (upd H o (.frz od (.dK kvs))) B2 H2)
      (fun od => ⟨_, _, rfl, w1.lock ho fun o2 ⟨k2, e, hk2⟩ => ⟨k2, e, frz_dallI ho trivial fz_mR hk2⟩, lock_gr g1 ho0⟩) (fun od B2 H2 B3 H3 g ⟨n1, n2, e, w2, gg⟩ => ⟨n1, n2, e, w2.m g, gg.trans g⟩) (fun od Bs i k σ' B2 H2 B3 H3 p hp s1 s2 s3 hP g2 hx hod hka => ?_) (fun od σ' B2 H2 s1 s2 hP => ?_)
    · obtain ⟨n1, n2, rfl, w2, gg⟩ := hP
      have hdn : upd H o (.frz od (.dK kvs)) d = none := by
        rw [upd_ne (fun z => by rw [z, sb _ _ ho0] at hd; cases hd)]; exact hd
      obtain ⟨q, hq, rfl⟩ := mR_at hp
      have hr2 : (yDIr (mR K y)).p (.ref o) B3 := ⟨o, kvs, rfl, .inr ⟨od, hod⟩, hka⟩
      have hl : look (mR K y) q.1 = some (yF K q.2) := mR_get (look_of_mem h.hb.1 (List.mem_of_getElem? hq))
      have hc : (yF K c).p v3 B3 := (yF K c).m (s1.trans (s2.trans g2.bs)) (frz_f _ _ _ _ _ ho trivial ((yF K c).m g1.bs hv3))
      have w3 := w2.m g2
      have mem := List.mem_of_getElem? hq
      refine hq_set (T := yF K (val (withTimes x (y.take i) c) q.1 + c * q.2)) (Gh.own w3 g2.in_ rk_fI fun B4 s4 s5 t => ?_) fun v B5 H5 g5 hv => ?_
      · walk_at "gv"
        case r => exact .mk _ _ h.sc (h.sb _ mem)
        case r =>
          refine .mk _ _ ?_ (h.scb _ mem)
          show Sz 4000 (val (withTimes x (y.take i) c) q.1)
          rw [withTimes_at h.hb.1 hq]
          exact h.sv _
      have w5 := w3.m g5
      have st : withTimes x (y.take (i + 1)) c = stepW (withTimes x (y.take i) c) q.1 (val (withTimes x (y.take i) c) q.1 + c * q.2) := withTimes_take hq
      have hx5 := (yI q.1).m g5.bs hx
      have okm := withTimes_ok (other := y.take i) (c := c) h.ha
      have lnm : (withTimes x (y.take i) c).length < 100000 := by
        have h1 := withTimes_len (one := x) (other := y.take i) (c := c)
        have h2 := h.len
        rw [List.length_take] at h1
        omega
      refine st_if g5.in_ (b := decide (val (withTimes x (y.take i) c) q.1 + c * q.2 = 0)) (by walk_at "gv") (fun hb B6 H6 g6 => ?_) (fun hb B6 H6 g6 => ?_)
      · have hb := of_decide_eq_true hb
        refine ht_dropI (is_var rfl) (w5.m g6) g6.in_ (by walk_at "gv") fun B7 H7 o7 g7 w7 => ?_
        refine ⟨B7, (g2.bs.trans g5.bs).trans (g6.bs.trans g7.bs) |> s2.trans, ((w5.m g6).m g7).same g7.in_, _, _, rfl, ?_, ((((gg.trans g2).trans g5).trans g6).trans g7).put ((w5.m g6).m g7) hdn⟩
        rw [st]
        unfold stepW
        rw [if_pos hb, ← mR_drop]
        exact w7
      · have hb := of_decide_eq_false hb
        refine ht_dputI (is_var rfl) (w5.m g6) g6.in_ (by rw [mR_keys]; exact okm.1) (by rw [mR_len]; exact lnm) (Gv.h (by walk_at "gv") g6.in_) (by walk_at "gv") fun B7 H7 o7 g7 w7 => ?_
        refine ⟨B7, (g2.bs.trans g5.bs).trans (g6.bs.trans g7.bs) |> s2.trans, ((w5.m g6).m g7).same g7.in_, _, _, rfl, ?_, ((((gg.trans g2).trans g5).trans g6).trans g7).put ((w5.m g6).m g7) hdn⟩
        rw [st]
        unfold stepW
        rw [if_neg hb, ← mR_put]
        exact w7
    · obtain ⟨n1, n2, rfl, w2, gg⟩ := hP
      rw [mR_len, List.take_length] at w2
      have ho2 : B2 o = some (.frz od (.dK kvs)) := s1 _ _ upd_same
      have w3 := w2.unlock ho2 fun o2 ⟨k2, e, hk2⟩ => ⟨k2, e, unf_dallI ho2 trivial uz_mR hk2⟩
      have g3 : Gr B H (upd B2 o (.dK kvs)) (upd H2 o (.dK kvs)) := lock_back ho0 sb gg
      obtain ⟨B4, g4, s4, h4⟩ := w3.pub g3 hd
      exact ⟨_, rfl, q _ B4 _ g4 (oI_ty h4)⟩
end
end LD
set_option maxRecDepth 100000
set_option maxHeartbeats 4000000
/-! LdNought: elimination.without_noughts -/

namespace LD
open PySem PyProof.Rows L2
abbrev s_without_noughts : Stmt := topS 31
theorem sc_without_noughts : FnScope ["row", "name"] ["row"] (defScope s_without_noughts) :=
  ⟨rfl, rfl, rfl, by decide +kernel, rfl, by decide +kernel, by decide +kernel⟩
theorem put_new {κ α : Type} [DecidableEq κ] {m : List (κ × α)} {k : κ} {v : α} (h : k ∉ m.map (·.1)) : put m k v = m ++ [(k, v)] := by
  induction m with
  | nil => rfl
  | cons p m ih =>
    rw [List.map_cons, List.mem_cons, not_or] at h
    rw [put, if_neg (fun z => h.1 z.symm), ih h.2]
    rfl
section
variable {κ : Type} [DecidableEq κ] {a : List (κ × Rat)} {i : Nat} {p : κ × Rat}
theorem take_no (hn : (a.map (·.1)).Nodup) (h : a[i]? = some p) : p.1 ∉ (a.take i).map (·.1) := fun hm => by
  obtain ⟨q, hq, e⟩ := List.mem_map.mp hm
  obtain ⟨j, hj⟩ := List.getElem?_of_mem hq
  have hlt : j < (a.take i).length := (List.getElem?_eq_some_iff.mp hj).1
  rw [List.length_take] at hlt
  rw [List.getElem?_take, if_pos (by omega)] at hj
  have e1 : (a.map (·.1))[j]? = some q.1 := by rw [List.getElem?_map, hj]; rfl
  have e2 : (a.map (·.1))[i]? = some p.1 := by rw [List.getElem?_map, h]; rfl
  have hi : i < (a.map (·.1)).length := (List.getElem?_eq_some_iff.mp e2).1
  have e3 := (List.getElem?_inj (by omega : j < (a.map (·.1)).length) hn).mp (e1.trans (by rw [e2, e]))
  omega
theorem noughtless_yes (hn : (a.map (·.1)).Nodup) (h : a[i]? = some p) (hp : p.2 ≠ 0) : noughtless (a.take (i + 1)) = put (noughtless (a.take i)) p.1 p.2 := by
  rw [put_new (fun hm => take_no hn h ?_)]
  · rw [List.take_add_one, h]
    unfold noughtless
    rw [Option.toList_some, List.filter_append, List.filter_cons, if_pos (by simp [hp])]
    rfl
  · obtain ⟨q, hq, e⟩ := List.mem_map.mp hm
    exact List.mem_map.mpr ⟨q, (List.mem_filter.mp hq).1, e⟩
theorem noughtless_no (h : a[i]? = some p) (hp : p.2 = 0) : noughtless (a.take (i + 1)) = noughtless (a.take i) := by
  rw [List.take_add_one, h]
  unfold noughtless
  rw [Option.toList_some, List.filter_append, List.filter_cons, if_neg (by simp [hp])]
  simp
end
inductive Rnought (K : PySem.W.Frag) : List Ty → Ty → Prop
  | mk (a : Row) (hn : (a.map (·.1)).Nodup) (hl : a.length < 10000) : Rnought K [yRow K a] (yRow K (noughtless a))
section
variable {P : Program} {w : World} {K : PySem.W.Frag} {mg : Str → Option Value} {base : Heap}
theorem ok_nought (D : Def K mg "without_noughts" s_without_noughts ["row"]) (gz : Gz K mg "ZERO" 0) : Cal P w K mg base "without_noughts" 1 ["row"] (spG (Rnought K)) := by
  have sc := sc_without_noughts
  obtain ⟨vz, gZERO, hz⟩ := gz.ex
  refine D.ok sc (fun Ts T r => by cases r; rfl) (fun f cdv A outer s H vs E B Ts T r sb a hr => ?_)
  refine ⟨_, (pss_one (ps_ret (pe_lock (pe_dg (o := .dT []) (.inr rfl) (hu_of hr) (own := [("name", 1)]) (g := (gName 1)) (tt := _) (by rfl) sc.nd (pi_keys (pv 0)) (blkOk_by (by kernel_rfl)) (fun _ _ _ _ _ => (pg_name (i := 1) sc.nd rfl (.inl rfl))) (fun _ _ _ _ _ => (pts_one (pt_cmpR (op_neDK K rfl (hr64 hr)) (pe_dget (hu_of hr) (pv 0) (pv 1) (fun _ _ => rfl)) (pe_gc gZERO) (nomark _)))) (fun _ _ _ _ _ => (pv 1)) (fun _ _ _ _ _ => (pe_dget (hu_of hr) (pv 0) (pv 1) (fun _ _ => rfl))))))), fun Q q => ?_⟩
  cases r with
  | mk x hn hl =>
  obtain ⟨v, rfl, hv⟩ := all1 a
  obtain ⟨d, kvs, rfl, hd, hk⟩ := hv
  refine st_ret (T := yRow K (noughtless x)) sb (gv_lock hd trivial (unf_d uz_mR) fun od => ?_) q
  have hd2 : upd B d (.frz od (.dT kvs)) d = some (.frz od (.dT kvs)) := upd_same
  have hk2 := frz_dall (od := od) hd (u := .dT kvs) trivial fz_mR hk
  refine Gv.imp (A := (oT (mR K (noughtless (x.take (mR K x).length)))).ty) (gv_dg (RR := fun i => oT (mR K (noughtless (x.take i)))) (fun _ => ⟨[], rfl, trivial⟩) (gi_keys (m := mR K x) (gv_v rfl) hd2 hk2) fun i k B2 H2 hi s1 s2 hx R r => ?_) fun v B1 _ h => ?_
  · obtain ⟨p, hp⟩ : ∃ p, x[i]? = some p := ⟨x[i]'(by rw [← mR_len (K := K)]; exact hi), List.getElem?_eq_getElem _⟩
    have e : ((mR K x).map (·.1)).getD i [] = p.1 := by
      rw [mR_keys, List.getD_eq_getElem?_getD, List.getElem?_map, hp]
      rfl
    rw [e] at hx
    have hr2 : (yDr (mR K x)).p (.ref d) B2 := ⟨d, kvs, rfl, .inr ⟨od, s1 _ _ hd2⟩, hk2.m s1⟩
    have hl : look (mR K x) p.1 = some (yF K p.2) := mR_get (look_of_mem hn (List.mem_of_getElem? hp))
    refine r _ rfl (!decide (p.2 = 0)) (by walk_at "gv") (fun hb => ?_) (fun hb => ?_)
    · have hb : p.2 ≠ 0 := by simpa using hb
      show RbO _ _ _ (oT (mR K (noughtless (x.take i)))) (oT (mR K (noughtless (x.take (i + 1)))))
      rw [noughtless_yes hn hp hb, ← mR_put]
      refine rb_putT (by walk_at "gv") (by walk_at "gv") (by rw [mR_keys]; exact (noughtless_ok (List.Nodup.sublist (List.Sublist.map _ (List.take_sublist _ _)) hn)).1) ?_
      rw [mR_len]
      have h1 : (noughtless (x.take i)).length ≤ (x.take i).length := List.length_filter_le _ _
      rw [List.length_take] at h1
      omega
    · have hb : p.2 = 0 := by simpa using hb
      show oT (mR K (noughtless (x.take (i + 1)))) = oT (mR K (noughtless (x.take i)))
      rw [noughtless_no hp hb]
  · rw [mR_len, List.take_length] at h
    exact oT_ty h
end
end LD
set_option maxHeartbeats 4000000
/-! LdElim3: equations, their sizes, what each step keeps. -/
namespace LD
structure Eqn where
  row : Row
  right : Rat
  mix : List (Int × Rat)
def lessE (e h : Eqn) (c : Rat) : Eqn := ⟨withTimes e.row h.row (0 - c), e.right + (0 - c) * h.right, withTimes e.mix h.mix (0 - c)⟩
theorem sz_mul {a b : Nat} {x y : Rat} (hx : Sz a x) (hy : Sz b y) : Sz (a + b) (x * y) := by
  rw [← times_eq]
  have h1 : ((x.den : Int) * y.den) ≠ 0 := Int.mul_ne_zero (by have := x.den_nz; omega) (by have := y.den_nz; omega)
  refine sz_of h1 ?_ ?_
  · rw [Int.natAbs_mul, Nat.pow_add]
    exact Nat.mul_lt_mul'' hx.1 hy.1
  · rw [Int.natAbs_mul, Nat.pow_add]
    exact Nat.mul_lt_mul'' hx.2 hy.2
theorem sz_neg {a : Nat} {x : Rat} (hx : Sz a x) : Sz a (-x) := by
  unfold Sz
  rw [Rat.neg_num, Rat.neg_den]
  exact ⟨by rw [Int.natAbs_neg]; exact hx.1, hx.2⟩
theorem sz_sub0 {a : Nat} {x : Rat} (hx : Sz a x) : Sz a (0 - x) := by
  have e : (0 : Rat) - x = -x := by grind
  rw [e]
  exact sz_neg hx
theorem divInt_of {x : Rat} {q R : Int} (hq : q ≠ 0) (h : x * (q : Rat) = (R : Rat)) : x = Rat.divInt R q := by
  rw [Rat.divInt_eq_div]
  have : (q : Rat) ≠ 0 := by
    intro e
    apply hq
    have e2 : (q : Rat) = ((0 : Int) : Rat) := e
    exact Rat.intCast_inj.mp e2
  grind
theorem sz_rep {n : Nat} {x : Rat} {q R : Int} (hq : q ≠ 0) (h : x * (q : Rat) = (R : Rat)) (h1 : q.natAbs < 2 ^ n) (h2 : R.natAbs < 2 ^ n) : Sz n x := by
  rw [divInt_of hq h]
  exact sz_of hq h2 h1
/-- one denominator for all; sizes -/
structure Rep (M : Nat) (e : Eqn) (q : Int) : Prop where
  nz : q ≠ 0
  q_le : q.natAbs ≤ M
  row : ∀ k, ∃ R : Int, R.natAbs ≤ M ∧ val e.row k * (q : Rat) = (R : Rat)
  right : ∃ T : Int, T.natAbs ≤ 300 * M ∧ e.right * ((12 * q : Int) : Rat) = (T : Rat)
  mix : ∀ i, ∃ R : Int, R.natAbs ≤ M ∧ val e.mix i * (q : Rat) = (R : Rat)
theorem Rep.mono {M N : Nat} {e : Eqn} {q : Int} (r : Rep M e q) (h : M ≤ N) : Rep N e q :=
  ⟨r.nz, Nat.le_trans r.q_le h, fun k => let ⟨R, h1, h2⟩ := r.row k; ⟨R, Nat.le_trans h1 h, h2⟩, let ⟨T, h1, h2⟩ := r.right; ⟨T, by omega, h2⟩, fun k => let ⟨R, h1, h2⟩ := r.mix k; ⟨R, Nat.le_trans h1 h, h2⟩⟩
theorem abs_step {a b c d : Int} {M : Nat} (ha : a.natAbs ≤ M) (hb : b.natAbs ≤ M) (hc : c.natAbs ≤ M) (hd : d.natAbs ≤ M) : (a * b - c * d).natAbs ≤ 2 * (M * M) := by
  have h1 : (a * b).natAbs ≤ M * M := by rw [Int.natAbs_mul]; exact Nat.mul_le_mul ha hb
  have h2 : (c * d).natAbs ≤ M * M := by rw [Int.natAbs_mul]; exact Nat.mul_le_mul hc hd
  have h3 := Int.natAbs_sub_le (a * b) (c * d)
  omega
theorem Rep.less {M : Nat} {e h : Eqn} {q r : Int} {p : Nm} (re : Rep M e q) (rh : Rep M h r) (hp : val h.row p ≠ 0) (n1 : (h.row.map (·.1)).Nodup) (n2 : (h.mix.map (·.1)).Nodup) : ∃ q', Rep (2 * (M * M)) (lessE e h (val e.row p / val h.row p)) q' := by
  obtain ⟨Hp, hb, he⟩ := rh.row p
  obtain ⟨Ep, eb, ee⟩ := re.row p
  have hpz : Hp ≠ 0 := by
    intro z
    subst z
    have hr : (r : Rat) ≠ 0 := by
      intro e
      apply rh.nz
      have e2 : (r : Rat) = ((0 : Int) : Rat) := e
      exact Rat.intCast_inj.mp e2
    have : val h.row p * (r : Rat) = 0 := he
    grind
  have key : ∀ x y : Rat, ∀ X Y : Int, x * (q : Rat) = X → y * (r : Rat) = Y → (x + (0 - val e.row p / val h.row p) * y) * ((q * Hp : Int) : Rat) = ((X * Hp - Ep * Y : Int) : Rat) := by
    intro x y X Y hx hy
    have hr : (r : Rat) ≠ 0 := by
      intro e
      apply rh.nz
      have e2 : (r : Rat) = ((0 : Int) : Rat) := e
      exact Rat.intCast_inj.mp e2
    rw [Rat.intCast_mul, Rat.intCast_sub, Rat.intCast_mul, Rat.intCast_mul, ← hx, ← hy, ← he, ← ee]
    generalize (q : Rat) = Q at *
    generalize (r : Rat) = S at *
    generalize val h.row p = v at *
    generalize val e.row p = u at *
    have : (u / v) * v = u := by grind
    grind
  refine ⟨q * Hp, Int.mul_ne_zero re.nz hpz, ?_, fun k => ?_, ?_, fun i => ?_⟩
  · rw [Int.natAbs_mul]
    have := Nat.mul_le_mul re.q_le hb
    omega
  · obtain ⟨X, xb, xe⟩ := re.row k
    obtain ⟨Y, yb, ye⟩ := rh.row k
    refine ⟨X * Hp - Ep * Y, abs_step xb hb eb yb, ?_⟩
    show val (withTimes e.row h.row _) k * _ = _
    rw [withTimes_val n1]
    exact key _ _ X Y xe ye
  · obtain ⟨X, xb, xe⟩ := re.right
    obtain ⟨Y, yb, ye⟩ := rh.right
    refine ⟨X * Hp - Ep * Y, ?_, ?_⟩
    · have h1 : (X * Hp).natAbs ≤ 300 * M * M := by rw [Int.natAbs_mul]; exact Nat.mul_le_mul xb hb
      have h2 : (Ep * Y).natAbs ≤ M * (300 * M) := by rw [Int.natAbs_mul]; exact Nat.mul_le_mul eb yb
      have h3 := Int.natAbs_sub_le (X * Hp) (Ep * Y)
      have h4 : 300 * M * M = 300 * (M * M) := Nat.mul_assoc _ _ _
      have h5 : M * (300 * M) = 300 * (M * M) := by rw [Nat.mul_left_comm]
      omega
    · show (e.right + (0 - val e.row p / val h.row p) * h.right) * _ = _
      have k2 := key (e.right * 12) (h.right * 12) X Y (by rw [← xe, Rat.intCast_mul]; generalize (q : Rat) = Q; have : ((12 : Int) : Rat) = 12 := rfl; grind) (by rw [← ye, Rat.intCast_mul]; generalize (r : Rat) = Q; have : ((12 : Int) : Rat) = 12 := rfl; grind)
      rw [← k2, Rat.intCast_mul]
      have : ((12 : Int) : Rat) = 12 := rfl
      generalize ((q * Hp : Int) : Rat) = Q
      generalize val e.row p / val h.row p = F
      grind
  · obtain ⟨X, xb, xe⟩ := re.mix i
    obtain ⟨Y, yb, ye⟩ := rh.mix i
    refine ⟨X * Hp - Ep * Y, abs_step xb hb eb yb, ?_⟩
    show val (withTimes e.mix h.mix _) i * _ = _
    rw [withTimes_val n2]
    exact key _ _ X Y xe ye
def bnd (t : Nat) : Nat := 2 ^ (2 ^ t - 1)
theorem bnd_step (t : Nat) : 2 * (bnd t * bnd t) = bnd (t + 1) := by
  unfold bnd
  have h : 0 < 2 ^ t := Nat.pow_pos (by decide)
  rw [← Nat.pow_add, Nat.mul_comm, ← Nat.pow_succ, Nat.pow_succ 2 t]
  congr 1
  omega
theorem bnd_mono {s t : Nat} (h : s ≤ t) : bnd s ≤ bnd t := by
  unfold bnd
  refine Nat.pow_le_pow_right (by decide) ?_
  have := Nat.pow_le_pow_right (n := 2) (by decide) h
  omega
theorem bnd_9 {t : Nat} (h : t ≤ 9) : bnd t ≤ bnd 9 := bnd_mono h
theorem lt_600 {n : Nat} (h : n ≤ 1000 * bnd 9) : n < 2 ^ 600 := by
  have e : bnd 9 = 2 ^ 511 := rfl
  refine Nat.lt_of_le_of_lt h ?_
  rw [e]
  have h1 : 1000 * 2 ^ 511 < 2 ^ 10 * 2 ^ 511 := Nat.mul_lt_mul_of_pos_right (by decide) (Nat.pow_pos (by decide))
  rw [← Nat.pow_add] at h1
  exact Nat.lt_of_lt_of_le h1 (Nat.pow_le_pow_right (by decide) (by decide))
theorem lt_1200 {a b : Nat} (ha : a ≤ bnd 9) (hb : b ≤ bnd 9) : a * b < 2 ^ 1200 := by
  have e : bnd 9 = 2 ^ 511 := rfl
  have h1 : a * b ≤ bnd 9 * bnd 9 := Nat.mul_le_mul ha hb
  rw [e, ← Nat.pow_add] at h1
  exact Nat.lt_of_le_of_lt h1 (Nat.pow_lt_pow_right (by decide) (by decide))
theorem Rep.sz_row {t : Nat} {e : Eqn} {q : Int} (r : Rep (bnd t) e q) (h : t ≤ 9) (k : Nm) : Sz 600 (val e.row k) := by
  obtain ⟨R, h1, h2⟩ := r.row k
  have h4 := bnd_9 h
  have h5 := r.q_le
  generalize hb : bnd 9 = Z at h4
  exact sz_rep r.nz h2 (lt_600 (by rw [hb]; omega)) (lt_600 (by rw [hb]; omega))
theorem Rep.sz_mix {t : Nat} {e : Eqn} {q : Int} (r : Rep (bnd t) e q) (h : t ≤ 9) (k : Int) : Sz 600 (val e.mix k) := by
  obtain ⟨R, h1, h2⟩ := r.mix k
  have h4 := bnd_9 h
  have h5 := r.q_le
  generalize hb : bnd 9 = Z at h4
  exact sz_rep r.nz h2 (lt_600 (by rw [hb]; omega)) (lt_600 (by rw [hb]; omega))
theorem Rep.sz_right {t : Nat} {e : Eqn} {q : Int} (r : Rep (bnd t) e q) (h : t ≤ 9) : Sz 600 e.right := by
  obtain ⟨R, h1, h2⟩ := r.right
  have h4 := bnd_9 h
  have h5 := r.q_le
  generalize hb : bnd 9 = Z at h4
  refine sz_rep (q := 12 * q) (by have := r.nz; omega) h2 (lt_600 ?_) (lt_600 ?_)
  · rw [Int.natAbs_mul, hb]
    show 12 * q.natAbs ≤ _
    omega
  · rw [hb]; omega
theorem Rep.sz_fac {t : Nat} {e h : Eqn} {q r : Int} (re : Rep (bnd t) e q) (rh : Rep (bnd t) h r) (ht : t ≤ 9) (p : Nm) (hp : val h.row p ≠ 0) : Sz 1200 (val e.row p / val h.row p) := by
  obtain ⟨Hp, hb, he⟩ := rh.row p
  obtain ⟨Ep, eb, ee⟩ := re.row p
  have hr : (r : Rat) ≠ 0 := by
    intro e
    apply rh.nz
    have e2 : (r : Rat) = ((0 : Int) : Rat) := e
    exact Rat.intCast_inj.mp e2
  have hpz : Hp ≠ 0 := by
    intro z
    subst z
    have : val h.row p * (r : Rat) = 0 := he
    grind
  have h4 := bnd_9 ht
  have m : ∀ a b : Int, a.natAbs ≤ bnd t → b.natAbs ≤ bnd t → (a * b).natAbs < 2 ^ 1200 := fun a b ha hb => by
    rw [Int.natAbs_mul]
    exact lt_1200 (Nat.le_trans ha h4) (Nat.le_trans hb h4)
  refine sz_rep (q := q * Hp) (R := Ep * r) (Int.mul_ne_zero re.nz hpz) ?_ (m _ _ re.q_le hb) (m _ _ eb rh.q_le)
  rw [Rat.intCast_mul, Rat.intCast_mul, ← he, ← ee]
  generalize (q : Rat) = Q at *
  generalize (r : Rat) = S at *
  generalize val h.row p = v at *
  generalize val e.row p = u at *
  have : (u / v) * v = u := by grind
  grind
end LD
set_option maxHeartbeats 4000000
/-! LdElim4: the run of elimination; values of names. -/
namespace LD
theorem nodup_le {α : Type} [DecidableEq α] {l U : List α} (hn : l.Nodup) (h : ∀ a ∈ l, a ∈ U) : l.length ≤ U.length := by
  induction l generalizing U with
  | nil => simp
  | cons a l ih =>
    rw [List.nodup_cons] at hn
    have ha := h a List.mem_cons_self
    have h2 := ih (U := U.erase a) hn.2 fun b hb => by
      have ne : b ≠ a := fun e => hn.1 (e ▸ hb)
      exact (List.mem_erase_of_ne ne).mpr (h b (List.mem_cons_of_mem _ hb))
    have h3 := List.length_erase_of_mem ha
    have h4 : 0 < U.length := List.length_pos_of_mem ha
    rw [List.length_cons]
    omega
/-- numbers of rows -/
def Mx : List Int := (List.range 100).map fun i => ((i : Nat) : Int)
structure EqOk (U : List Nm) (xs : Nm → Rat) (t : Nat) (e : Eqn) : Prop where
  ro : RowOk e.row
  mo : RowOk e.mix
  rk : ∀ p ∈ e.row, p.1 ∈ U
  km : ∀ p ∈ e.mix, p.1 ∈ Mx
  sol : dot e.row xs = e.right
  rep : ∃ q, Rep (bnd t) e q
theorem EqOk.rlen {U : List Nm} {xs : Nm → Rat} {t : Nat} {e : Eqn} (o : EqOk U xs t e) : e.row.length ≤ U.length := by
  have := nodup_le o.ro.1 (U := U) fun a ha => by
    obtain ⟨p, hp, rfl⟩ := List.mem_map.mp ha
    exact o.rk p hp
  rwa [List.length_map] at this
theorem EqOk.mlen {U : List Nm} {xs : Nm → Rat} {t : Nat} {e : Eqn} (o : EqOk U xs t e) : e.mix.length ≤ 100 := by
  have := nodup_le o.mo.1 (U := Mx) fun a ha => by
    obtain ⟨p, hp, rfl⟩ := List.mem_map.mp ha
    exact o.km p hp
  rw [List.length_map] at this
  exact this
/-- heads: names and equations -/
abbrev Hds := List (Nm × Eqn)
def rowsOf (hs : Hds) : List (Nm × Row) := hs.map fun h => (h.1, h.2.row)
structure HOk (U : List Nm) (xs : Nm → Rat) (hs : Hds) : Prop where
  ech : Ech (rowsOf hs)
  ok : ∀ (i : Nat) h, hs[i]? = some h → EqOk U xs i h.2
section
variable {U : List Nm} {xs : Nm → Rat} {hs : Hds}
theorem rowsOf_names : (rowsOf hs).map (·.1) = hs.map (·.1) := by
  unfold rowsOf
  rw [List.map_map]
  rfl
theorem ech_at {hs : List (Nm × Row)} (he : Ech hs) {h : Nm × Row} (hm : h ∈ hs) : val h.2 h.1 ≠ 0 := by
  induction hs with
  | nil => simp at hm
  | cons a r ih =>
    obtain ⟨a1, a2, a3⟩ := he
    rcases List.mem_cons.mp hm with z | z
    · subst z; exact a1
    · exact ih a3 z
theorem HOk.piv (o : HOk U xs hs) {h : Nm × Eqn} (hm : h ∈ hs) : val h.2.row h.1 ≠ 0 :=
  ech_at o.ech (h := (h.1, h.2.row)) (List.mem_map.mpr ⟨h, hm, rfl⟩)
theorem HOk.inU (o : HOk U xs hs) {h : Nm × Eqn} (hm : h ∈ hs) : h.1 ∈ U := by
  obtain ⟨i, hi⟩ := List.getElem?_of_mem hm
  obtain ⟨p, hp, e⟩ := List.mem_map.mp (val_mem (o.piv hm))
  rw [← e]
  exact (o.ok i h hi).rk p hp
theorem HOk.nodup (o : HOk U xs hs) : (hs.map (·.1)).Nodup := by
  rw [← rowsOf_names]
  exact o.ech.nodup
theorem HOk.len (o : HOk U xs hs) : hs.length ≤ U.length := by
  have := nodup_le o.nodup (U := U) fun a ha => by
    obtain ⟨h, hh, rfl⟩ := List.mem_map.mp ha
    exact o.inU hh
  rwa [List.length_map] at this
/-- an earlier head's name does not stand in a later head's row -/
theorem ech_pair {hs : List (Nm × Row)} (he : Ech hs) : ∀ {i j : Nat} {g h : Nm × Row}, hs[i]? = some g → hs[j]? = some h → i < j → val h.2 g.1 = 0 := by
  induction hs with
  | nil => intro i j g h e1; simp at e1
  | cons a r ih =>
    obtain ⟨a1, a2, a3⟩ := he
    intro i j g h e1 e2 hlt
    cases j with
    | zero => omega
    | succ j =>
      cases i with
      | zero =>
        have e3 : a = g := by simpa using e1
        have e4 : r[j]? = some h := by simpa using e2
        rw [← e3]
        exact a2 h (List.mem_of_getElem? e4)
      | succ i => exact ih a3 (by simpa using e1) (by simpa using e2) (by omega)
theorem HOk.pair (o : HOk U xs hs) {i j : Nat} {g h : Nm × Eqn} (e1 : hs[i]? = some g) (e2 : hs[j]? = some h) (hlt : i < j) : val h.2.row g.1 = 0 :=
  ech_pair o.ech (g := (g.1, g.2.row)) (h := (h.1, h.2.row)) (by unfold rowsOf; rw [List.getElem?_map, e1]; rfl) (by unfold rowsOf; rw [List.getElem?_map, e2]; rfl) hlt
/-! one step -/
def stepE (e : Eqn) (h : Nm × Eqn) : Eqn := if val e.row h.1 = 0 then e else lessE e h.2 (val e.row h.1 / val h.2.row h.1)
def red (hs : Hds) (e : Eqn) : Eqn := hs.foldl stepE e
theorem dot_less {e h : Eqn} {c : Rat} (h1 : RowOk e.row) (h2 : RowOk h.row) (x : Nm → Rat) : dot (lessE e h c).row x = dot e.row x + (0 - c) * dot h.row x :=
  dot_with (withTimes_ok h1).1 h1.1 h2.1 (fun k => withTimes_val h2.1 k) x
theorem less_ok {i : Nat} {e : Eqn} {h : Nm × Eqn} (oe : EqOk U xs i e) (oh : EqOk U xs i h.2) (hp : val h.2.row h.1 ≠ 0) : EqOk U xs (i + 1) (lessE e h.2 (val e.row h.1 / val h.2.row h.1)) := by
  obtain ⟨q, hq⟩ := oe.rep
  obtain ⟨r, hr⟩ := oh.rep
  refine ⟨withTimes_ok oe.ro, withTimes_ok oe.mo, withTimes_keys oe.rk oh.rk, withTimes_keys oe.km oh.km, ?_, ?_⟩
  · rw [dot_less oe.ro oh.ro, oe.sol, oh.sol]
    rfl
  · obtain ⟨q', h'⟩ := hq.less hr hp oh.ro.1 oh.mo.1
    rw [bnd_step] at h'
    exact ⟨q', h'⟩
theorem EqOk.mono {s t : Nat} {e : Eqn} (o : EqOk U xs s e) (h : s ≤ t) : EqOk U xs t e := by
  obtain ⟨q, hq⟩ := o.rep
  exact ⟨o.ro, o.mo, o.rk, o.km, o.sol, q, hq.mono (bnd_mono h)⟩
theorem step_ok (o : HOk U xs hs) {i : Nat} {h : Nm × Eqn} (hi : hs[i]? = some h) {e : Eqn} (oe : EqOk U xs i e) (z : ∀ g ∈ hs.take i, val e.row g.1 = 0) :
    EqOk U xs (i + 1) (stepE e h) ∧ (∀ g ∈ hs.take (i + 1), val (stepE e h).row g.1 = 0) ∧ ∀ x, dot h.2.row x = 0 → dot (stepE e h).row x = dot e.row x := by
  have hm := List.mem_of_getElem? hi
  have hp := o.piv hm
  have oh := o.ok i h hi
  have tk : ∀ g ∈ hs.take (i + 1), g ∈ hs.take i ∨ g = h := fun g hg => by
    rw [List.take_add_one, hi] at hg
    rcases List.mem_append.mp hg with h1 | h1
    · exact .inl h1
    · exact .inr (by simpa using h1)
  unfold stepE
  by_cases c : val e.row h.1 = 0
  · rw [if_pos c]
    refine ⟨oe.mono (by omega), fun g hg => ?_, fun _ _ => rfl⟩
    rcases tk g hg with h1 | h1
    · exact z g h1
    · rw [h1]; exact c
  · rw [if_neg c]
    refine ⟨less_ok oe oh hp, fun g hg => ?_, fun x hx => ?_⟩
    · show val (withTimes e.row h.2.row _) g.1 = 0
      rw [withTimes_val oh.ro.1]
      rcases tk g hg with h1 | h1
      · have h2 : val h.2.row g.1 = 0 := by
          obtain ⟨j, hj⟩ := List.getElem?_of_mem h1
          have hlt : j < (hs.take i).length := (List.getElem?_eq_some_iff.mp hj).1
          rw [List.length_take] at hlt
          rw [List.getElem?_take, if_pos (by omega)] at hj
          exact o.pair hj hi (by omega)
        rw [z g h1, h2]
        grind
      · rw [h1]
        generalize val h.2.row h.1 = v at *
        generalize val e.row h.1 = u at *
        grind
    · rw [dot_less oe.ro oh.ro, hx]
      grind
theorem red_take {e : Eqn} {i : Nat} {h : Nm × Eqn} (hi : hs[i]? = some h) : red (hs.take (i + 1)) e = stepE (red (hs.take i) e) h := by
  unfold red
  rw [List.take_add_one, hi, List.foldl_append]
  rfl
theorem red_ok (o : HOk U xs hs) {e : Eqn} (oe : EqOk U xs 0 e) : ∀ i, i ≤ hs.length → EqOk U xs i (red (hs.take i) e) ∧ (∀ g ∈ hs.take i, val (red (hs.take i) e).row g.1 = 0) ∧ ∀ x, (∀ h ∈ hs, dot h.2.row x = 0) → dot (red (hs.take i) e).row x = dot e.row x
  | 0, _ => ⟨oe, fun g hg => by simp at hg, fun _ _ => rfl⟩
  | i + 1, hl => by
    obtain ⟨h1, h2, h3⟩ := red_ok o oe i (by omega)
    have hi : hs[i]? = some hs[i] := List.getElem?_eq_getElem (by omega)
    obtain ⟨k1, k2, k3⟩ := step_ok o hi h1 h2
    rw [red_take hi]
    exact ⟨k1, k2, fun x hx => (k3 x (hx _ (List.mem_of_getElem? hi))).trans (h3 x hx)⟩
/-- rows that are nothing where all heads are nothing -/
def Kern (hs : Hds) (rows : List Row) : Prop := ∀ x : Nm → Rat, (∀ h ∈ hs, dot h.2.row x = 0) → ∀ r ∈ rows, dot r x = 0
/-- one row more: it adds a head -/
theorem add_ok (o : HOk U xs hs) {rows : List Row} (kr : Kern hs rows) {e : Eqn} (oe : EqOk U xs 0 e) {row : Row} (hd : ∀ x, dot e.row x = dot row x) {k : Nm} (hk : k ∈ (red hs e).row.map (·.1)) : HOk U xs (hs ++ [(k, red hs e)]) ∧ Kern (hs ++ [(k, red hs e)]) (rows ++ [row]) := by
  obtain ⟨h1, h2, h3⟩ := red_ok o oe hs.length (Nat.le_refl _)
  rw [List.take_length] at h1 h2 h3
  refine ⟨⟨?_, fun i h hi => ?_⟩, fun x hx r hr => ?_⟩
  · unfold rowsOf
    rw [List.map_append]
    refine Ech.snoc o.ech (h := (k, (red hs e).row)) ?_ fun g hg => ?_
    · obtain ⟨p, hp, rfl⟩ := List.mem_map.mp hk
      rw [val_at h1.ro.1 hp]
      exact h1.ro.2 p hp
    · obtain ⟨g', hg', rfl⟩ := List.mem_map.mp hg
      exact h2 g' hg'
  · by_cases hlt : i < hs.length
    · rw [List.getElem?_append_left hlt] at hi
      exact o.ok i h hi
    · rw [List.getElem?_append_right (by omega)] at hi
      have hz : i - hs.length = 0 := by
        by_cases z : i - hs.length = 0
        · exact z
        · rw [List.getElem?_eq_none (by simp; omega)] at hi
          cases hi
      rw [hz] at hi
      cases hi
      have : i = hs.length := by omega
      rw [this]
      exact h1
  · have hx' : ∀ h ∈ hs, dot h.2.row x = 0 := fun h hh => hx h (List.mem_append_left _ hh)
    rcases List.mem_append.mp hr with z | z
    · exact kr x hx' r z
    · rw [List.mem_singleton.mp z, ← hd x, ← h3 x hx']
      exact hx (k, red hs e) (List.mem_append_right _ List.mem_cons_self)
/-- one row more: it says nothing new -/
theorem none_ok (o : HOk U xs hs) {rows : List Row} (kr : Kern hs rows) {e : Eqn} (oe : EqOk U xs 0 e) {row : Row} (hd : ∀ x, dot e.row x = dot row x) (hn : (red hs e).row = []) : (red hs e).right = 0 ∧ Kern hs (rows ++ [row]) := by
  obtain ⟨h1, h2, h3⟩ := red_ok o oe hs.length (Nat.le_refl _)
  rw [List.take_length] at h1 h2 h3
  refine ⟨?_, fun x hx r hr => ?_⟩
  · rw [← h1.sol, hn]
    rfl
  · rcases List.mem_append.mp hr with z | z
    · exact kr x hx r z
    · rw [List.mem_singleton.mp z, ← hd x, ← h3 x hx, hn]
      rfl
end
end LD
set_option maxHeartbeats 4000000
/-! LdElim5: values of names; the sizes that the walk asks. -/
namespace LD
def restTo (l : Row) (name : Nm) (vals : Row) (right : Rat) : Rat := l.foldl (fun r p => if p.1 = name then r else r - p.2 * val vals p.1) right
def valStep (h : Nm × Eqn) (vals : Row) : Row := put vals h.1 (restTo h.2.row h.1 vals h.2.right / val h.2.row h.1)
def valuesOf : Hds → Row
  | [] => []
  | h :: r => valStep h (valuesOf r)
theorem restTo_snoc {l : Row} {name : Nm} {vals : Row} {right : Rat} {p : Nm × Rat} : restTo (l ++ [p]) name vals right = if p.1 = name then restTo l name vals right else restTo l name vals right - p.2 * val vals p.1 := by
  unfold restTo
  rw [List.foldl_append]
  rfl
theorem restTo_take {l : Row} {name : Nm} {vals : Row} {right : Rat} {i : Nat} {p : Nm × Rat} (h : l[i]? = some p) : restTo (l.take (i + 1)) name vals right = if p.1 = name then restTo (l.take i) name vals right else restTo (l.take i) name vals right - p.2 * val vals p.1 := by
  rw [List.take_add_one, h]
  exact restTo_snoc
/-- what is left once the names that are known are taken off -/
theorem restTo_dot {l : Row} {name : Nm} {vals : Row} {right : Rat} {xs : Nm → Rat} (hn : (l.map (·.1)).Nodup) (hv : ∀ p ∈ l, p.1 ≠ name → val vals p.1 = xs p.1) : restTo l name vals right = right - (dot l xs - val l name * xs name) := by
  unfold restTo
  induction l generalizing right with
  | nil => unfold dot; rw [val_nil]; simp; grind
  | cons p l ih =>
    rw [List.map_cons, List.nodup_cons] at hn
    have e : dot (p :: l) xs = p.2 * xs p.1 + dot l xs := by unfold dot; rw [List.map_cons, List.sum_cons]
    rw [List.foldl_cons, ih hn.2 fun q hq => hv q (List.mem_cons_of_mem _ hq), e, val_cons]
    by_cases z : p.1 = name
    · have : val l name = 0 := val_of_not (by rw [← z]; exact hn.1)
      rw [if_pos z, if_pos z, this, z]
      grind
    · rw [if_neg z, if_neg z, hv p List.mem_cons_self z]
      grind
/-- the planted numbers: twelfths -/
def Twelfth (xs : Nm → Rat) : Prop := ∀ k, ∃ X : Int, X.natAbs ≤ 72 ∧ xs k * 12 = (X : Rat)
theorem sz_12 {x : Rat} {X : Int} (h : x * 12 = (X : Rat)) (hb : X.natAbs ≤ 72) : Sz 600 x := by
  have h2 : (1000 : Nat) < 2 ^ 600 := Nat.lt_of_lt_of_le (by decide : 1000 < 2 ^ 10) (Nat.pow_le_pow_right (by decide) (by decide))
  refine sz_rep (q := 12) (R := X) (by decide) (by rw [← h]; rfl) (Nat.lt_of_le_of_lt (by decide) h2) (Nat.lt_of_le_of_lt (by omega) h2)
section
variable {U : List Nm} {xs : Nm → Rat} {hs : Hds}
theorem EqOk.szr {t : Nat} {e : Eqn} (o : EqOk U xs t e) (ht : t ≤ 9) : ∀ p ∈ e.row, Sz 600 p.2 := fun p hp => by
  obtain ⟨q, hq⟩ := o.rep
  rw [← val_at o.ro.1 hp]
  exact hq.sz_row ht _
theorem EqOk.szm {t : Nat} {e : Eqn} (o : EqOk U xs t e) (ht : t ≤ 9) : ∀ p ∈ e.mix, Sz 600 p.2 := fun p hp => by
  obtain ⟨q, hq⟩ := o.rep
  rw [← val_at o.mo.1 hp]
  exact hq.sz_mix ht _
/-- the sizes of partial sums -/
theorem rest_sz {t : Nat} {e : Eqn} {q : Int} (r : Rep (bnd t) e q) (ht : t ≤ 9) (hx : Twelfth xs) (l : Row) (hl : l.length ≤ 9) (hv : ∀ p ∈ l, p.2 = val e.row p.1) (name : Nm) (vals : Row) (hvl : ∀ p ∈ l, p.1 ≠ name → val vals p.1 = xs p.1) : Sz 600 (restTo l name vals e.right) := by
  obtain ⟨T, tb, te⟩ := r.right
  have key : ∀ (l : Row) (right : Rat) (T : Int), (∀ p ∈ l, p.2 = val e.row p.1) → (∀ p ∈ l, p.1 ≠ name → val vals p.1 = xs p.1) → right * ((12 * q : Int) : Rat) = (T : Rat) → ∃ S : Int, S.natAbs ≤ T.natAbs + l.length * (72 * bnd t) ∧ restTo l name vals right * ((12 * q : Int) : Rat) = (S : Rat) := by
    intro l
    induction l with
    | nil => intro right T _ _ h; exact ⟨T, by simp, h⟩
    | cons p l ih =>
      intro right T h1 h2 h3
      have e1 : ∀ x, restTo (p :: l) name vals x = restTo l name vals (if p.1 = name then x else x - p.2 * val vals p.1) := fun x => rfl
      rw [e1]
      by_cases z : p.1 = name
      · rw [if_pos z]
        obtain ⟨S, hS, he⟩ := ih right T (fun p hp => h1 p (List.mem_cons_of_mem _ hp)) (fun p hp => h2 p (List.mem_cons_of_mem _ hp)) h3
        refine ⟨S, ?_, he⟩
        rw [List.length_cons, Nat.add_mul]
        omega
      · rw [if_neg z]
        obtain ⟨R, rb, re⟩ := r.row p.1
        obtain ⟨X, xb, xe⟩ := hx p.1
        have pe : p.2 = val e.row p.1 := h1 p List.mem_cons_self
        have ve := h2 p List.mem_cons_self z
        obtain ⟨S, hS, he⟩ := ih (right - p.2 * val vals p.1) (T - R * X) (fun p hp => h1 p (List.mem_cons_of_mem _ hp)) (fun p hp => h2 p (List.mem_cons_of_mem _ hp)) (by
          rw [Rat.intCast_sub, Rat.intCast_mul R X, ← h3, ← re, ← xe, pe, ve, Rat.intCast_mul 12 q]
          have : ((12 : Int) : Rat) = 12 := rfl
          generalize (q : Rat) = Q
          generalize val e.row p.1 = v
          generalize xs p.1 = x
          grind)
        refine ⟨S, ?_, he⟩
        have h5 : (R * X).natAbs ≤ bnd t * 72 := by rw [Int.natAbs_mul]; exact Nat.mul_le_mul rb xb
        have h6 := Int.natAbs_sub_le T (R * X)
        rw [List.length_cons, Nat.add_mul]
        have h7 : bnd t * 72 = 72 * bnd t := Nat.mul_comm _ _
        omega
  obtain ⟨S, hS, he⟩ := key l e.right T hv hvl te
  have h4 := bnd_9 ht
  have h5 := r.q_le
  generalize hb : bnd 9 = Z at h4
  refine sz_rep (q := 12 * q) (by have := r.nz; omega) he (lt_600 ?_) (lt_600 ?_)
  · rw [Int.natAbs_mul, hb]
    show 12 * q.natAbs ≤ _
    omega
  · rw [hb]
    have h8 : l.length * (72 * bnd t) ≤ 9 * (72 * bnd t) := Nat.mul_le_mul_right _ hl
    omega
/-- what the walk of values_of asks at a head -/
structure VOk (h : Nm × Eqn) (vals : Row) : Prop where
  ro : RowOk h.2.row
  len : h.2.row.length ≤ 9
  piv : val h.2.row h.1 ≠ 0
  vn : (vals.map (·.1)).Nodup
  vl : vals.length ≤ 9
  sr : ∀ p ∈ h.2.row, Sz 600 p.2
  sv : ∀ p ∈ h.2.row, p.1 ≠ h.1 → Sz 600 (val vals p.1)
  sp : ∀ i, Sz 600 (restTo (h.2.row.take i) h.1 vals h.2.right)
/-- the values of the heads behind -/
theorem values_ok (hU : U.length ≤ 9) (hx : Twelfth xs) (o : HOk U xs hs) (all : ∀ k ∈ U, k ∈ hs.map (·.1)) : ∀ r pre, hs = pre ++ r → (valuesOf r).map (·.1) = (r.map (·.1)).reverse ∧ (∀ k ∈ r.map (·.1), look (valuesOf r) k = some (xs k)) ∧ ∀ h r', r = h :: r' → VOk h (valuesOf r') := by
  intro r
  induction r with
  | nil => intro pre _; exact ⟨rfl, fun k hk => by simp at hk, fun h r' e => by cases e⟩
  | cons h r ih =>
    intro pre e
    obtain ⟨i1, i2, i3⟩ := ih (pre ++ [h]) (by rw [e]; simp)
    have hm : h ∈ hs := by rw [e]; exact List.mem_append_right _ List.mem_cons_self
    have hi : hs[pre.length]? = some h := by rw [e, List.getElem?_append_right (Nat.le_refl _)]; simp
    have oh := o.ok _ _ hi
    have hp := o.piv hm
    have nd := o.nodup
    rw [e, List.map_append, List.map_cons, List.nodup_append] at nd
    obtain ⟨n1, n2, n3⟩ := nd
    rw [List.nodup_cons] at n2
    have lenh := o.len
    have lt9 : pre.length ≤ 9 := by rw [e] at lenh; simp at lenh; omega
    -- the other names of the row are known
    have known : ∀ p ∈ h.2.row, p.1 ≠ h.1 → look (valuesOf r) p.1 = some (xs p.1) := fun p hpm ne => by
      have hk := all p.1 (oh.rk p hpm)
      rw [e, List.map_append, List.map_cons] at hk
      rcases List.mem_append.mp hk with z | z
      · exfalso
        obtain ⟨g, hg, eg⟩ := List.mem_map.mp z
        obtain ⟨j, hj⟩ := List.getElem?_of_mem hg
        have hj2 : hs[j]? = some g := by rw [e, List.getElem?_append_left (List.getElem?_eq_some_iff.mp hj).1]; exact hj
        have h0 := o.pair hj2 hi (List.getElem?_eq_some_iff.mp hj).1
        rw [eg, val_at oh.ro.1 hpm] at h0
        exact oh.ro.2 p hpm h0
      · rcases List.mem_cons.mp z with z | z
        · exact absurd z ne
        · exact i2 _ z
    have knownv : ∀ p ∈ h.2.row, p.1 ≠ h.1 → val (valuesOf r) p.1 = xs p.1 := fun p hpm ne => by
      unfold val
      rw [known p hpm ne]
      rfl
    have vn : ((valuesOf r).map (·.1)).Nodup := by rw [i1]; exact (List.reverse_perm _).nodup_iff.mpr n2.2
    have vlen : (valuesOf r).length = r.length := by
      have := congrArg List.length i1
      simpa using this
    have nk : h.1 ∉ (valuesOf r).map (·.1) := by rw [i1, List.mem_reverse]; exact n2.1
    have rest : restTo h.2.row h.1 (valuesOf r) h.2.right / val h.2.row h.1 = xs h.1 := by
      rw [restTo_dot oh.ro.1 knownv, oh.sol]
      generalize val h.2.row h.1 = v at *
      grind
    have vok : VOk h (valuesOf r) := ⟨oh.ro, Nat.le_trans oh.rlen hU, hp, vn, by
      rw [vlen]; rw [e] at lenh; simp at lenh; omega, oh.szr lt9, fun p hpm ne => by
      rw [knownv p hpm ne]
      obtain ⟨X, xb, xe⟩ := hx p.1
      exact sz_12 xe xb, fun i => by
      obtain ⟨q, hq⟩ := oh.rep
      have tk : ∀ p ∈ h.2.row.take i, p ∈ h.2.row := fun p hp => List.mem_of_mem_take hp
      exact rest_sz hq lt9 hx _ (by have := oh.rlen; rw [List.length_take]; omega) (fun p hp => (val_at oh.ro.1 (tk p hp)).symm) _ _ fun p hp ne => knownv p (tk p hp) ne⟩
    refine ⟨?_, fun k hk => ?_, fun h' r' e' => ?_⟩
    · show (put (valuesOf r) h.1 _).map (·.1) = _
      rw [put_keys, if_neg nk, i1]
      simp
    · show look (put (valuesOf r) h.1 _) k = _
      rw [look_put, rest]
      by_cases z : h.1 = k
      · rw [if_pos z, z]
      · rw [if_neg z]
        exact i2 k ((List.mem_cons.mp hk).resolve_left fun z' => z z'.symm)
    · cases e'
      exact vok
end
end LD
set_option maxHeartbeats 4000000
/-! LdElim6: the first equation of a row; what less asks. -/
namespace LD
open PySem PyProof.Rows L2
theorem dot_noughtless {κ : Type} [DecidableEq κ] {m : List (κ × Rat)} {x : κ → Rat} : dot (noughtless m) x = dot m x := by
  induction m with
  | nil => rfl
  | cons p m ih =>
    have e : dot (p :: m) x = p.2 * x p.1 + dot m x := by unfold dot; rw [List.map_cons, List.sum_cons]
    unfold noughtless at ih ⊢
    by_cases h : p.2 = 0
    · rw [List.filter_cons, if_neg (by simp [h]), ih, e, h]
      grind
    · rw [List.filter_cons, if_pos (by simp [h]), e, ← ih]
      unfold dot
      rw [List.map_cons, List.sum_cons]
/-- a row as equation_of makes it, and its right side -/
structure RwOk (U : List Nm) (xs : Nm → Rat) (r : Row) : Prop where
  nd : (r.map (·.1)).Nodup
  keys : ∀ p ∈ r, p.1 ∈ U
  one : ∀ k, ∃ R : Int, R.natAbs ≤ 1 ∧ val r k = (R : Rat)
  right : ∃ T : Int, T.natAbs ≤ 300 ∧ dot r xs * 12 = (T : Rat)
theorem first_ok {U : List Nm} {xs : Nm → Rat} {r : Row} (o : RwOk U xs r) {i : Nat} (hi : i < 100) : EqOk U xs 0 ⟨noughtless r, dot r xs, [((i : Int), 1)]⟩ := by
  refine ⟨noughtless_ok o.nd, ⟨by simp, fun p hp => ?_⟩, fun p hp => o.keys p (List.mem_filter.mp hp).1, fun p hp => ?_, dot_noughtless, 1, by decide, by decide, fun k => ?_, ?_, fun k => ?_⟩
  · rw [List.mem_singleton.mp hp]; show (1 : Rat) ≠ 0; decide
  · rw [List.mem_singleton.mp hp]
    exact List.mem_map.mpr ⟨i, List.mem_range.mpr hi, rfl⟩
  · obtain ⟨R, h1, h2⟩ := o.one k
    refine ⟨R, h1, ?_⟩
    show val (noughtless r) k * ((1 : Int) : Rat) = _
    rw [noughtless_val o.nd, h2]
    have : ((1 : Int) : Rat) = 1 := rfl
    rw [this]; grind
  · obtain ⟨T, h1, h2⟩ := o.right
    refine ⟨T, h1, ?_⟩
    rw [← h2]
    rfl
  · by_cases h : (i : Int) = k
    · refine ⟨1, by decide, ?_⟩
      show val [((i : Int), (1 : Rat))] k * ((1 : Int) : Rat) = _
      rw [val_cons, if_pos h]
      show (1 : Rat) * ((1 : Int) : Rat) = ((1 : Int) : Rat)
      grind
    · refine ⟨0, by decide, ?_⟩
      show val [((i : Int), (1 : Rat))] k * ((1 : Int) : Rat) = _
      rw [val_cons, if_neg h, val_nil]
      have : ((0 : Int) : Rat) = 0 := rfl
      rw [this]; grind
section
variable {U : List Nm} {xs : Nm → Rat}
theorem less_sz {t : Nat} {e h : Eqn} {p : Nm} (ht : t ≤ 9) (oe : EqOk U xs t e) (oh : EqOk U xs t h) (hp : val h.row p ≠ 0) : Sz 1200 (val e.row p / val h.row p) := by
  obtain ⟨q, hq⟩ := oe.rep
  obtain ⟨r, hr⟩ := oh.rep
  exact hq.sz_fac hr ht p hp
theorem EqOk.rsz {t : Nat} {e : Eqn} (ht : t ≤ 9) (oe : EqOk U xs t e) : Sz 600 e.right := by
  obtain ⟨q, hq⟩ := oe.rep
  exact hq.sz_right ht
theorem EqOk.vsz {t : Nat} {e : Eqn} (ht : t ≤ 9) (oe : EqOk U xs t e) (p : Nm) : Sz 600 (val e.row p) := by
  obtain ⟨q, hq⟩ := oe.rep
  exact hq.sz_row ht p
end
/-! what an owned list is not -/
theorem rm_dall {o : HO} {d : Addr} {B : Hp} (hd : B d = some o) : ∀ {m : List (List Int × Ty)} {kvs : List (List L2.Key × V)}, (∀ p ∈ m, Rm o p.2) → DAll m kvs B → DAll m kvs (del B d)
  | [], [], _, _ => trivial
  | p :: m, q :: kvs, ht, h => ⟨h.1, ht p List.mem_cons_self q.2 B d hd h.2.1, rm_dall hd (fun t' h' => ht t' (List.mem_cons_of_mem _ h')) h.2.2⟩
  | [], _ :: _, _, h => h.elim
  | _ :: _, [], _, h => h.elim
theorem rm_dallI {o : HO} {d : Addr} {B : Hp} (hd : B d = some o) : ∀ {m : List (Int × Ty)} {kvs : List (L2.Key × V)}, (∀ p ∈ m, Rm o p.2) → DAllI m kvs B → DAllI m kvs (del B d)
  | [], [], _, _ => trivial
  | p :: m, q :: kvs, ht, h => ⟨h.1, ht p List.mem_cons_self q.2 B d hd h.2.1, rm_dallI hd (fun t' h' => ht t' (List.mem_cons_of_mem _ h')) h.2.2⟩
  | [], _ :: _, _, h => h.elim
  | _ :: _, [], _, h => h.elim
theorem rm_dT {o : HO} {m : List (List Int × Ty)} (n : ∀ kvs, o ≠ .dT kvs) (h : ∀ p ∈ m, Rm o p.2) : Rm o (yDT m) := fun v B d hd ⟨a, kvs, e, ha, k⟩ =>
  ⟨a, kvs, e, by rw [del_ne (ne_of ha hd (fun z => n _ z.symm))]; exact ha, rm_dall hd h k⟩
theorem rm_dI {o : HO} {m : List (Int × Ty)} (n : ∀ kvs, o ≠ .dK kvs) (h : ∀ p ∈ m, Rm o p.2) : Rm o (yDI m) := fun v B d hd ⟨a, kvs, e, ha, k⟩ =>
  ⟨a, kvs, e, by rw [del_ne (ne_of ha hd (fun z => n _ z.symm))]; exact ha, rm_dallI hd h k⟩
theorem rm_o {o : HO} {C : Addr} {fs : Fs} (n : ∀ C dx xs, o ≠ .ins C dx xs) (h : ∀ p ∈ fs, Rm o p.2) : Rm o (yO C fs) := fun v B d hd ⟨a, u, e, ha, dx, xs, eu, k1, k2⟩ => by
  subst eu
  refine ⟨a, _, e, by rw [del_ne (ne_of ha hd (fun z => n _ _ _ z.symm))]; exact ha, dx, xs, rfl, k1, rm_all hd (fun t ht => ?_) k2⟩
  obtain ⟨p, hp, rfl⟩ := List.mem_map.mp ht
  exact h p hp
/-- one of many -/
def yEx {ι : Type} (P : ι → Prop) (F : ι → Ty) : Ty := ⟨fun v H => ∃ i, P i ∧ (F i).p v H, fun s ⟨i, h, k⟩ => ⟨i, h, (F i).m s k⟩⟩
theorem ow_ex {ι : Type} {Pp : ι → Prop} {F : ι → Ty} {ts : List Ty} {d : Addr} {B H : Hp} (w : Ow d (oL (ts ++ [yEx Pp F])) B H) : ∃ i, Pp i ∧ Ow d (oL (ts ++ [F i])) B H := by
  obtain ⟨o, h1, vs, rfl, h2⟩ := w.ex
  obtain ⟨ws, v, rfl, h3, i, hi, h4⟩ := all_last h2
  exact ⟨i, hi, w.nb, _, h1, _, rfl, All.append (us := [F i]) (ws := [v]) ⟨h4, trivial⟩ h3⟩
end LD
set_option maxRecDepth 100000
set_option maxHeartbeats 4000000
/-! LdEqn: elimination.Equation, values_of -/

namespace LD
open PySem PyProof.Rows L2
abbrev s_Equation___init__ : Stmt := inClass (topS 32) 0
theorem sc_Equation___init__ : FnScope ["self", "row", "right", "mix"] ["self", "row", "right", "mix"] (defScope s_Equation___init__) :=
  ⟨rfl, rfl, rfl, by decide +kernel, rfl, by decide +kernel, by decide +kernel⟩
abbrev s_Equation_less : Stmt := inClass (topS 32) 1
theorem sc_Equation_less : FnScope ["self", "other", "factor", "away", "right"] ["self", "other", "factor"] (defScope s_Equation_less) :=
  ⟨rfl, rfl, rfl, by decide +kernel, rfl, by decide +kernel, by decide +kernel⟩
/-- __init__ at its start -/
theorem init_start {C x dx : Addr} {B H1 : Hp} (hx : H1 x = none) (hdx : H1 dx = none) (ne : dx ≠ x) (sb : Same B H1) : Gr B H1 B (upd (upd H1 dx (.own x)) x (.ins C dx [])) ∧ Ow x (oO C []) B (upd (upd H1 dx (.own x)) x (.ins C dx [])) := by
  have g1 := Gr.own (o := .own x) sb hdx
  have hx2 : upd H1 dx (.own x) x = none := by rw [upd_ne (fun z => ne z.symm)]; exact hx
  exact ⟨g1.trans (Gr.own g1.in_ hx2), Ow.new g1.in_ hx2 ⟨dx, [], rfl, rfl, trivial⟩⟩
abbrev fE (K : PySem.W.Frag) (e : Eqn) : Fs := [("row", yRow K e.row), ("right", yF K e.right), ("mix", yMix K e.mix)]
abbrev yE (CE : Addr) (K : PySem.W.Frag) (e : Eqn) : Ty := yO CE (fE K e)
abbrev nsE : List Str := ["row", "right", "mix"]
inductive RinitE (K : PySem.W.Frag) : List Ty → Fs → Prop
  | mk (e : Eqn) : RinitE K [yRow K e.row, yF K e.right, yMix K e.mix] (fE K e)
inductive Rless (P : Program) (w : World) (CE : Addr) (K : PySem.W.Frag) : List Ty → Ty → Prop
  | mk (e h : Eqn) (c : Rat) (w1 : WithOk e.row h.row (0 - c)) (w2 : WithOk e.mix h.mix (0 - c)) (hh : HashOk P w (e.row.map (·.1))) (s1 : Sz 4000 c) (s2 : Sz 4000 e.right) (s3 : Sz 4000 h.right) (s4 : Sz 4000 ((0 - c) * h.right)) : Rless P w CE K [yE CE K e, yE CE K h, yF K c] (yE CE K (lessE e h c))
section
variable {P : Program} {w : World} {K : PySem.W.Frag} {mg : Str → Option Value} {base : Heap} {CE : Addr}
theorem ok_eqinit (D : DefI K mg CE "Equation" "Equation.__init__" s_Equation___init__ ["self", "row", "right", "mix"]) (cE : ClsF K CE nsE) : CalI P w K mg base CE "Equation" 1 ["self", "row", "right", "mix"] (spN CE (RinitE K)) := by
  have sc := sc_Equation___init__
  refine D.ok sc (fun vs H Q E h => ?_) (fun f cdv A outer s H vs Q E hr h => ?_)
  · obtain ⟨x, dx, rest, H1, B, Ts, fs, rfl, r, hx, hdx, ne, e, sb, a, q⟩ := h
    cases r
    rw [List.length_cons, a.len]
    rfl
  · obtain ⟨x, dx, rest, H1, B, Ts, fs, rfl, r, hx, hdx, ne, rfl, sb, a, q⟩ := h
    refine ⟨_, (pss_cons (ps_fld (pv 0) (pv 1) rfl)
(pss_cons (ps_fld (pv 0) (pv 2) rfl)
(pss_one (ps_fld (pv 0) (pv 3) rfl)))), ?_⟩
    cases r with
    | mk e =>
    obtain ⟨v1, v2, v3, rfl, h1, h2, h3⟩ := all3 a
    obtain ⟨g0, w0⟩ := init_start (C := CE) hx hdx ne sb
    refine hq_fnew (is_var rfl) w0 cE (by decide) (by decide) (by decide) (Gv.h (T := yRow K e.row) (by walk_at "gv") g0.in_) fun B1 H2 o1 g1 w1 => ?_
    have g1' : Gr B H1 B1 (upd H2 x o1) := (g0.trans g1).put (w0.m g1) hx
    refine hq_fnew (is_var rfl) w1 cE (by decide) (by walk_at "nm") (by simp) (Gv.h (T := yF K e.right) (by walk_at "gv") g1'.in_) fun B2 H3 o2 g2 w2 => ?_
    have g2' : Gr B H1 B2 (upd H3 x o2) := (g1'.trans g2).put (w1.m g2) hx
    refine ht_fnew (is_var rfl) w2 cE (by decide) (by walk_at "nm") (by simp) (Gv.h (T := yMix K e.mix) (by walk_at "gv") g2'.in_) fun B3 H4 o3 g3 w3 => ?_
    exact q B3 _ ((g2'.trans g3).put (w2.m g3) hx) w3
theorem ok_less (D : DefM K CE "less" "Equation.less" s_Equation_less ["self", "other", "factor"]) (cE : ClsF K CE nsE) (gz : Gz K mg "ZERO" 0) (c_minus : Cal P w K mg base "minus" 3 ["one", "other"] (spG (Rminus K)))
    (c_plus : Cal P w K mg base "plus" 3 ["one", "other"] (spG (Rplus K))) (c_times : Cal P w K mg base "times" 3 ["one", "other"] (spG (Rtimes K))) (c_with_times : Cal P w K mg base "with_times" 4 ["one", "other", "factor"] (spG (Rwith P w K)))
    (k_Equation : CalI P w K mg base CE "Equation" 1 ["self", "row", "right", "mix"] (spN CE (RinitE K))) : CalM P w K mg base CE "less" 5 ["self", "other", "factor"] (spG (Rless P w CE K)) := by
  have sc := sc_Equation_less
  obtain ⟨vz, gZERO, hz⟩ := gz.ex
  refine D.ok sc (fun vs H Q E h => ?_) (fun f cdv A outer s H vs Q E hr h => ?_)
  · obtain ⟨B, Ts, T, r, s, a, _⟩ := h
    cases r
    exact a.len
  · obtain ⟨B, Ts, T, r, sb, a, q⟩ := h
    refine ⟨_, (pss_cons (ps_set (i := 3) sc.nd rfl (.inl rfl) (pe_cl c_minus (hr.mono (by decide)) (pa_cons (pe_gc gZERO) (pa_cons (pv 2) pa_nil))))
(pss_cons (ps_set (i := 4) sc.nd rfl (.inl rfl) (pe_cl c_plus (hr.mono (by decide)) (pa_cons (pe_fldK K rfl (pv 0) rfl) (pa_cons (pe_cl c_times (hr.mono (by decide)) (pa_cons (pv 3) (pa_cons (pe_fldK K rfl (pv 1) rfl) pa_nil))) pa_nil))))
(pss_one (ps_ret (pe_mk k_Equation (hr.mono (by decide)) (pa_cons (pe_cl c_with_times (hr.mono (by decide)) (pa_cons (pe_fldK K rfl (pv 0) rfl) (pa_cons (pe_fldK K rfl (pv 1) rfl) (pa_cons (pv 3) pa_nil)))) (pa_cons (pv 4) (pa_cons (pe_cl c_with_times (hr.mono (by decide)) (pa_cons (pe_fldK K rfl (pv 0) rfl) (pa_cons (pe_fldK K rfl (pv 1) rfl) (pa_cons (pv 3) pa_nil)))) pa_nil)))))))), ?_⟩
    cases r with
    | mk e h c w1 w2 hh s1 s2 s3 s4 =>
    obtain ⟨v1, v2, v3, rfl, h1, h2, h3⟩ := all3 a
    refine sq_set (T := yF K (0 - c)) sb (by walk_at "gv"; exact .mk _ _ (sz_zero (by decide)) s1) fun v4 B1 H1 g1 h4 => ?_
    refine sq_set (T := yF K (e.right + (0 - c) * h.right)) g1.in_ (by
      walk_at "gv"
      case r => exact .mk _ _ w1.sc s3
      case r => exact .mk _ _ s2 s4) fun v5 B2 H2 g2 h5 => ?_
    refine st_ret (T := yE CE K (lessE e h c)) g2.in_ (by
      walk_at "gv"
      case r => exact .t _ _ _ w1 hh
      case r => exact .i _ _ _ w2
      case r => exact .mk (lessE e h c)) (q.go (g1.trans g2))
end
end LD
set_option maxRecDepth 100000
set_option maxHeartbeats 1000000
/-! LdVals: values_of -/

namespace LD
open PySem PyProof.Rows L2
abbrev s_values_of : Stmt := topS 34
theorem sc_values_of : FnScope ["heads", "values", "name", "head", "rest", "other"] ["heads"] (defScope s_values_of) :=
  ⟨rfl, rfl, rfl, by decide +kernel, rfl, by decide +kernel, by decide +kernel⟩
abbrev yHd (CE : Addr) (K : PySem.W.Frag) (h : Nm × Eqn) : Ty := yT [yIs h.1, yE CE K h.2]
inductive Rvals (CE : Addr) (K : PySem.W.Frag) : List Ty → Ty → Prop
  | mk (hs : Hds) (ok : ∀ pre h r, hs = pre ++ h :: r → VOk h (valuesOf r)) (hl : hs.length ≤ 9) : Rvals CE K [yL (hs.map (yHd CE K))] (yRow K (valuesOf hs))
section
variable {P : Program} {w : World} {K : PySem.W.Frag} {mg : Str → Option Value} {base : Heap} {CE : Addr}
theorem ok_values (D : Def K mg "values_of" s_values_of ["heads"]) (bl : Blt mg) (cE : ClsF K CE nsE) (gz : Gz K mg "ZERO" 0) (c_minus : Cal P w K mg base "minus" 3 ["one", "other"] (spG (Rminus K)))
    (c_times : Cal P w K mg base "times" 3 ["one", "other"] (spG (Rtimes K))) (c_over : Cal P w K mg base "over" 3 ["one", "other"] (spG (Rover K))) : Cal P w K mg base "values_of" 4 ["heads"] (spG (Rvals CE K)) := by
  have sc := sc_values_of
  obtain ⟨vz, gZERO, hz⟩ := gz.ex
  refine D.ok sc (fun Ts T r => by cases r; rfl) (fun f cdv A outer s H vs E B Ts T r sb a hr => ?_)
  refine ⟨_, (pss_cons (ps_set (i := 1) sc.nd rfl (.inl rfl) pe_dnewT)
(pss_cons (ps_for PassesOwn.never rfl (pi_reversed (by rfl) bl.reversed_ (pa_cons (pv 0) pa_nil)) (pg_tup (by rfl) (pgs_cons (pg_name (i := 2) sc.nd rfl (.inl rfl)) (pgs_cons (pg_name (i := 3) sc.nd rfl (.inl rfl)) pgs_nil)))
  (pss_cons (ps_set (i := 4) sc.nd rfl (.inl rfl) (pe_fldK K rfl (pv 3) rfl))
(pss_cons (ps_lock (ps_for PassesOwn.never rfl (pi_keys (pe_fldK K rfl (pv 3) rfl)) (pg_name (i := 5) sc.nd rfl (.inl rfl))
  (pss_one (ps_if (pt_cmpR (op_neDK K rfl (hr64 hr)) (pv 5) (pv 2) (nomark _))
  (pss_one (ps_set (i := 4) sc.nd rfl (.inl rfl) (pe_cl c_minus (hr.mono (by decide)) (pa_cons (pv 4) (pa_cons (pe_cl c_times (hr.mono (by decide)) (pa_cons (pe_dget (hu_of hr) (pe_fldK K rfl (pv 3) rfl) (pv 5) (fun _ _ => rfl)) (pa_cons (pe_dget2 (hu_of hr) (pv 1) (pv 5) (pe_gc gZERO) ⟨rfl, rfl, rfl, rfl⟩) pa_nil))) pa_nil)))))
  pss_nil))))
(pss_one (ps_dput (hu_of hr) (pv 1) (pv 2) (pe_cl c_over (hr.mono (by decide)) (pa_cons (pv 4) (pa_cons (pe_dget (hu_of hr) (pe_fldK K rfl (pv 3) rfl) (pv 2) (fun _ _ => rfl)) pa_nil))) rfl)))))
(pss_one (ps_ret (pv 1))))), fun Q q => ?_⟩
  cases r with
  | mk hs ok hl =>
  obtain ⟨vh, rfl, hvh⟩ := all1 a
  refine hq_newT sb fun d H1 g1 hd w1 => ?_
  have hlen : (hs.map (yHd CE K)).length = hs.length := List.length_map _
  refine sq_for g1.in_ (gi_rev (gv_var (i := 0) rfl hvh (Same.refl _)) isLs_l) (fun i σ B2 H2 => ∃ n2 n3 n4 n5, σ = [some vh, some (.ref d), n2, n3, n4, n5] ∧ Ow d (oT (mR K (valuesOf (hs.drop (hs.length - i))))) B2 H2 ∧ Gr B H B2 H2)
    (fun B2 H2 g2 => ⟨_, _, _, _, rfl, by rw [Nat.sub_zero, List.drop_length]; exact w1.m g2, g1.trans g2⟩) (fun Bs i x σ B1 H1 B2 H2 hi s1 s2 s3 hP g2 hx => ?_) (fun σ B2 H2 s1 s2 hP => ?_)
  · obtain ⟨n2, n3, n4, n5, rfl, w2, gg⟩ := hP
    rw [hlen] at hi hx
    obtain ⟨h, hh⟩ : ∃ h, hs[hs.length - 1 - i]? = some h := ⟨_, List.getElem?_eq_getElem (by omega)⟩
    have hty : tyAt (hs.map (yHd CE K)) (hs.length - 1 - i) = yHd CE K h := tyAt_of (by rw [List.getElem?_map, hh]; rfl)
    rw [hty] at hx
    have hdrop : hs.drop (hs.length - (i + 1)) = h :: hs.drop (hs.length - i) := by
      have e1 : hs.length - (i + 1) = hs.length - 1 - i := by omega
      have e2 : hs.length - i = hs.length - 1 - i + 1 := by omega
      rw [e1, e2]
      exact List.drop_eq_getElem?_toList_append.trans (by rw [hh]; rfl)
    have vok : VOk h (valuesOf (hs.drop (hs.length - i))) := ok (hs.take (hs.length - (i + 1))) h (hs.drop (hs.length - i)) (by rw [← hdrop, List.take_append_drop])
    generalize hvals : valuesOf (hs.drop (hs.length - i)) = vals at vok w2
    refine g_tup2 hx g2.in_ fun vn vd hvn hvd => ?_
    have w3 := w2.m g2
    refine sq_set (T := yF K h.2.right) g2.in_ (by walk_at "gv") fun vr B3 H3 g3 hvr => ?_
    have w4 := w3.m g3
    have hvd3 := (yE CE K h.2).m g3.bs hvd
    obtain ⟨ia, io, rfl, hia, dx, xs, rfl, hxs⟩ := id hvd3
    obtain ⟨v1, r1, rfl, ⟨dd, kvs, rfl, hdd, hka⟩, hxs1⟩ := fs_cons hxs
    obtain ⟨v2, r2, rfl, hv2, hxs2⟩ := fs_cons hxs1
    obtain ⟨v3, r3, rfl, hv3, hxs3⟩ := fs_cons hxs2
    obtain rfl := fs_nil hxs3
    have hq : (yO CE [("row", yX (.ref dd)), ("right", yAny), ("mix", yAny)]).p (.ref ia) B3 := ⟨ia, _, rfl, hia, dx, _, rfl, fs_of rfl (fs_of trivial (fs_of trivial hxs3))⟩
    have fo : Frz (yO CE [("row", yX (.ref dd)), ("right", yAny), ("mix", yAny)]) := frz_o fun p hp => by
      simp only [List.mem_cons, List.not_mem_nil, or_false] at hp
      rcases hp with rfl | rfl | rfl
      · exact frz_x
      · exact frz_any
      · exact frz_any
    refine ht_keysT (B := B3) g3.in_ hdd hka fz_mR (fun od => ?_) (fun od j σ B4 H4 => ∃ vr n5, σ = [some vh, some (.ref d), some vn, some (.ref ia), some vr, n5] ∧ (yF K (restTo (h.2.row.take j) h.1 vals h.2.right)).p vr B4 ∧ Gr (upd B3 dd (.frz od (.dT kvs))) (upd H3 dd (.frz od (.dT kvs))) B4 H4)
      (fun od => ⟨_, _, rfl, frz_f _ _ _ _ _ hdd trivial hvr, Gr.refl (lock_same g3.in_)⟩) (fun od B4 H4 B5 H5 g ⟨vr, n5, e, h1, h2⟩ => ⟨vr, n5, e, (yF K _).m g.bs h1, h2.trans g⟩) (fun od Bs2 j k σ' B4 H4 B5 H5 p hp s4 s5 s6 hP g5 hx5 hod hka5 => ?_) (fun od σ' B4 H4 s4 s5 hP => ?_)
    · exact gv_fld (fs := [("row", yX (.ref dd)), ("right", yAny), ("mix", yAny)]) (gv_var rfl (fo _ _ _ od _ hdd trivial hq) (Same.refl _)) cE (by decide) rfl
    · obtain ⟨vr4, n5, rfl, hr4, gg4⟩ := hP
      obtain ⟨pr, hpr, rfl⟩ := mR_at hp
      have mem := List.mem_of_getElem? hpr
      have s45 : Same (upd B3 dd (.frz od (.dT kvs))) B5 := s4.trans (s5.trans g5.bs)
      have w5 : Ow d (oT (mR K vals)) B5 H5 := ((w4.lock hdd fun o2 ⟨k2, e, hk2⟩ => ⟨k2, e, frz_dall hdd trivial fz_mR hk2⟩).m gg4).m g5
      have hvn5 : (yIs h.1).p vn B5 := (yIs h.1).m s45 (frz_is _ _ _ _ _ hdd trivial ((yIs h.1).m g3.bs hvn))
      have hl : look (mR K h.2.row) pr.1 = some (yF K pr.2) := mR_get (look_of_mem vok.ro.1 mem)
      have hq5 : (yO CE [("row", yDr (mR K h.2.row)), ("right", yAny), ("mix", yAny)]).p (.ref ia) B5 := by
        have h6 := (yO CE _).m s45 (fo _ _ _ od _ hdd trivial hq)
        refine yO_imp h6 fun xs hx => ?_
        obtain ⟨v1, r1, rfl, e1, hx1⟩ := fs_cons hx
        obtain rfl : v1 = .ref dd := e1
        exact fs_of ⟨dd, kvs, rfl, .inr ⟨od, hod⟩, hka5⟩ hx1
      have hr5 := (yF K _).m g5.bs hr4
      refine st_if g5.in_ (b := !decide (pr.1 = h.1)) (by walk_at "gv") (fun hb B6 H6 g6 => ?_) (fun hb B6 H6 g6 => ?_)
      · have hb : pr.1 ≠ h.1 := by simpa using hb
        refine ht_set (T := yF K (restTo (h.2.row.take j) h.1 vals h.2.right - pr.2 * val vals pr.1)) (Gh.own (w5.m g6) g6.in_ rk_fT fun B7 s7 s8 t => ?_) fun v B7 H7 g7 hv => ?_
        · walk_at "gv"
          case r => exact .mk _ _ ((vok.sr _ mem).mono (by decide)) ((vok.sv _ mem hb).mono (by decide))
          case r => exact .mk _ _ ((vok.sp j).mono (by decide)) ((sz_mul (vok.sr _ mem) (vok.sv _ mem hb)).mono (by decide))
        · refine ⟨B7, s5.trans ((g5.bs.trans g6.bs).trans g7.bs), g7.in_, _, _, rfl, ?_, (((gg4.trans g5).trans g6).trans g7)⟩
          rw [restTo_take hpr, if_neg hb]
          exact hv
      · have hb : pr.1 = h.1 := by simpa using hb
        refine ⟨B6, s5.trans (g5.bs.trans g6.bs), g6.in_, _, _, rfl, ?_, (gg4.trans g5).trans g6⟩
        rw [restTo_take hpr, if_pos hb]
        exact (yF K _).m g6.bs hr5
    · obtain ⟨vr4, n5, rfl, hr4, gg4⟩ := hP
      rw [mR_len, List.take_length] at hr4
      have hd4 : B4 dd = some (.frz od (.dT kvs)) := s4 _ _ upd_same
      have g4 := lock_back hdd g3.in_ gg4
      have hr5 := unf_f _ _ _ _ _ hd4 trivial hr4
      have w5 := w4.m g4
      have hvn5 : (yIs h.1).p vn _ := (yIs h.1).m (g3.bs.trans g4.bs) hvn
      have hvd5 := (yE CE K h.2).m g4.bs hvd3
      have hl : look (mR K h.2.row) h.1 = some (yF K (val h.2.row h.1)) := mR_get (by rw [vok.ro.look, if_neg vok.piv])
      have hov : Gv (tCl (spG (Rover K)) (tCons (tVar 4) (tCons (tDGet (tFld K (tVar 3) "row") (tVar 2)) tNil))) [some vh, some (V.ref d), some vn, some (V.ref ia), some vr4, n5] (upd B4 dd (.dT kvs)) (yF K (restTo h.2.row h.1 vals h.2.right / val h.2.row h.1)) := (by
        walk_at "gv"
        have hsp := vok.sp h.2.row.length
        rw [List.take_length] at hsp
        obtain ⟨p, hp, e⟩ := List.mem_map.mp (val_mem vok.piv)
        have hsv := vok.sr p hp
        rw [← val_at vok.ro.1 hp, e] at hsv
        exact .mk _ _ (hsp.mono (by decide)) (hsv.mono (by decide)) vok.piv)
      refine ht_dputT (is_var rfl) w5 g4.in_ (T := yF K (restTo h.2.row h.1 vals h.2.right / val h.2.row h.1)) (by rw [mR_keys]; exact vok.vn) (by rw [mR_len]; have := vok.vl; omega) (Gv.h hov g4.in_) (by walk_at "gv") fun B5 H5 o5 g5 w6 => ?_
      have gf := ((((gg.trans g2).trans g3).trans g4).trans g5)
      refine ⟨B5, s2.trans (((g2.bs.trans g3.bs).trans g4.bs).trans g5.bs), (w5.m g5).same g5.in_, _, _, _, _, rfl, ?_, gf.put (w5.m g5) hd⟩
      rw [hdrop]
      show Ow d (oT (mR K (valStep h (valuesOf (hs.drop (hs.length - i)))))) B5 _
      rw [hvals]
      unfold valStep
      rw [← mR_put]
      exact w6
  · obtain ⟨n2, n3, n4, n5, rfl, w2, gg⟩ := hP
    rw [hlen, Nat.sub_self, List.drop_zero] at w2
    obtain ⟨B4, g4, s4, h4⟩ := w2.pub gg hd
    exact ⟨_, rfl, q _ B4 _ g4 (oT_ty h4)⟩
end
end LD
set_option maxRecDepth 100000
set_option maxHeartbeats 1000000
/-! LdSolve: elimination.solved -/

namespace LD
open PySem PyProof.Rows L2
abbrev s_solved : Stmt := topS 33
theorem sc_solved : FnScope ["rows", "rights", "heads", "number", "row", "equation", "name", "head"] ["rows", "rights"] (defScope s_solved) :=
  ⟨rfl, rfl, rfl, by decide +kernel, rfl, by decide +kernel, by decide +kernel⟩
/-- the solution: these names, these values -/
def ySol (K : PySem.W.Frag) (U : List Nm) (xs : Nm → Rat) : Ty := yEx (fun m : Row => (m.map (·.1)).Nodup ∧ ∀ k ∈ U, look m k = some (xs k)) (fun m => yRow K m)
structure SolveOk (P : Program) (w : World) (U : List Nm) (xs : Nm → Rat) (rows : List Row) : Prop where
  ul : U.length ≤ 9
  hash : ∀ ks : List Nm, ks.Nodup → (∀ k ∈ ks, k ∈ U) → HashOk P w ks
  tw : Twelfth xs
  ok : ∀ r ∈ rows, RwOk U xs r
  rl : ∀ r ∈ rows, r.length < 100
  len : rows.length ≤ 100
  ker : ∀ x : Nm → Rat, (∀ r ∈ rows, dot r x = 0) → ∀ k ∈ U, x k = 0
inductive Rsolved (P : Program) (w : World) (K : PySem.W.Frag) : List Ty → Ty → Prop
  | mk (U : List Nm) (xs : Nm → Rat) (rows : List Row) (h : SolveOk P w U xs rows) : Rsolved P w K [yL (rows.map (yRow K)), yL (rows.map fun r => yF K (dot r xs))] (yT [yX (.str "one"), ySol K U xs])
theorem rm_row {K : PySem.W.Frag} {ts : List Ty} {a : Row} : RmK (oL ts) (yRow K a) := fun o H ⟨_, e, _⟩ => by
  subst e
  refine rm_dT (fun _ z => nomatch z) fun p hp => ?_
  obtain ⟨q, _, rfl⟩ := List.mem_map.mp hp
  exact rm_f (fun _ z => nomatch z) (fun _ _ z => nomatch z)
theorem rm_mix {K : PySem.W.Frag} {ts : List Ty} {a : List (Int × Rat)} : RmK (oL ts) (yMix K a) := fun o H ⟨_, e, _⟩ => by
  subst e
  refine rm_dI (fun _ z => nomatch z) fun p hp => ?_
  obtain ⟨q, _, rfl⟩ := List.mem_map.mp hp
  exact rm_f (fun _ z => nomatch z) (fun _ _ z => nomatch z)
theorem rm_eqn {CE : Addr} {K : PySem.W.Frag} {ts : List Ty} {e : Eqn} : RmK (oL ts) (yE CE K e) := fun o H h => by
  obtain ⟨xs, eo, k⟩ := id h
  subst eo
  refine rm_o (fun _ _ _ z => nomatch z) fun p hp => ?_
  simp only [List.mem_cons, List.not_mem_nil, or_false] at hp
  rcases hp with rfl | rfl | rfl
  · exact rm_row _ _ h
  · exact rk_fL _ _ h
  · exact rm_mix _ _ h
section
variable {P : Program} {w : World} {K : PySem.W.Frag} {mg : Str → Option Value} {base : Heap} {CE : Addr}
theorem ok_solved (D : Def K mg "solved" s_solved ["rows", "rights"]) (bl : Blt mg) (cE : ClsF K CE nsE) (gz : Gz K mg "ZERO" 0) (go : Gz K mg "ONE" 1) (c_over : Cal P w K mg base "over" 3 ["one", "other"] (spG (Rover K)))
    (c_without_noughts : Cal P w K mg base "without_noughts" 1 ["row"] (spG (Rnought K))) (k_Equation : CalI P w K mg base CE "Equation" 1 ["self", "row", "right", "mix"] (spN CE (RinitE K)))
    (m_less : CalM P w K mg base CE "less" 5 ["self", "other", "factor"] (spG (Rless P w CE K))) (c_values_of : Cal P w K mg base "values_of" 4 ["heads"] (spG (Rvals CE K))) : Cal P w K mg base "solved" 6 ["rows", "rights"] (spG (Rsolved P w K)) := by
  have sc := sc_solved
  obtain ⟨vz, gZERO, hz⟩ := gz.ex
  obtain ⟨vo, gONE, ho⟩ := go.ex
  refine D.ok sc (fun Ts T r => by cases r; rfl) (fun f cdv A outer s H vs E B Ts T r sb a hr => ?_)
  refine ⟨_, (pss_cons (ps_set (i := 2) sc.nd rfl (.inl rfl) (pe_lst pa_nil))
(pss_cons (ps_for PassesOwn.never rfl (pi_enum (by rfl) bl.enumerate_ (pa_cons (pv 0) pa_nil)) (pg_tup (by rfl) (pgs_cons (pg_name (i := 3) sc.nd rfl (.inl rfl)) (pgs_cons (pg_name (i := 4) sc.nd rfl (.inl rfl)) pgs_nil)))
  (pss_cons (ps_set (i := 5) sc.nd rfl (.inl rfl) (pe_mk k_Equation (hr.mono (by decide)) (pa_cons (pe_cl c_without_noughts (hr.mono (by decide)) (pa_cons (pv 4) pa_nil)) (pa_cons (pe_ix (ix_listK K rfl) (pv 1) (pv 3) (fun _ _ => rfl)) (pa_cons (pe_disp (pps_cons (pv 3) (pe_gc gONE) pps_nil) (by rfl) (by rfl) (fun z => by cases z) (by decide)) pa_nil)))))
(pss_cons (ps_for PassesOwn.never rfl (pi_list (pv 2)) (pg_tup (by rfl) (pgs_cons (pg_name (i := 6) sc.nd rfl (.inl rfl)) (pgs_cons (pg_name (i := 7) sc.nd rfl (.inl rfl)) pgs_nil)))
  (pss_one (ps_if (pt_cmp (pc_din (hu_of hr) (pv 6) (pe_fldK K rfl (pv 5) rfl)))
  (pss_one (ps_set (i := 5) sc.nd rfl (.inl rfl) (pe_me m_less (hr.mono (by decide)) (pv 5) (pa_cons (pv 7) (pa_cons (pe_cl c_over (hr.mono (by decide)) (pa_cons (pe_dget (hu_of hr) (pe_fldK K rfl (pv 5) rfl) (pv 6) (fun _ _ => rfl)) (pa_cons (pe_dget (hu_of hr) (pe_fldK K rfl (pv 7) rfl) (pv 6) (fun _ _ => rfl)) pa_nil))) pa_nil)))))
  pss_nil)))
(pss_one (ps_if (pt_cmpR op_gt (pb_lenT bl.len_ (pa_cons (pe_fldK K rfl (pv 5) rfl) pa_nil)) pe_int (nomark _))
  (pss_one (ps_expr (pe_bm PySem.F.plainAttrs_list PySem.F.slot_list_append PySem.F.type_list_append mt_append (pv 2) (pa_cons (pe_tup (pa_cons (pb_minT (hu_of hr) bl.min_ (pa_cons (pe_fldK K rfl (pv 5) rfl) pa_nil)) (pa_cons (pv 5) pa_nil))) pa_nil))))
  (pss_one (ps_if (pt_cmpR (op_neDK K rfl (hr64 hr)) (pe_fldK K rfl (pv 5) rfl) (pe_gc gZERO) (nomark _))
  (pss_one (ps_ret (pe_tup (pa_cons pe_str (pa_cons (pe_fldK K rfl (pv 5) rfl) pa_nil)))))
  pss_nil)))))))
(pss_one (ps_ret (pe_tup (pa_cons pe_str (pa_cons (pe_cl c_values_of (hr.mono (by decide)) (pa_cons (pv 2) pa_nil)) pa_nil))))))), fun Q q => ?_⟩
  cases r with
  | mk U xs rows so =>
  obtain ⟨v1, v2, rfl, h1, h2⟩ := all2 a
  refine hq_newL sb ga_nil (by simp) fun d B1 H1 g1 nd1 hd w1 => ?_
  refine sq_for g1.in_ (gi_enum (gv_var (i := 0) rfl h1 g1.bs) isLs_l) (fun i σ B2 H2 => ∃ hs n3 n4 n5 n6 n7, σ = [some v1, some v2, some (.ref d), n3, n4, n5, n6, n7] ∧ HOk U xs hs ∧ Kern hs (rows.take i) ∧ Ow d (oL (hs.map (yHd CE K))) B2 H2 ∧ Gr B H B2 H2)
    (fun B2 H2 g2 => ⟨[], _, _, _, _, _, rfl, ⟨trivial, fun i h e => by simp at e⟩, fun x hx r hr => by simp at hr, w1.m g2, g1.trans g2⟩) (fun Bs i x σ B1 H1 B2 H2 hi s1 s2 s3 hP g2 hx => ?_) (fun σ B2 H2 s1 s2 hP => ?_)
  · obtain ⟨hs, n3, n4, n5, n6, n7, rfl, hok, kern, w2, gg⟩ := hP
    rw [List.length_map] at hi
    obtain ⟨rw_, hrw⟩ : ∃ r, rows[i]? = some r := ⟨_, List.getElem?_eq_getElem hi⟩
    have hty : tyAt (rows.map (yRow K)) i = yRow K rw_ := tyAt_of (by rw [List.getElem?_map, hrw]; rfl)
    rw [hty] at hx
    have mem := List.mem_of_getElem? hrw
    have ro := so.ok _ mem
    have hi100 : i < 100 := by have := so.len; omega
    have eok := first_ok ro hi100
    generalize he0 : (⟨noughtless rw_, dot rw_ xs, [((i : Int), 1)]⟩ : Eqn) = e0 at eok
    have hl9 : hs.length ≤ 9 := Nat.le_trans hok.len so.ul
    have hright : (rows.map fun r => yF K (dot r xs))[i]? = some (yF K (dot rw_ xs)) := by rw [List.getElem?_map, hrw]; rfl
    refine g_tup2 hx g2.in_ fun vn vr hvn hvr => ?_
    obtain rfl : vn = .int (i : Int) := hvn
    have w3 := w2.m g2
    have h22 := (yL _).m (gg.trans g2).bs h2
    have hone : (yDI [((i : Int), yF K 1)]) = yMix K [((i : Int), 1)] := rfl
    refine sq_set (T := yE CE K e0) g2.in_ (by
      rw [← he0]
      have hmk := RinitE.mk (K := K) ⟨noughtless rw_, dot rw_ xs, [((i : Int), 1)]⟩
      walk_at "gv"
      case qe => exact hright
      case r => exact .mk _ ro.nd (by have := so.rl _ mem; omega)
      case r => exact hmk) fun ve B3 H3 g3 hve => ?_
    have w4 := w3.m g3
    have gg3 := (gg.trans g2).trans g3
    -- the heads are lent while they are walked
    obtain ⟨ol, hol, hol2, hol3, hol4, hol5⟩ := w4.lend g3.in_
    have hlen : (hs.map (yHd CE K)).length = hs.length := List.length_map _
    refine sq_for hol4 (gi_list (gv_var (i := 2) rfl hol5 (Same.refl _)) isLs_o) (fun j σ B4 H4 => ∃ ve n6 n7, σ = [some v1, some v2, some (.ref d), some (.int (i : Int)), some vr, some ve, n6, n7] ∧ (yE CE K (red (hs.take j) e0)).p ve B4 ∧ Gr (upd B3 d ol) H3 B4 H4)
      (fun B4 H4 g4 => ⟨_, _, _, rfl, (yE CE K e0).m (hol3.trans g4.bs) hve, g4⟩) (fun Bs2 j x2 σ2 B4 H4 B5 H5 hj s4 s5 s6 hP2 g5 hx2 => ?_) (fun σ2 B4 H4 s4 s5 hP2 => ?_)
    · obtain ⟨ve, n6, n7, rfl, hve, gg4⟩ := hP2
      rw [hlen] at hj
      obtain ⟨hd_, hhd⟩ : ∃ r, hs[j]? = some r := ⟨_, List.getElem?_eq_getElem hj⟩
      have hty2 : tyAt (hs.map (yHd CE K)) j = yHd CE K hd_ := tyAt_of (by rw [List.getElem?_map, hhd]; rfl)
      rw [hty2] at hx2
      have memh := List.mem_of_getElem? hhd
      have oh := hok.ok _ _ hhd
      have piv := hok.piv memh
      obtain ⟨r1, r2, r3⟩ := red_ok hok eok j (by omega)
      have hj9 : j ≤ 9 := by omega
      refine g_tup2 hx2 g5.in_ fun vn vd hvn hvd => ?_
      have hve5 := (yE CE K _).m g5.bs hve
      have est : red (hs.take (j + 1)) e0 = stepE (red (hs.take j) e0) hd_ := red_take hhd
      generalize red (hs.take j) e0 = ec at est hve5 r1 r2 r3 hve
      have lk : look (mR K ec.row) hd_.1 = if val ec.row hd_.1 = 0 then none else some (yF K (val ec.row hd_.1)) := by
        rw [mR_look, r1.ro.look]
        split <;> rfl
      refine st_if g5.in_ (b := !decide (val ec.row hd_.1 = 0)) (GvT.cast (b := (look (mR K ec.row) hd_.1).isSome) (by walk_at "gv") (by rw [lk]; split <;> simp_all)) (fun hb B6 H6 g6 => ?_) (fun hb B6 H6 g6 => ?_)
      · have hb : val ec.row hd_.1 ≠ 0 := by simpa using hb
        have lk2 : look (mR K ec.row) hd_.1 = some (yF K (val ec.row hd_.1)) := by rw [lk, if_neg hb]
        have lk3 : look (mR K hd_.2.row) hd_.1 = some (yF K (val hd_.2.row hd_.1)) := mR_get (by rw [oh.ro.look, if_neg piv])
        have fsz := less_sz hj9 r1 oh piv
        have c0 := sz_sub0 fsz
        refine ht_set (T := yE CE K (lessE ec hd_.2 (val ec.row hd_.1 / val hd_.2.row hd_.1))) (Gv.h (by
          walk_at "gv"
          case r => exact .mk _ _ ((r1.vsz hj9 _).mono (by decide)) ((oh.vsz hj9 _).mono (by decide)) piv
          case r =>
            refine .mk _ _ _ ⟨r1.ro, oh.ro, c0.mono (by decide), fun p hp => (oh.szr hj9 p hp).mono (by decide), fun p hp => (sz_mul c0 (oh.szr hj9 p hp)).mono (by decide), fun p hp => (r1.szr hj9 p hp).mono (by decide), ?_⟩ ⟨r1.mo, oh.mo, c0.mono (by decide), fun p hp => (oh.szm hj9 p hp).mono (by decide), fun p hp => (sz_mul c0 (oh.szm hj9 p hp)).mono (by decide), fun p hp => (r1.szm hj9 p hp).mono (by decide), ?_⟩
              (so.hash _ r1.ro.1 fun k hk => by
                obtain ⟨p, hp, rfl⟩ := List.mem_map.mp hk
                exact r1.rk p hp) (fsz.mono (by decide)) ((r1.rsz hj9).mono (by decide)) ((oh.rsz hj9).mono (by decide)) ((sz_mul c0 (oh.rsz hj9)).mono (by decide))
            · have := r1.rlen; have := oh.rlen; have := so.ul; omega
            · have := r1.mlen; have := oh.mlen; omega) g6.in_) fun v B7 H7 g7 hv => ?_
        refine ⟨B7, s5.trans ((g5.bs.trans g6.bs).trans g7.bs), g7.in_, _, _, _, rfl, ?_, ((gg4.trans g5).trans g6).trans g7⟩
        rw [est]
        unfold stepE
        rw [if_neg hb]
        exact hv
      · have hb : val ec.row hd_.1 = 0 := by simpa using hb
        refine ⟨B6, s5.trans (g5.bs.trans g6.bs), g6.in_, _, _, _, rfl, ?_, (gg4.trans g5).trans g6⟩
        rw [est]
        unfold stepE
        rw [if_pos hb]
        exact (yE CE K _).m g6.bs hve5
    · obtain ⟨ve, n6, n7, rfl, hve, gg4⟩ := hP2
      rw [hlen, List.take_length] at hve
      have gd := gg4.del w4.nb
      have hved := rm_eqn _ _ hol2 _ _ _ (gg4.bs _ _ upd_same) hve
      have w5 := w4.m gd
      obtain ⟨r1, r2, r3⟩ := red_ok hok eok hs.length (Nat.le_refl _)
      rw [List.take_length] at r1 r2 r3
      have s34 : Same Bs (del B4 d) := s2.trans ((g2.bs.trans g3.bs).trans gd.bs)
      have hdot : ∀ x, dot e0.row x = dot rw_ x := fun x => by rw [← he0]; exact dot_noughtless
      have htake : rows.take (i + 1) = rows.take i ++ [rw_] := by rw [List.take_add_one, hrw]; rfl
      have gf := gg3.trans gd
      have erl := r1.rlen
      have lrow : (mR K (red hs e0).row).length = (red hs e0).row.length := mR_len
      refine st_if gd.in_ (b := decide ((0 : Int) < ((red hs e0).row.length : Int))) (GvT.cast (b := decide ((0 : Int) < ((mR K (red hs e0).row).length : Int))) (by walk_at "gv") (by rw [lrow])) (fun hb B5 H5 g5 => ?_) (fun hb B5 H5 g5 => ?_)
      · have hb := of_decide_eq_true hb
        have hve5 := (yE CE K _).m g5.bs hved
        have hne : mR K (red hs e0).row ≠ [] := fun z => by
          rw [z] at lrow
          simp at lrow
          omega
        have htu : Gv _ _ B5 (yEx (fun k : Nm => k ∈ (red hs e0).row.map (·.1)) (fun k => yHd CE K (k, red hs e0))) := Gv.imp (A := yT [yKy (mR K (red hs e0).row), yE CE K (red hs e0)]) (gv_tup2 (gv_minD (gv_fld (f := "row") (ns := nsE) (K := K) (gv_var (i := 5) (σ := [some v1, some v2, some (.ref d), some (.int (i : Int)), some vr, some ve, n6, n7]) rfl hve5 (Same.refl _)) cE (by decide) rfl) hne) (gv_var (i := 5) (σ := [some v1, some v2, some (.ref d), some (.int (i : Int)), some vr, some ve, n6, n7]) rfl hve5 (Same.refl _))) fun v B6 _ hv => by
          obtain ⟨a, vs, rfl, ha, k⟩ := hv
          obtain ⟨x, y, rfl, ⟨p, hp, hx⟩, hy⟩ := all2 k
          obtain ⟨p0, hp0, rfl⟩ := List.mem_map.mp hp
          exact ⟨p0.1, List.mem_map.mpr ⟨p0, hp0, rfl⟩, a, _, rfl, ha, hx, hy, trivial⟩
        refine ht_app (is_var rfl) (w5.m g5) g5.in_ (by rw [hlen]; omega) (Gv.h htu g5.in_) fun B6 H6 o6 g6 w6 => ?_
        obtain ⟨k, hk, w7⟩ := ow_ex w6
        obtain ⟨a1, a2⟩ := add_ok hok kern eok hdot hk
        refine ⟨B6, s34.trans (g5.bs.trans g6.bs), ((w5.m g5).m g6).same g6.in_, hs ++ [(k, red hs e0)], _, _, _, _, _, rfl, a1, ?_, ?_, ((gf.trans g5).trans g6).put ((w5.m g5).m g6) hd⟩
        · rw [htake]; exact a2
        · rw [List.map_append]; exact w7
      · have hb : (red hs e0).row = [] := by
          have hb := of_decide_eq_false hb
          exact List.eq_nil_of_length_eq_zero (by omega)
        obtain ⟨a1, a2⟩ := none_ok hok kern eok hdot hb
        have hve5 := (yE CE K _).m g5.bs hved
        refine st_if0 g5.in_ (GvT.cast (b := !decide ((red hs e0).right = 0)) (by walk_at "gv") (by rw [a1]; rfl)) fun B6 H6 g6 => ?_
        refine ⟨B6, s34.trans (g5.bs.trans g6.bs), g6.in_, hs, _, _, _, _, _, rfl, hok, ?_, (w5.m g5).m g6, (gf.trans g5).trans g6⟩
        rw [htake]; exact a2
  · obtain ⟨hs, n3, n4, n5, n6, n7, rfl, hok, kern, w2, gg⟩ := hP
    rw [List.length_map, List.take_length] at kern
    have all : ∀ k ∈ U, k ∈ hs.map (·.1) := by
      rw [← rowsOf_names]
      refine all_heads hok.ech (fun h hh => ?_) fun x hx => so.ker x (kern x fun h hh => hx (h.1, h.2.row) (List.mem_map.mpr ⟨h, hh, rfl⟩))
      obtain ⟨g, hg, rfl⟩ := List.mem_map.mp hh
      obtain ⟨j, hj⟩ := List.getElem?_of_mem hg
      exact (hok.ok j g hj).ro.1
    obtain ⟨B3, g3, s3, h3⟩ := w2.pub gg hd
    have h3 := oL_ty h3
    have vk := values_ok so.ul so.tw hok all
    have hv : Gv _ _ B3 (yT [yX (.str "one"), yRow K (valuesOf hs)]) := (by
      refine gv_tup2 gv_c (gv_cl (ga_1 (gv_var (i := 2) (σ := [some v1, some v2, some (.ref d), n3, n4, n5, n6, n7]) rfl h3 (Same.refl _))) (gives_G (R := Rvals CE K) ?_))
      exact .mk hs (fun pre h r e => (vk (h :: r) pre e).2.2 h r rfl) (Nat.le_trans hok.len so.ul))
    refine st_ret g3.in_ hv fun v B4 H4 g4 hv4 => q v B4 H4 (g3.trans g4) ?_
    obtain ⟨a, vs, rfl, ha, k⟩ := hv4
    obtain ⟨x, y, rfl, hx, hy⟩ := all2 k
    obtain ⟨k1, k2, k3⟩ := vk hs [] rfl
    refine ⟨a, _, rfl, ha, hx, ⟨valuesOf hs, ⟨?_, fun k hk => k2 k (all k hk)⟩, hy⟩, trivial⟩
    rw [k1]
    exact (List.reverse_perm _).nodup_iff.mpr hok.nodup
end
end LD
set_option maxRecDepth 100000
set_option maxHeartbeats 400000
/-! LdSmall: small checks -/

namespace LD
open PySem PyProof.Rows L2
abbrev s_is_number : Stmt := topS 17
theorem sc_is_number : FnScope ["thing"] ["thing"] (defScope s_is_number) :=
  ⟨rfl, rfl, rfl, by decide +kernel, rfl, by decide +kernel, by decide +kernel⟩
abbrev s_is_fraction : Stmt := topS 16
theorem sc_is_fraction : FnScope ["thing", "part"] ["thing"] (defScope s_is_fraction) :=
  ⟨rfl, rfl, rfl, by decide +kernel, rfl, by decide +kernel, by decide +kernel⟩
abbrev s_common_bottom : Stmt := topS 15
theorem sc_common_bottom : FnScope ["fractions", "found", "fraction"] ["fractions"] (defScope s_common_bottom) :=
  ⟨rfl, rfl, rfl, by decide +kernel, rfl, by decide +kernel, by decide +kernel⟩
abbrev s_is_within : Stmt := topS 21
theorem sc_is_within : FnScope ["thing", "least", "most"] ["thing", "least", "most"] (defScope s_is_within) :=
  ⟨rfl, rfl, rfl, by decide +kernel, rfl, by decide +kernel, by decide +kernel⟩
abbrev s_is_pair : Stmt := topS 22
theorem sc_is_pair : FnScope ["thing"] ["thing"] (defScope s_is_pair) :=
  ⟨rfl, rfl, rfl, by decide +kernel, rfl, by decide +kernel, by decide +kernel⟩
abbrev s_is_triple : Stmt := topS 23
theorem sc_is_triple : FnScope ["thing"] ["thing"] (defScope s_is_triple) :=
  ⟨rfl, rfl, rfl, by decide +kernel, rfl, by decide +kernel, by decide +kernel⟩
abbrev s_is_rising : Stmt := topS 24
theorem sc_is_rising : FnScope ["items", "at"] ["items"] (defScope s_is_rising) :=
  ⟨rfl, rfl, rfl, by decide +kernel, rfl, by decide +kernel, by decide +kernel⟩
inductive Rnumber : List Ty → Ty → Prop
  | mk (i : Int) : Rnumber [yI i] (yB true)
inductive Rfraction : List Ty → Ty → Prop
  | mk (r : Rat) : Rfraction [yFs r] (yB true)
/-- a common denominator of twelfths -/
def botOf (rs : List Rat) : Nat := rs.foldl (fun n r => Nat.lcm n r.den) 1
inductive Rbottom (K : PySem.W.Frag) : List Ty → Ty → Prop
  | mk (rs : List Rat) (h : ∀ r ∈ rs, r.den ∣ 12) (hl : rs.length ≤ 100) : Rbottom K [yL (rs.map (yF K))] (yI (botOf rs : Int))
inductive Rwithin : List Ty → Ty → Prop
  | mk (i a b : Int) : Rwithin [yI i, yI a, yI b] (yB (decide (a ≤ i) && decide (i ≤ b)))
inductive Rpair : List Ty → Ty → Prop
  | mk (a b : Ty) : Rpair [yT [a, b]] (yB true)
inductive Rtriple : List Ty → Ty → Prop
  | mk (a b c : Ty) : Rtriple [yT [a, b, c]] (yB true)
inductive Rrising : List Ty → Ty → Prop
  | mk (ps : List (List Int)) (hl : ps.length ≤ 100) (h : ∀ i a b, ps[i]? = some a → ps[i + 1]? = some b → HT.lexLt a b = true) : Rrising [yT (ps.map yIs)] (yB true)
section
variable {P : Program} {w : World} {K : PySem.W.Frag} {mg : Str → Option Value} {base : Heap}
theorem ok_number (D : Def K mg "is_number" s_is_number ["thing"]) (bl : Blt mg) : Cal P w K mg base "is_number" 1 ["thing"] (spG Rnumber) := by
  have sc := sc_is_number
  refine D.ok sc (fun Ts T r => by cases r; rfl) (fun f cdv A outer s H vs E B Ts T r sb a hr => ?_)
  refine ⟨_, (pss_one (ps_ret (pe_and (pb_isi bl.isinstance_ (pa_cons (pv 0) (pa_cons (pe_bltn (v := .ty "int") (by rfl) bl.int_ (by decide +kernel) rfl) pa_nil))) (pe_one (pe_not (pb_isi bl.isinstance_ (pa_cons (pv 0) (pa_cons (pe_bltn (v := .ty "bool") (by rfl) bl.bool_ (by decide +kernel) rfl) pa_nil)))))))), fun Q q => ?_⟩
  cases r with
  | mk i =>
  obtain ⟨v, rfl, rfl⟩ := all1 a
  exact st_ret (T := yB (true && !false)) sb (by walk_at "gv") q
theorem ok_fraction (D : Def K mg "is_fraction" s_is_fraction ["thing"]) (bl : Blt mg) (c_is_number : Cal P w K mg base "is_number" 1 ["thing"] (spG Rnumber)) (c_common : Cal P w K mg base "common" 1 ["one", "other"] (spG Rcommon)) : Cal P w K mg base "is_fraction" 2 ["thing"] (spG Rfraction) := by
  have sc := sc_is_fraction
  refine D.ok sc (fun Ts T r => by cases r; rfl) (fun f cdv A outer s H vs E B Ts T r sb a hr => ?_)
  refine ⟨_, (pss_cons (ps_if (PW.pt (pw_or (pt_not (pt_val (pb_isi bl.isinstance_ (pa_cons (pv 0) (pa_cons (pe_bltn (v := .ty "tuple") (by rfl) bl.tuple_ (by decide +kernel) rfl) pa_nil))))) (pw_or (pt_cmpR op_ne (pb_len bl.len_ (pa_cons (pv 0) pa_nil)) pe_int (nomark _)) (pw_or1 (pt_not (pt_val (pb_all bl.all_ (pa_cons (pe_lc (own := [("part", 1)]) (g := (gName 1)) (tt := _) (by rfl) sc.nd (pi_tup (pv 0)) (blkOk_by (by kernel_rfl)) (fun _ _ _ _ _ => (pg_name (i := 1) sc.nd rfl (.inl rfl))) (fun _ _ _ _ _ => pts_nil) (fun _ _ _ _ _ => (pe_cl c_is_number (hr.mono (by decide)) (pa_cons (pv 1) pa_nil)))) pa_nil))))))))
  (pss_one (ps_ret pe_bl))
  pss_nil)
(pss_one (ps_ret (pe_and (pe_cmpR op_ge (pe_ix (ix_tupK K rfl) (pv 0) pe_int (fun _ _ => rfl)) pe_int (nomark _)) (pe_one (pe_cmpR op_eq (pe_cl c_common (hr.mono (by decide)) (pa_cons (pe_ix (ix_tupK K rfl) (pv 0) pe_int (fun _ _ => rfl)) (pa_cons (pe_ix (ix_tupK K rfl) (pv 0) pe_int (fun _ _ => rfl)) pa_nil))) pe_int (nomark _))))))), fun Q q => ?_⟩
  cases r with
  | mk r =>
  obtain ⟨v, rfl, hv⟩ := all1 a
  refine sq_if0 sb (GvT.cast (b := !true || (!decide (V.int (([yI r.num, yI r.den].length : Nat) : Int) = V.int 2) || !([true, true].all id))) ?_ (by simp)) (fun B1 H1 g1 => ?_)
  · walk_at "gv"
    refine Gv.cast (A := yL (((List.range 2).filter fun _ => true).map fun _ => yB true)) (gv_lc (gi_tup (ts := [yI r.num, yI r.den]) (gv_var (i := 0) rfl hv (Same.refl _)) isTu_t) _ _ (by simp) fun i x B2 H2 hi s1 s2 hx R q => ?_) rfl
    obtain ⟨n, rfl⟩ : ∃ n : Int, x = .int n := by
      match i, hi with
      | 0, _ => exact ⟨_, hx⟩
      | 1, _ => exact ⟨_, hx⟩
    clear hx
    exact q _ rfl gt_yes fun _ => (by walk_at "gv"; exact .mk n)
  · have e : ((Int.gcd r.num r.den : Nat) : Int) = 1 := by
      have := r.reduced
      unfold Nat.Coprime at this
      show ((Nat.gcd r.num.natAbs ((r.den : Int)).natAbs : Nat) : Int) = 1
      rw [Int.natAbs_natCast, this]
      rfl
    have e1 : (1 : Int) ≤ r.den := by have := r.den_nz; omega
    have hgg : Rcommon [yI r.num, yI r.den] (yI ((Int.gcd r.num r.den : Nat) : Int)) := .mk _ _
    rw [e] at hgg
    refine st_ret (T := yB (decide ((r.den : Int) ≥ 1) && decide (V.int 1 = V.int 1))) g1.in_ (gv_andB ?_ fun _ => ?_) ?_
    · walk_at "gv"
    · walk_at "gv"
      exact hgg
    · rw [decide_eq_true e1]
      exact q.go g1
theorem ok_within (D : Def K mg "is_within" s_is_within ["thing", "least", "most"]) (c_is_number : Cal P w K mg base "is_number" 1 ["thing"] (spG Rnumber)) : Cal P w K mg base "is_within" 2 ["thing", "least", "most"] (spG Rwithin) := by
  have sc := sc_is_within
  refine D.ok sc (fun Ts T r => by cases r; rfl) (fun f cdv A outer s H vs E B Ts T r sb a hr => ?_)
  refine ⟨_, (pss_one (ps_ret (pe_and (pe_cl c_is_number (hr.mono (by decide)) (pa_cons (pv 0) pa_nil)) (pe_one (pe_chain op_le op_le (pv 1) (pv 0) (pv 2)))))), fun Q q => ?_⟩
  cases r with
  | mk i x y =>
  obtain ⟨v1, v2, v3, rfl, rfl, rfl, rfl⟩ := all3 a
  refine st_ret (T := yB (true && (decide (x ≤ i) && decide (i ≤ y)))) sb (by walk_at "gv"; exact .mk i) q
theorem ok_pair (D : Def K mg "is_pair" s_is_pair ["thing"]) (bl : Blt mg) : Cal P w K mg base "is_pair" 1 ["thing"] (spG Rpair) := by
  have sc := sc_is_pair
  refine D.ok sc (fun Ts T r => by cases r; rfl) (fun f cdv A outer s H vs E B Ts T r sb a hr => ?_)
  refine ⟨_, (pss_one (ps_ret (pe_and (pb_isi bl.isinstance_ (pa_cons (pv 0) (pa_cons (pe_bltn (v := .ty "tuple") (by rfl) bl.tuple_ (by decide +kernel) rfl) pa_nil))) (pe_one (pe_cmpR op_eq (pb_len bl.len_ (pa_cons (pv 0) pa_nil)) pe_int (nomark _)))))), fun Q q => ?_⟩
  cases r with
  | mk x y =>
  obtain ⟨v1, rfl, h1⟩ := all1 a
  refine st_ret (T := yB (true && decide (V.int (([x, y].length : Nat) : Int) = V.int 2))) sb (by walk_at "gv") q
theorem ok_triple (D : Def K mg "is_triple" s_is_triple ["thing"]) (bl : Blt mg) : Cal P w K mg base "is_triple" 1 ["thing"] (spG Rtriple) := by
  have sc := sc_is_triple
  refine D.ok sc (fun Ts T r => by cases r; rfl) (fun f cdv A outer s H vs E B Ts T r sb a hr => ?_)
  refine ⟨_, (pss_one (ps_ret (pe_and (pb_isi bl.isinstance_ (pa_cons (pv 0) (pa_cons (pe_bltn (v := .ty "tuple") (by rfl) bl.tuple_ (by decide +kernel) rfl) pa_nil))) (pe_one (pe_cmpR op_eq (pb_len bl.len_ (pa_cons (pv 0) pa_nil)) pe_int (nomark _)))))), fun Q q => ?_⟩
  cases r with
  | mk x y z =>
  obtain ⟨v1, rfl, h1⟩ := all1 a
  refine st_ret (T := yB (true && decide (V.int (([x, y, z].length : Nat) : Int) = V.int 3))) sb (by walk_at "gv") q
end
end LD
set_option maxRecDepth 100000
set_option maxHeartbeats 400000
/-! LdSmall2: is_rising, common_bottom -/

namespace LD
open PySem PyProof.Rows L2
section
variable {P : Program} {w : World} {K : PySem.W.Frag} {mg : Str → Option Value} {base : Heap}
theorem ok_rising (D : Def K mg "is_rising" s_is_rising ["items"]) (bl : Blt mg) : Cal P w K mg base "is_rising" 1 ["items"] (spG Rrising) := by
  have sc := sc_is_rising
  refine D.ok sc (fun Ts T r => by cases r; rfl) (fun f cdv A outer s H vs E B Ts T r sb a hr => ?_)
  refine ⟨_, (pss_one (ps_ret (pb_all bl.all_ (pa_cons (pe_lc (own := [("at", 1)]) (g := (gName 1)) (tt := _) (by rfl) sc.nd (pi_range2 (by rfl) bl.range_ (pa_cons pe_int (pa_cons (pb_len bl.len_ (pa_cons (pv 0) pa_nil)) pa_nil))) (blkOk_by (by kernel_rfl)) (fun _ _ _ _ _ => (pg_name (i := 1) sc.nd rfl (.inl rfl))) (fun _ _ _ _ _ => pts_nil) (fun _ _ _ _ _ => (pe_cmpR (op_ltTK K rfl (hr0 hr)) (pe_ix (ix_tupK K rfl) (pv 0) (pe_op op_sub (pv 1) pe_int) (fun _ _ => rfl)) (pe_ix (ix_tupK K rfl) (pv 0) (pv 1) (fun _ _ => rfl)) (nomark _)))) pa_nil)))), fun Q q => ?_⟩
  cases r with
  | mk ps hl h =>
  obtain ⟨v1, rfl, h1⟩ := all1 a
  have hn : ((((ps.map yIs).length : Nat) : Int) - 1).toNat ≤ 100000 := by rw [List.length_map]; omega
  generalize hm : ((((ps.map yIs).length : Nat) : Int) - 1).toNat = m at hn
  refine st_ret (T := yB ((((List.range m).filter fun _ => true).map fun _ => true).all id)) sb (gv_all ?_) fun v B' H' g hv => q v B' H' g ?_
  · have hi : GvI (iRng2 (tCons (tC (.int 1)) (tCons (tCB (rLenSeq K) (tCons (tVar 0) tNil)) tNil))) [some v1, none] B ((((ps.map yIs).length : Nat) : Int) - 1).toNat (fun i => yI (1 + (i : Int))) := gi_rng2 gv_c (gv_lenT (gv_var (i := 0) rfl h1 (Same.refl _)) isTu_t) (by rw [List.length_map]; omega)
    rw [hm] at hi
    refine Gv.cast (gv_lc (E := fun _ => yB true) (f := fun _ => true) hi hn fun i x B2 H2 hi s1 s2 hx R q => ?_) (by rw [List.map_map]; rfl)
    rw [List.length_map] at hm
    obtain rfl : x = .int (1 + (i : Int)) := hx
    have e0 : ps[i]? = some ps[i] := List.getElem?_eq_getElem (by omega)
    have e1 : ps[i + 1]? = some ps[i + 1] := List.getElem?_eq_getElem (by omega)
    refine q _ rfl gt_yes fun _ => Gv.cast (A := yB (HT.lexLt ps[i] ps[i + 1])) (gv_ltT ?_ ?_) (by rw [h i _ _ e0 e1])
    · refine gv_ixT (j := i) (i := 1 + (i : Int) - 1) (gv_var (i := 0) rfl h1 (by walk_at "sm")) (by walk_at "gv") isTu_t (by omega) (by rw [List.getElem?_map, e0]; rfl)
    · refine gv_ixT (j := i + 1) (i := 1 + (i : Int)) (gv_var (i := 0) rfl h1 (by walk_at "sm")) (by walk_at "gv") isTu_t (by omega) (by rw [List.getElem?_map, e1]; rfl)
  · obtain rfl := hv
    have e : ∀ l : List Nat, (l.map fun _ => true).all id = true := fun l => by simp
    rw [e]
    rfl
theorem ok_bottom (D : Def K mg "common_bottom" s_common_bottom ["fractions"]) (bl : Blt mg) (c_common : Cal P w K mg base "common" 1 ["one", "other"] (spG Rcommon)) : Cal P w K mg base "common_bottom" 2 ["fractions"] (spG (Rbottom K)) := by
  have sc := sc_common_bottom
  refine D.ok sc (fun Ts T r => by cases r; rfl) (fun f cdv A outer s H vs E B Ts T r sb a hr => ?_)
  refine ⟨_, (pss_cons (ps_set (i := 1) sc.nd rfl (.inl rfl) pe_int)
(pss_cons (ps_for PassesOwn.never rfl (pi_list (pv 0)) (pg_name (i := 2) sc.nd rfl (.inl rfl))
  (pss_one (ps_set (i := 1) sc.nd rfl (.inl rfl) (pe_op op_fdivZ (pe_op op_mulW (pv 1) (pe_ix (ix_tupK K rfl) (pv 2) pe_int (fun _ _ => rfl))) (pe_cl c_common (hr.mono (by decide)) (pa_cons (pv 1) (pa_cons (pe_ix (ix_tupK K rfl) (pv 2) pe_int (fun _ _ => rfl)) pa_nil)))))))
(pss_one (ps_ret (pv 1))))), fun Q q => ?_⟩
  cases r with
  | mk rs h hl =>
  obtain ⟨v1, rfl, h1⟩ := all1 a
  refine sq_set (T := yI 1) sb (by walk_at "gv") fun v B1 H1 g1 hv => ?_
  obtain rfl : v = .int 1 := hv
  refine sq_for g1.in_ (gi_list (gv_var (i := 0) rfl h1 g1.bs) isLs_l) (fun i σ B2 H2 => ∃ (n : Nat) (n2 : Option V), σ = [some v1, some (.int (n : Int)), n2] ∧ 0 < n ∧ n ∣ 12 ∧ n = botOf (rs.take i) ∧ Gr B H B2 H2)
    (fun B2 H2 g2 => ⟨1, _, rfl, by decide, by decide, rfl, g1.trans g2⟩) (fun Bs i x σ B1 H1 B2 H2 hi s1 s2 s3 hP g2 hx => ?_) (fun σ B2 H2 s1 s2 hP => ?_)
  · obtain ⟨n, n2, rfl, hn, hd, hp, gg⟩ := hP
    rw [List.length_map] at hi
    obtain ⟨r, hr⟩ : ∃ r, rs[i]? = some r := ⟨_, List.getElem?_eq_getElem hi⟩
    have hty : tyAt (rs.map (yF K)) i = yF K r := tyAt_of (by rw [List.getElem?_map, hr]; rfl)
    rw [hty] at hx
    have hr12 := h r (List.mem_of_getElem? hr)
    have dn : 0 < r.den := r.den_pos
    have gpos : 0 < Nat.gcd n r.den := Nat.gcd_pos_of_pos_left _ hn
    have e : (((n : Int) * r.den).fdiv ((Int.gcd n r.den : Nat) : Int)) = ((Nat.lcm n r.den : Nat) : Int) := by
      show (((n : Int) * r.den).fdiv ((Nat.gcd ((n : Int)).natAbs ((r.den : Int)).natAbs : Nat) : Int)) = _
      rw [Int.natAbs_natCast, Int.natAbs_natCast, Int.fdiv_eq_ediv_of_nonneg _ (by omega)]
      unfold Nat.lcm
      rw [Int.natCast_ediv, Int.natCast_mul]
    refine st_set (T := yI ((Nat.lcm n r.den : Nat) : Int)) g2.in_ (by
      rw [← e]
      show Gv _ _ _ (yX (V.int _))
      walk_at "gv"
      · have n12 : n ≤ 12 := Nat.le_of_dvd (by decide) hd
        have d12 : r.den ≤ 12 := Nat.le_of_dvd (by decide) hr12
        exact wide_mul (a := 4) (b := 4) (by rw [Int.natAbs_natCast]; omega) (by rw [Int.natAbs_natCast]; omega) (by decide) (by decide) (by decide)
      · exact .mk _ _
      · have n12 : Nat.gcd n r.den ≤ 12 := Nat.le_trans (Nat.le_of_dvd hn (Nat.gcd_dvd_left _ _)) (Nat.le_of_dvd (by decide) hd)
        refine divZ (b := 4) ?_ ?_ (by decide) (by decide)
        · show ((Nat.gcd n r.den : Nat) : Int) ≠ 0
          omega
        · show ((Nat.gcd n r.den : Nat) : Int).natAbs < 2 ^ 4
          rw [Int.natAbs_natCast]
          omega) fun v B3 H3 g3 hv => ?_
    obtain rfl : v = _ := hv
    refine ⟨B3, s2.trans (g2.bs.trans g3.bs), g3.in_, Nat.lcm n r.den, _, rfl, Nat.lcm_pos hn dn, Nat.lcm_dvd hd hr12, ?_, (gg.trans g2).trans g3⟩
    rw [List.take_add_one, hr, hp]
    unfold botOf
    rw [Option.toList_some, List.foldl_append]
    rfl
  · obtain ⟨n, n2, rfl, hn, hd, hp, gg⟩ := hP
    rw [List.length_map, List.take_length] at hp
    refine st_ret (T := yI (n : Int)) s2 (by walk_at "gv") fun v B' H' g hv => q v B' H' (gg.trans g) (by rw [← hp]; exact hv)
end
end LD
set_option maxRecDepth 100000
set_option maxHeartbeats 400000
/-! LdWeb: webs as types; all_steps, door_at, next_at -/

namespace LD
open PySem PyProof.Rows L2
abbrev s_door_at : Stmt := topS 48
theorem sc_door_at : FnScope ["web", "step"] ["web", "step"] (defScope s_door_at) :=
  ⟨rfl, rfl, rfl, by decide +kernel, rfl, by decide +kernel, by decide +kernel⟩
abbrev s_next_at : Stmt := topS 49
theorem sc_next_at : FnScope ["web", "step"] ["web", "step"] (defScope s_next_at) :=
  ⟨rfl, rfl, rfl, by decide +kernel, rfl, by decide +kernel, by decide +kernel⟩
/-- dealers: houses, standings, pairs of a door and a next standing -/
abbrev Dl := List (List (List (Int × Int)))
abbrev yPr (p : Int × Int) : Ty := yT [yI p.1, yI p.2]
abbrev ySt (ps : List (Int × Int)) : Ty := yT (ps.map yPr)
abbrev yHs (d : List (List (Int × Int))) : Ty := yT (d.map ySt)
abbrev yDl (D : Dl) : Ty := yT (D.map yHs)
abbrev fW (c : Int) (D : Dl) : Fs := [("cups", yI c), ("dealers", yDl D)]
abbrev yW (CW : Addr) (c : Int) (D : Dl) : Ty := yO CW (fW c D)
abbrev nsW : List Str := ["cups", "dealers"]
/-- a step of dealers, and its pair -/
def pairAt (D : Dl) (h s n : Nat) : Option (Int × Int) := (D[h]?).bind fun d => (d[s]?).bind fun ps => ps[n]?
abbrev stp (h s n : Nat) : List Int := [(h : Int), (s : Int), (n : Int)]
inductive Rdoor (CW : Addr) : List Ty → Ty → Prop
  | mk (c : Int) (D : Dl) (h s n : Nat) (p : Int × Int) (e : pairAt D h s n = some p) : Rdoor CW [yW CW c D, yIs (stp h s n)] (yI p.1)
inductive Rnext (CW : Addr) : List Ty → Ty → Prop
  | mk (c : Int) (D : Dl) (h s n : Nat) (p : Int × Int) (e : pairAt D h s n = some p) : Rnext CW [yW CW c D, yIs (stp h s n)] (yI p.2)
theorem pairAt_some {D : Dl} {h s n : Nat} {p : Int × Int} (e : pairAt D h s n = some p) : ∃ d ps, D[h]? = some d ∧ d[s]? = some ps ∧ ps[n]? = some p := by
  unfold pairAt at e
  cases e1 : D[h]? with
  | none => rw [e1] at e; cases e
  | some d =>
    rw [e1] at e
    cases e2 : d[s]? with
    | none => simp [e2] at e
    | some ps => exact ⟨d, ps, rfl, e2, by simpa [e2] using e⟩
section
variable {P : Program} {w : World} {K : PySem.W.Frag} {mg : Str → Option Value} {base : Heap} {CW : Addr}
theorem gv_pair {σ : L2.St} {B : Hp} {td t : TE} {D : Dl} {h s n : Nat} {p : Int × Int} (hd : Gv td σ B (yDl D)) (ht : Gv t σ B (yIs (stp h s n))) (e : pairAt D h s n = some p) :
    Gv (tOp (rIxT K) (tOp (rIxT K) (tOp (rIxT K) td (tOp (rIxT K) t (tC (.int 0)))) (tOp (rIxT K) t (tC (.int 1)))) (tOp (rIxT K) t (tC (.int 2)))) σ B (yPr p) := by
  obtain ⟨d, ps, e1, e2, e3⟩ := pairAt_some e
  have h0 : Gv (tOp (rIxT K) t (tC (.int 0))) σ B (yI (h : Int)) := gv_ixT (i := 0) (j := 0) ht gv_c isTu_t rfl rfl
  have h1 : Gv (tOp (rIxT K) t (tC (.int 1))) σ B (yI (s : Int)) := gv_ixT (i := 1) (j := 1) ht gv_c isTu_t rfl rfl
  have h2 : Gv (tOp (rIxT K) t (tC (.int 2))) σ B (yI (n : Int)) := gv_ixT (i := 2) (j := 2) ht gv_c isTu_t rfl rfl
  have k1 : Gv (tOp (rIxT K) td (tOp (rIxT K) t (tC (.int 0)))) σ B (yHs d) := gv_ixT (j := h) hd h0 isTu_t rfl (by rw [List.getElem?_map, e1]; rfl)
  have k2 := gv_ixT (K := K) (T := ySt ps) (j := s) k1 h1 isTu_t rfl (by rw [List.getElem?_map, e2]; rfl)
  exact gv_ixT (K := K) (T := yPr p) (j := n) k2 h2 isTu_t rfl (by rw [List.getElem?_map, e3]; rfl)
theorem ok_door (D : Def K mg "door_at" s_door_at ["web", "step"]) (cW : ClsF K CW nsW) : Cal P w K mg base "door_at" 1 ["web", "step"] (spG (Rdoor CW)) := by
  have sc := sc_door_at
  refine D.ok sc (fun Ts T r => by cases r; rfl) (fun f cdv A outer s H vs E B Ts T r sb a hr => ?_)
  refine ⟨_, (pss_one (ps_ret (pe_ix (ix_tupK K rfl) (pe_ix (ix_tupK K rfl) (pe_ix (ix_tupK K rfl) (pe_ix (ix_tupK K rfl) (pe_fldK K rfl (pv 0) rfl) (pe_ix (ix_tupK K rfl) (pv 1) pe_int (fun _ _ => rfl)) (fun _ _ => rfl)) (pe_ix (ix_tupK K rfl) (pv 1) pe_int (fun _ _ => rfl)) (fun _ _ => rfl)) (pe_ix (ix_tupK K rfl) (pv 1) pe_int (fun _ _ => rfl)) (fun _ _ => rfl)) pe_int (fun _ _ => rfl)))), fun Q q => ?_⟩
  cases r with
  | mk c D h s n p e =>
  obtain ⟨v1, v2, rfl, h1, h2⟩ := all2 a
  refine st_ret (T := yI p.1) sb (gv_ixT (i := 0) (j := 0) (gv_pair (D := D) (gv_fld (f := "dealers") (ns := nsW) (gv_var (i := 0) rfl h1 (Same.refl _)) cW (by decide) rfl) (gv_var (i := 1) rfl h2 (Same.refl _)) e) gv_c isTu_t rfl rfl) q
theorem ok_next (D : Def K mg "next_at" s_next_at ["web", "step"]) (cW : ClsF K CW nsW) : Cal P w K mg base "next_at" 1 ["web", "step"] (spG (Rnext CW)) := by
  have sc := sc_next_at
  refine D.ok sc (fun Ts T r => by cases r; rfl) (fun f cdv A outer s H vs E B Ts T r sb a hr => ?_)
  refine ⟨_, (pss_one (ps_ret (pe_ix (ix_tupK K rfl) (pe_ix (ix_tupK K rfl) (pe_ix (ix_tupK K rfl) (pe_ix (ix_tupK K rfl) (pe_fldK K rfl (pv 0) rfl) (pe_ix (ix_tupK K rfl) (pv 1) pe_int (fun _ _ => rfl)) (fun _ _ => rfl)) (pe_ix (ix_tupK K rfl) (pv 1) pe_int (fun _ _ => rfl)) (fun _ _ => rfl)) (pe_ix (ix_tupK K rfl) (pv 1) pe_int (fun _ _ => rfl)) (fun _ _ => rfl)) pe_int (fun _ _ => rfl)))), fun Q q => ?_⟩
  cases r with
  | mk c D h s n p e =>
  obtain ⟨v1, v2, rfl, h1, h2⟩ := all2 a
  refine st_ret (T := yI p.2) sb (gv_ixT (i := 1) (j := 1) (gv_pair (D := D) (gv_fld (f := "dealers") (ns := nsW) (gv_var (i := 0) rfl h1 (Same.refl _)) cW (by decide) rfl) (gv_var (i := 1) rfl h2 (Same.refl _)) e) gv_c isTu_t rfl rfl) q
end
end LD
set_option maxRecDepth 100000
set_option maxHeartbeats 400000
/-! LdSteps: all_steps -/

namespace LD
open PySem PyProof.Rows L2
abbrev s_all_steps : Stmt := topS 47
theorem sc_all_steps : FnScope ["web", "found", "house", "dealer", "standing", "part", "number"] ["web"] (defScope s_all_steps) :=
  ⟨rfl, rfl, rfl, by decide +kernel, rfl, by decide +kernel, by decide +kernel⟩
def stIn (h s k : Nat) : List (List Int) := (List.range k).map fun n => stp h s n
def stHouse (h : Nat) (d : List (List (Int × Int))) (j : Nat) : List (List Int) := (List.range j).flatMap fun s => stIn h s ((d[s]?).getD []).length
def stAll (D : Dl) (i : Nat) : List (List Int) := (List.range i).flatMap fun h => stHouse h ((D[h]?).getD []) ((D[h]?).getD []).length
def steps (D : Dl) : List (List Int) := stAll D D.length
theorem stHouse_succ {h j : Nat} {d : List (List (Int × Int))} {ps : List (Int × Int)} (e : d[j]? = some ps) : stHouse h d (j + 1) = stHouse h d j ++ stIn h j ps.length := by
  unfold stHouse
  rw [List.range_succ, List.flatMap_append]
  simp [e]
theorem stAll_succ {D : Dl} {i : Nat} {d : List (List (Int × Int))} (e : D[i]? = some d) : stAll D (i + 1) = stAll D i ++ stHouse i d d.length := by
  unfold stAll
  rw [List.range_succ, List.flatMap_append]
  simp [e]
structure Small (D : Dl) : Prop where
  hl : D.length ≤ 3
  dl : ∀ d ∈ D, d.length ≤ 3
  pl : ∀ d ∈ D, ∀ ps ∈ d, ps.length ≤ 3
theorem fm_len {α β : Type} {l : List α} {f : α → List β} {m : Nat} (h : ∀ a ∈ l, (f a).length ≤ m) : (l.flatMap f).length ≤ l.length * m := by
  induction l with
  | nil => simp
  | cons a l ih =>
    have h1 := h a List.mem_cons_self
    have h2 := ih fun b hb => h b (List.mem_cons_of_mem _ hb)
    rw [List.flatMap_cons, List.length_append, List.length_cons, Nat.add_mul]
    omega
theorem Small.house {D : Dl} (o : Small D) {d : List (List (Int × Int))} (hd : d ∈ D) (h j : Nat) (hj : j ≤ 3) : (stHouse h d j).length ≤ 9 := by
  have h1 := fm_len (l := List.range j) (f := fun s => stIn h s ((d[s]?).getD []).length) (m := 3) fun s hs => by
    unfold stIn
    rw [List.length_map, List.length_range]
    cases e : d[s]? with
    | none => simp
    | some ps => exact o.pl d hd ps (List.mem_of_getElem? e)
  rw [List.length_range] at h1
  unfold stHouse
  omega
theorem Small.all {D : Dl} (o : Small D) (i : Nat) (hi : i ≤ 3) : (stAll D i).length ≤ 27 := by
  have h1 := fm_len (l := List.range i) (f := fun h => stHouse h ((D[h]?).getD []) ((D[h]?).getD []).length) (m := 9) fun h hs => by
    cases e : D[h]? with
    | none => simp [stHouse]
    | some d =>
      have hd := List.mem_of_getElem? e
      exact o.house hd h d.length (o.dl d hd)
  rw [List.length_range] at h1
  unfold stAll
  omega
inductive Rsteps (CW : Addr) : List Ty → Ty → Prop
  | mk (c : Int) (D : Dl) (h : Small D) : Rsteps CW [yW CW c D] (yL ((steps D).map yIs))
section
variable {P : Program} {w : World} {K : PySem.W.Frag} {mg : Str → Option Value} {base : Heap} {CW : Addr}
theorem ok_steps (D : Def K mg "all_steps" s_all_steps ["web"]) (bl : Blt mg) (cW : ClsF K CW nsW) : Cal P w K mg base "all_steps" 1 ["web"] (spG (Rsteps CW)) := by
  have sc := sc_all_steps
  refine D.ok sc (fun Ts T r => by cases r; rfl) (fun f cdv A outer s H vs E B Ts T r sb a hr => ?_)
  refine ⟨_, (pss_cons (ps_set (i := 1) sc.nd rfl (.inl rfl) (pe_lst pa_nil))
(pss_cons (ps_for PassesOwn.never rfl (pi_enumT (by rfl) bl.enumerate_ (pa_cons (pe_fldK K rfl (pv 0) rfl) pa_nil)) (pg_tup (by rfl) (pgs_cons (pg_name (i := 2) sc.nd rfl (.inr rfl)) (pgs_cons (pg_name (i := 3) sc.nd rfl (.inl rfl)) pgs_nil)))
  (pss_one (ps_for PassesOwn.never rfl (pi_enumT (by rfl) bl.enumerate_ (pa_cons (pv 3) pa_nil)) (pg_tup (by rfl) (pgs_cons (pg_name (i := 4) sc.nd rfl (.inr rfl)) (pgs_cons (pg_name (i := 5) sc.nd rfl (.inl rfl)) pgs_nil)))
  (pss_one (ps_expr (pe_bm PySem.F.plainAttrs_list PySem.F.slot_list_extend PySem.F.type_list_extend mt_extend (pv 1) (pa_cons (pe_lc (own := [("number", 6)]) (g := (gName 6)) (tt := _) (by rfl) sc.nd (pi_range1 (by rfl) bl.range_ (pa_cons (pb_len bl.len_ (pa_cons (pv 5) pa_nil)) pa_nil)) (blkOk_by (by kernel_rfl)) (fun _ _ _ _ _ => (pg_name (i := 6) sc.nd rfl (.inl rfl))) (fun _ _ _ _ _ => pts_nil) (fun _ _ _ _ _ => (pe_tup (pa_cons (pv 2) (pa_cons (pv 4) (pa_cons (pv 6) pa_nil)))))) pa_nil)))))))
(pss_one (ps_ret (pv 1))))), fun Q q => ?_⟩
  cases r with
  | mk c D o =>
  obtain ⟨v1, rfl, h1⟩ := all1 a
  refine hq_newL sb ga_nil (by simp) fun d B1 H1 g1 nd1 hd w1 => ?_
  have hdl : GvI _ _ B1 (D.map yHs).length _ := gi_enumT (σ := [some v1, some (.ref d), none, none, none, none, none]) (K := K) (gv_fld (f := "dealers") (ns := nsW) (K := K) (gv_var (i := 0) rfl h1 g1.bs) cW (by decide) rfl) isTu_t
  refine sq_for g1.in_ hdl (fun i σ B2 H2 => ∃ n2 n3 n4 n5 n6, σ = [some v1, some (.ref d), n2, n3, n4, n5, n6] ∧ Ow d (oL ((stAll D i).map yIs)) B2 H2 ∧ Gr B H B2 H2)
    (fun B2 H2 g2 => ⟨_, _, _, _, _, rfl, w1.m g2, g1.trans g2⟩) (fun Bs i x σ B1 H1 B2 H2 hi s1 s2 s3 hP g2 hx => ?_) (fun σ B2 H2 s1 s2 hP => ?_)
  · obtain ⟨n2, n3, n4, n5, n6, rfl, w2, gg⟩ := hP
    rw [List.length_map] at hi
    obtain ⟨dl, hdl⟩ : ∃ r, D[i]? = some r := ⟨_, List.getElem?_eq_getElem hi⟩
    have hty : tyAt (D.map yHs) i = yHs dl := tyAt_of (by rw [List.getElem?_map, hdl]; rfl)
    rw [hty] at hx
    have memd := List.mem_of_getElem? hdl
    have hD3 := o.hl
    refine g_tup2 hx g2.in_ fun vh vd hvh hvd => ?_
    obtain rfl : vh = .int (i : Int) := hvh
    have hdl2 : GvI _ _ B2 (dl.map ySt).length _ := gi_enumT (σ := [some v1, some (.ref d), some (.int (i : Int)), some vd, n4, n5, n6]) (K := K) (gv_var (i := 3) rfl hvd (Same.refl _)) isTu_t
    refine st_for g2.in_ hdl2 (fun j σ B3 H3 => ∃ n4 n5 n6, σ = [some v1, some (.ref d), some (.int (i : Int)), some vd, n4, n5, n6] ∧ Ow d (oL ((stAll D i ++ stHouse i dl j).map yIs)) B3 H3 ∧ Gr B H B3 H3)
      (fun B3 H3 g3 => ⟨_, _, _, rfl, by rw [show stAll D i ++ stHouse i dl 0 = stAll D i by simp [stHouse]]; exact (w2.m g2).m g3, (gg.trans g2).trans g3⟩) (fun Bs2 j x2 σ2 B3 H3 B4 H4 hj s4 s5 s6 hP2 g4 hx2 => ?_) (fun σ2 B3 H3 s4 s5 hP2 => ?_)
    · obtain ⟨n4, n5, n6, rfl, w3, gg3⟩ := hP2
      rw [List.length_map] at hj
      obtain ⟨ps, hps⟩ : ∃ r, dl[j]? = some r := ⟨_, List.getElem?_eq_getElem hj⟩
      have hty2 : tyAt (dl.map ySt) j = ySt ps := tyAt_of (by rw [List.getElem?_map, hps]; rfl)
      rw [hty2] at hx2
      have memp := List.mem_of_getElem? hps
      have hpl := o.pl dl memd ps memp
      refine g_tup2 hx2 g4.in_ fun vs vp hvs hvp => ?_
      obtain rfl : vs = .int (j : Int) := hvs
      have hrg : GvI (iRng1 (tCons (tCB (rLenSeq K) (tCons (tVar 5) tNil)) tNil)) [some v1, some (.ref d), some (.int (i : Int)), some vd, some (.int (j : Int)), some vp, n6] B4 ((((ps.map yPr).length : Nat) : Int)).toNat (fun n => yI (n : Int)) := gi_rng1 (gv_lenT (gv_var (i := 5) rfl hvp (Same.refl _)) isTu_t) (by rw [List.length_map]; omega) (by rw [List.length_map]; omega)
      have l1 := o.all i (by omega)
      have l2 := o.house memd i j (by have := o.dl dl memd; omega)
      refine ht_ext (us := (stIn i j ps.length).map yIs) (is_var rfl) (w3.m g4) g4.in_ ?_ (Gv.h (Gv.cast (gv_lc (f := fun _ => true) (E := fun n => yIs (stp i j n)) hrg (by rw [List.length_map]; omega) fun n x3 B5 H5 hn s7 s8 hx3 R q3 => ?_) ?_) g4.in_) fun B5 H5 o5 g5 w5 => ?_
      · rw [List.length_map, List.length_map, List.length_append]
        unfold stIn
        rw [List.length_map, List.length_range]
        omega
      · obtain rfl : x3 = .int (n : Int) := hx3
        exact q3 _ rfl gt_yes fun _ => gv_tup3 (gv_v rfl) (gv_v rfl) (gv_v rfl)
      · unfold stIn
        rw [List.length_map, List.map_map]
        congr 1
        have e : (((ps.length : Nat) : Int)).toNat = ps.length := by omega
        rw [e, List.filter_eq_self.mpr fun _ _ => rfl]
        rfl
      · refine ⟨B5, s5.trans (g4.bs.trans g5.bs), ((w3.m g4).m g5).same g5.in_, _, _, _, rfl, ?_, ((gg3.trans g4).trans g5).put ((w3.m g4).m g5) hd⟩
        rw [stHouse_succ hps, ← List.append_assoc, List.map_append (l₁ := stAll D i ++ stHouse i dl j)]
        exact w5
    · obtain ⟨n4, n5, n6, rfl, w3, gg3⟩ := hP2
      rw [List.length_map] at w3
      refine ⟨B3, (s2.trans g2.bs).trans s4, s5, _, _, _, _, _, rfl, ?_, gg3⟩
      rw [stAll_succ hdl]
      exact w3
  · obtain ⟨n2, n3, n4, n5, n6, rfl, w2, gg⟩ := hP
    rw [List.length_map] at w2
    obtain ⟨B3, g3, s3, h3⟩ := w2.pub gg hd
    exact ⟨_, rfl, q _ B3 _ g3 (oL_ty h3)⟩
end
end LD
set_option maxRecDepth 100000
set_option maxHeartbeats 400000
/-! LdRowOf: price_of, worth_name, equation_of -/

namespace LD
open PySem PyProof.Rows L2
abbrev s_price_of : Stmt := topS 51
theorem sc_price_of : FnScope ["prices", "step"] ["prices", "step"] (defScope s_price_of) :=
  ⟨rfl, rfl, rfl, by decide +kernel, rfl, by decide +kernel, by decide +kernel⟩
abbrev s_worth_name : Stmt := topS 52
theorem sc_worth_name : FnScope ["door"] ["door"] (defScope s_worth_name) :=
  ⟨rfl, rfl, rfl, by decide +kernel, rfl, by decide +kernel, by decide +kernel⟩
abbrev s_equation_of : Stmt := topS 53
theorem sc_equation_of : FnScope ["web", "step", "house", "standing", "number", "door", "later", "parts", "row", "name", "many"] ["web", "step"] (defScope s_equation_of) :=
  ⟨rfl, rfl, rfl, by decide +kernel, rfl, by decide +kernel, by decide +kernel⟩
/-- prices: by steps -/
abbrev yPrices (m : Row) : Ty := yDT (m.map fun p => (p.1, yT [yI p.2.num, yI p.2.den]))
inductive Rprice (K : PySem.W.Frag) : List Ty → Ty → Prop
  | mk (m : Row) (k : Nm) : Rprice K [yPrices m, yIs k] (yF K (val m k))
inductive Rworth : List Ty → Ty → Prop
  | mk (i : Int) : Rworth [yI i] (yIs [i, -1])
section
variable {P : Program} {w : World} {K : PySem.W.Frag} {mg : Str → Option Value} {base : Heap} {CW : Addr}
theorem ok_worth (D : Def K mg "worth_name" s_worth_name ["door"]) : Cal P w K mg base "worth_name" 1 ["door"] (spG Rworth) := by
  have sc := sc_worth_name
  refine D.ok sc (fun Ts T r => by cases r; rfl) (fun f cdv A outer s H vs E B Ts T r sb a hr => ?_)
  refine ⟨_, (pss_one (ps_ret (pe_tup (pa_cons (pv 0) (pa_cons (pe_un un_neg pe_int) pa_nil))))), fun Q q => ?_⟩
  cases r with
  | mk i =>
  obtain ⟨v1, rfl, rfl⟩ := all1 a
  exact st_ret (T := yT [yI i, yI (-1)]) sb (by walk_at "gv") q
theorem ok_price (D : Def K mg "price_of" s_price_of ["prices", "step"]) (gz : Gz K mg "ZERO" 0) : Cal P w K mg base "price_of" 1 ["prices", "step"] (spG (Rprice K)) := by
  have sc := sc_price_of
  obtain ⟨vz, gZERO, hz⟩ := gz.ex
  refine D.ok sc (fun Ts T r => by cases r; rfl) (fun f cdv A outer s H vs E B Ts T r sb a hr => ?_)
  refine ⟨_, (pss_one (ps_ret (pe_dget2 (hu_of hr) (pv 0) (pv 1) (pe_gc gZERO) ⟨rfl, rfl, rfl, rfl⟩))), fun Q q => ?_⟩
  cases r with
  | mk m k =>
  obtain ⟨v1, v2, rfl, h1, h2⟩ := all2 a
  have e : ∀ m : Row, look (m.map fun p => (p.1, yT [yI p.2.num, yI p.2.den])) k = (look m k).map fun r => yT [yI r.num, yI r.den] := fun m => by
    induction m with
    | nil => rfl
    | cons p m ih =>
      rw [List.map_cons, look, look]
      split
      · rfl
      · exact ih
  cases hl : look m k with
  | none =>
    refine st_ret (T := yF K 0) sb (gv_dget2 (gv_var (i := 0) rfl h1 (Same.refl _)) (gv_var (i := 1) rfl h2 (Same.refl _)) (gv_cz hz) isDT_s (by rw [e, hl]; rfl)) fun v B' H' g hv => q v B' H' g ?_
    have : val m k = 0 := by unfold val; rw [hl]; rfl
    rw [this]; exact hv
  | some r =>
    refine st_ret (T := yT [yI r.num, yI r.den]) sb (gv_dget2 (gv_var (i := 0) rfl h1 (Same.refl _)) (gv_var (i := 1) rfl h2 (Same.refl _)) (gv_cz hz) isDT_s (by rw [e, hl]; rfl)) fun v B' H' g hv => q v B' H' g ?_
    have : val m k = r := by unfold val; rw [hl]; rfl
    rw [this]; exact yF_of hv
end
end LD
set_option maxRecDepth 100000
set_option maxHeartbeats 400000
/-! LdRowOf2: equation_of -/

namespace LD
open PySem PyProof.Rows L2
abbrev Part := Nm × Int
def partsOf (h s door later : Int) : List Part := [([h, -1], 1)] ++ (if 0 ≤ door then [([door, -1], -1)] else []) ++ (if 0 < later then [([h, later], 1)] else []) ++ (if 0 < s then [([h, s], -1)] else [])
def addPart (m : Row) (p : Part) : Row := put m p.1 (val m p.1 + (p.2 : Rat))
def rowOf (ps : List Part) : Row := ps.foldl addPart []
abbrev yPart (p : Part) : Ty := yT [yIs p.1, yI p.2]
theorem sq_asg {σ : L2.St} {B H : Hp} {T : Ty} {te : TE} {gt : TG} {D : Ends} {tz : TS} (s : Same B H) (h : Gv te σ B T) (k : ∀ v B1 H1, Gr B H B1 H1 → T.p v B1 → gt v σ H1 (tz D)) : tSeq (tAsg te gt) tz D σ H := h H s _ k
theorem val_addPart {m : Row} {p : Part} {k : Nm} : val (addPart m p) k = if p.1 = k then val m p.1 + (p.2 : Rat) else val m k := val_put
theorem rowOf_int {ps : List Part} (h : ∀ p ∈ ps, p.2.natAbs ≤ 1) : ∀ (i : Nat) (k : Nm), ∃ R : Int, R.natAbs ≤ i ∧ val (rowOf (ps.take i)) k = (R : Rat)
  | 0, k => ⟨0, by simp, rfl⟩
  | i + 1, k => by
    obtain ⟨R, h1, h2⟩ := rowOf_int h i k
    rw [List.take_add_one]
    cases e : ps[i]? with
    | none =>
      rw [Option.toList_none, List.append_nil]
      exact ⟨R, by omega, h2⟩
    | some p =>
      have hp := h p (List.mem_of_getElem? e)
      have e2 : rowOf (ps.take i ++ [p]) = addPart (rowOf (ps.take i)) p := by unfold rowOf; rw [List.foldl_append]; rfl
      rw [Option.toList_some, e2, val_addPart]
      by_cases z : p.1 = k
      · obtain ⟨S, h3, h4⟩ := rowOf_int h i p.1
        rw [if_pos z, h4]
        refine ⟨S + p.2, by omega, ?_⟩
        rw [Rat.intCast_add]
      · rw [if_neg z]
        exact ⟨R, by omega, h2⟩
theorem if_app {K : PySem.W.Frag} {σ : L2.St} {B H B0 H0 : Hp} {te : TE} {t : TT} {D : Ends} {tz : TS} {d : Addr} {ps : List Part} {x : Part} {c : Bool} {i : Nat} (hi : σ[i]? = some (some (.ref d))) (g : Gr B0 H0 B H) (n : H0 d = none) (w : Ow d (oL (ps.map yPart)) B H) (hl : ps.length < 100) (ht : GvT t σ B c) (he : Gv te σ B (yPart x))
    (k : ∀ B1 H1, Gr B0 H0 B1 H1 → Ow d (oL ((ps ++ if c then [x] else []).map yPart)) B1 H1 → tz D σ H1) : tSeq (tIfS t (tDrop (tBM K "list" rAppend (tVar i) (tCons te tNil))) tNext) tz D σ H := by
  refine sq_if g.in_ ht (fun hc B1 H1 g1 => ?_) (fun hc B1 H1 g1 => ?_)
  · subst hc
    refine ht_app (is_var hi) (w.m g1) g1.in_ (by rw [List.length_map]; omega) (Gv.h (he.m g1.bs) g1.in_) fun B2 H2 o g2 w2 => ?_
    refine k B2 _ (((g.trans g1).trans g2).put ((w.m g1).m g2) n) ?_
    rw [if_pos rfl, List.map_append]
    exact w2
  · subst hc
    refine k B1 H1 (g.trans g1) ?_
    rw [if_neg (by decide), List.append_nil]
    exact w.m g1
inductive Req (CW : Addr) (K : PySem.W.Frag) : List Ty → Ty → Prop
  | mk (c : Int) (D : Dl) (h s n : Nat) (p : Int × Int) (e : pairAt D h s n = some p) : Req CW K [yW CW c D, yIs (stp h s n)] (yRow K (rowOf (partsOf h s p.1 p.2)))
section
variable {P : Program} {w : World} {K : PySem.W.Frag} {mg : Str → Option Value} {base : Heap} {CW : Addr}
theorem ok_equation (D : Def K mg "equation_of" s_equation_of ["web", "step"]) (gz : Gz K mg "ZERO" 0) (c_worth_name : Cal P w K mg base "worth_name" 1 ["door"] (spG Rworth)) (c_door_at : Cal P w K mg base "door_at" 1 ["web", "step"] (spG (Rdoor CW))) (c_next_at : Cal P w K mg base "next_at" 1 ["web", "step"] (spG (Rnext CW)))
    (c_plus : Cal P w K mg base "plus" 3 ["one", "other"] (spG (Rplus K))) (c_whole : Cal P w K mg base "whole" 1 ["number"] (spG (Rwhole K))) : Cal P w K mg base "equation_of" 4 ["web", "step"] (spG (Req CW K)) := by
  have sc := sc_equation_of
  obtain ⟨vz, gZERO, hz⟩ := gz.ex
  refine D.ok sc (fun Ts T r => by cases r; rfl) (fun f cdv A outer s H vs E B Ts T r sb a hr => ?_)
  refine ⟨_, (pss_cons (ps_asg (pv 1) (pg_tup (by rfl) (pgs_cons (pg_name (i := 2) sc.nd rfl (.inl rfl)) (pgs_cons (pg_name (i := 3) sc.nd rfl (.inl rfl)) (pgs_cons (pg_name (i := 4) sc.nd rfl (.inl rfl)) pgs_nil)))))
(pss_cons (ps_set (i := 5) sc.nd rfl (.inl rfl) (pe_cl c_door_at (hr.mono (by decide)) (pa_cons (pv 0) (pa_cons (pv 1) pa_nil))))
(pss_cons (ps_set (i := 6) sc.nd rfl (.inl rfl) (pe_cl c_next_at (hr.mono (by decide)) (pa_cons (pv 0) (pa_cons (pv 1) pa_nil))))
(pss_cons (ps_set (i := 7) sc.nd rfl (.inl rfl) (pe_lst (pa_cons (pe_tup (pa_cons (pe_cl c_worth_name (hr.mono (by decide)) (pa_cons (pv 2) pa_nil)) (pa_cons pe_int pa_nil))) pa_nil)))
(pss_cons (ps_if (pt_cmpR op_ge (pv 5) pe_int (nomark _))
  (pss_one (ps_expr (pe_bm PySem.F.plainAttrs_list PySem.F.slot_list_append PySem.F.type_list_append mt_append (pv 7) (pa_cons (pe_tup (pa_cons (pe_cl c_worth_name (hr.mono (by decide)) (pa_cons (pv 5) pa_nil)) (pa_cons (pe_un un_neg pe_int) pa_nil))) pa_nil))))
  pss_nil)
(pss_cons (ps_if (pt_cmpR op_gt (pv 6) pe_int (nomark _))
  (pss_one (ps_expr (pe_bm PySem.F.plainAttrs_list PySem.F.slot_list_append PySem.F.type_list_append mt_append (pv 7) (pa_cons (pe_tup (pa_cons (pe_tup (pa_cons (pv 2) (pa_cons (pv 6) pa_nil))) (pa_cons pe_int pa_nil))) pa_nil))))
  pss_nil)
(pss_cons (ps_if (pt_cmpR op_gt (pv 3) pe_int (nomark _))
  (pss_one (ps_expr (pe_bm PySem.F.plainAttrs_list PySem.F.slot_list_append PySem.F.type_list_append mt_append (pv 7) (pa_cons (pe_tup (pa_cons (pe_tup (pa_cons (pv 2) (pa_cons (pv 3) pa_nil))) (pa_cons (pe_un un_neg pe_int) pa_nil))) pa_nil))))
  pss_nil)
(pss_cons (ps_set (i := 8) sc.nd rfl (.inl rfl) pe_dnewT)
(pss_cons (ps_for PassesOwn.never rfl (pi_list (pv 7)) (pg_tup (by rfl) (pgs_cons (pg_name (i := 9) sc.nd rfl (.inl rfl)) (pgs_cons (pg_name (i := 10) sc.nd rfl (.inl rfl)) pgs_nil)))
  (pss_one (ps_dput (hu_of hr) (pv 8) (pv 9) (pe_cl c_plus (hr.mono (by decide)) (pa_cons (pe_dget2 (hu_of hr) (pv 8) (pv 9) (pe_gc gZERO) ⟨rfl, rfl, rfl, rfl⟩) (pa_cons (pe_cl c_whole (hr.mono (by decide)) (pa_cons (pv 10) pa_nil)) pa_nil))) rfl)))
(pss_one (ps_ret (pv 8)))))))))))), fun Q q => ?_⟩
  cases r with
  | mk c D h s n p e =>
  obtain ⟨v1, v2, rfl, h1, h2⟩ := all2 a
  have hst : Gv (tVar 1) (start ["web", "step", "house", "standing", "number", "door", "later", "parts", "row", "name", "many"] [v1, v2]) B (yT [yI (h : Int), yI (s : Int), yI (n : Int)]) := gv_var rfl h2 (Same.refl _)
  refine sq_asg sb hst fun v B1 H1 g1 hv => g_tup3 hv g1.in_ fun x y z hx hy hz => ?_
  obtain rfl : x = .int (h : Int) := hx
  obtain rfl : y = .int (s : Int) := hy
  obtain rfl : z = .int (n : Int) := hz
  refine sq_set (T := yI p.1) g1.in_ (by
    walk_at "gv"
    exact .mk c D h s n p e) fun v B2 H2 g2 hv => ?_
  obtain rfl : v = .int p.1 := hv
  refine sq_set (T := yI p.2) g2.in_ (by
    walk_at "gv"
    exact .mk c D h s n p e) fun v B3 H3 g3 hv => ?_
  obtain rfl : v = .int p.2 := hv
  have gg3 := (g1.trans g2).trans g3
  have hworth : ∀ (σ : L2.St) (k : Nat) (i : Int) B, σ[k]? = some (some (.int i)) → Gv (tCl (spG Rworth) (tCons (tVar k) tNil)) σ B (yIs [i, -1]) := fun σ k i B hk => gv_cl (ga_1 (gv_v hk)) (gives_G (R := Rworth) (.mk i))
  refine hq_newL (ts := [yPart ([(h : Int), -1], 1)]) g3.in_ (ga_1 (gv_tup2 (hworth _ 2 h _ rfl) gv_c)) (by simp) fun d B4 H4 g4 nd4 hd4 w4 => ?_
  have gg4 := gg3.trans g4
  have hd0 : H d = none := gg3.hs.free hd4
  -- the parts, one by one
  have w4' : Ow d (oL ([(([(h : Int), -1] : Nm), (1 : Int))].map yPart)) B4 H4 := w4
  refine if_app (i := 7) rfl gg4 hd0 w4' (by simp) (c := decide (p.1 ≥ 0)) (x := ([p.1, -1], -1)) (by walk_at "gv") (gv_tup2 (hworth _ 5 _ _ rfl) (by walk_at "gv")) fun B5 H5 g5 w5 => ?_
  refine if_app (i := 7) rfl g5 hd0 w5 (by split <;> simp) (c := decide (p.2 > 0)) (x := ([(h : Int), p.2], 1)) (by walk_at "gv") (gv_tup2 (gv_tup2 (gv_v rfl) (gv_v rfl)) gv_c) fun B6 H6 g6 w6 => ?_
  refine if_app (i := 7) rfl g6 hd0 w6 (by split <;> split <;> simp) (c := decide ((s : Int) > 0)) (x := ([(h : Int), (s : Int)], -1)) (by walk_at "gv") (gv_tup2 (gv_tup2 (gv_v rfl) (gv_v rfl)) (by walk_at "gv")) fun B7 H7 g7 w7 => ?_
  obtain ⟨B8, g8, s8, h8⟩ := w7.pub g7 hd0
  have h8 := oL_ty h8
  have hparts : [(([(h : Int), -1] : Nm), (1 : Int))] ++ (if decide (p.1 ≥ 0) = true then [([p.1, -1], -1)] else []) ++ (if decide (p.2 > 0) = true then [([(h : Int), p.2], 1)] else []) ++ (if decide ((s : Int) > 0) = true then [([(h : Int), (s : Int)], -1)] else []) = partsOf h s p.1 p.2 := by
    unfold partsOf
    simp only [decide_eq_true_eq, ge_iff_le, gt_iff_lt]
  rw [hparts] at h8
  have hone : ∀ q ∈ partsOf h s p.1 p.2, q.2.natAbs ≤ 1 := fun q hq => by
    unfold partsOf at hq
    simp only [List.mem_append, List.mem_singleton] at hq
    rcases hq with ((hq | hq) | hq) | hq
    · rw [hq]; exact Nat.le_refl 1
    · split at hq
      · rw [List.mem_singleton.mp hq]; exact Nat.le_refl 1
      · simp at hq
    · split at hq
      · rw [List.mem_singleton.mp hq]; exact Nat.le_refl 1
      · simp at hq
    · split at hq
      · rw [List.mem_singleton.mp hq]; exact Nat.le_refl 1
      · simp at hq
  have hlen : (partsOf h s p.1 p.2).length ≤ 4 := by
    unfold partsOf
    split <;> split <;> split <;> simp
  generalize partsOf (h : Int) (s : Int) p.1 p.2 = ps at h8 hone hlen q
  refine hq_newT g8.in_ fun dr H8 g9 hdr w8 => ?_
  refine sq_for g9.in_ (gi_list (gv_var (i := 7) rfl h8 g9.bs) isLs_l) (fun i σ B2 H2 => ∃ n9 n10, σ = [some v1, some v2, some (.int (h : Int)), some (.int (s : Int)), some (.int (n : Int)), some (.int p.1), some (.int p.2), some (.ref d), some (.ref dr), n9, n10] ∧ (Ow dr (oT (mR K (rowOf (ps.take i)))) B2 H2 ∧ ((rowOf (ps.take i)).map (·.1)).Nodup ∧ (rowOf (ps.take i)).length ≤ i) ∧ Gr B H B2 H2)
    (fun B2 H2 g2 => ⟨_, _, rfl, ⟨w8.m g2, List.nodup_nil, Nat.le_refl _⟩, (g8.trans g9).trans g2⟩) (fun Bs i x σ B1 H1 B2 H2 hi s1 s2 s3 hP g2 hx => ?_) (fun σ B2 H2 s1 s2 hP => ?_)
  · obtain ⟨n9, n10, rfl, ⟨w9, nd, ln⟩, gg⟩ := hP
    rw [List.length_map] at hi
    obtain ⟨pt, hpt⟩ : ∃ r, ps[i]? = some r := ⟨_, List.getElem?_eq_getElem hi⟩
    have hty : tyAt (ps.map yPart) i = yPart pt := tyAt_of (by rw [List.getElem?_map, hpt]; rfl)
    rw [hty] at hx
    refine g_tup2 hx g2.in_ fun vn vm hvn hvm => ?_
    obtain rfl : vm = .int pt.2 := hvm
    have w10 := w9.m g2
    have htk : rowOf (ps.take (i + 1)) = addPart (rowOf (ps.take i)) pt := by
      rw [List.take_add_one, hpt]
      unfold rowOf
      rw [Option.toList_some, List.foldl_append]
      rfl
    obtain ⟨R, hR, eR⟩ := rowOf_int hone i pt.1
    have sz1 : Sz 4000 (val (rowOf (ps.take i)) pt.1) := by
      rw [eR]
      exact ⟨Nat.lt_of_lt_of_le (show R.natAbs < 2 ^ 10 by have : (2:Nat) ^ 10 = 1024 := rfl; omega) (Nat.pow_le_pow_right (by decide) (by decide)), Nat.lt_of_lt_of_le (show (1 : Nat) < 2 ^ 10 by decide) (Nat.pow_le_pow_right (by decide) (by decide))⟩
    have h1' := hone pt (List.mem_of_getElem? hpt)
    have sz2 : Sz 4000 (pt.2 : Rat) := ⟨Nat.lt_of_lt_of_le (show pt.2.natAbs < 2 ^ 10 by have : (2:Nat) ^ 10 = 1024 := rfl; omega) (Nat.pow_le_pow_right (by decide) (by decide)), Nat.lt_of_lt_of_le (show (1 : Nat) < 2 ^ 10 by decide) (Nat.pow_le_pow_right (by decide) (by decide))⟩
    refine ht_dputT (ks := pt.1) (is_var (i := 8) rfl) w10 g2.in_ (T := yF K (val (rowOf (ps.take i)) pt.1 + (pt.2 : Rat))) (by rw [mR_keys]; exact nd) (by rw [mR_len]; omega) (Gh.own w10 g2.in_ rk_fT fun B3 s7 s8 t => ?_) (by walk_at "gv") fun B3 H3 o3 g3 w11 => ?_
    · walk_at "gv"
      case r => exact .mk _
      case r => exact .mk _ _ sz1 sz2
    · refine ⟨B3, s2.trans (g2.bs.trans g3.bs), (w10.m g3).same g3.in_, _, _, rfl, ⟨?_, ?_, ?_⟩, ((gg.trans g2).trans g3).put (w10.m g3) (g8.hs.free hdr)⟩
      · rw [htk]
        unfold addPart
        rw [← mR_put]
        exact w11
      · rw [htk]; exact put_nodup nd
      · rw [htk]
        have := put_len (m := rowOf (ps.take i)) (k := pt.1) (v := val (rowOf (ps.take i)) pt.1 + (pt.2 : Rat))
        unfold addPart
        omega
  · obtain ⟨n9, n10, rfl, ⟨w9, _⟩, gg⟩ := hP
    rw [List.length_map, List.take_length] at w9
    obtain ⟨B3, g3, s3, h3⟩ := w9.pub gg (g8.hs.free hdr)
    exact ⟨_, rfl, q _ B3 _ g3 (oT_ty h3)⟩
end
end LD
set_option maxHeartbeats 400000
/-! LdRowLaw: what a row says. -/
namespace LD
theorem dot_cons {κ : Type} {p : κ × Rat} {m : List (κ × Rat)} {x : κ → Rat} : dot (p :: m) x = p.2 * x p.1 + dot m x := by unfold dot; rw [List.map_cons, List.sum_cons]
theorem dot_put {κ : Type} [DecidableEq κ] {m : List (κ × Rat)} {k : κ} {v : Rat} {x : κ → Rat} : dot (put m k v) x = dot m x + (v - val m k) * x k := by
  induction m with
  | nil =>
    show dot [(k, v)] x = _
    rw [dot_cons, val_nil]
    have : dot ([] : List (κ × Rat)) x = 0 := rfl
    rw [this]; grind
  | cons p m ih =>
    rw [put, val_cons]
    by_cases h : p.1 = k
    · rw [if_pos h, if_pos h, dot_cons, dot_cons, h]
      grind
    · rw [if_neg h, if_neg h, dot_cons, dot_cons, ih]
      grind
theorem dot_rowOf {ps : List Part} {x : Nm → Rat} : dot (rowOf ps) x = (ps.map fun p => (p.2 : Rat) * x p.1).sum := by
  have key : ∀ (ps : List Part) (m : Row), dot (ps.foldl addPart m) x = dot m x + (ps.map fun p => (p.2 : Rat) * x p.1).sum := by
    intro ps
    induction ps with
    | nil => intro m; simp; grind
    | cons p ps ih =>
      intro m
      rw [List.foldl_cons, ih, List.map_cons, List.sum_cons]
      unfold addPart
      rw [dot_put]
      grind
  unfold rowOf
  rw [key]
  have : dot ([] : Row) x = 0 := rfl
  rw [this]; grind
end LD
set_option maxHeartbeats 400000
/-! LdWebLaw: webs that are right; what their equations leave open. -/
namespace LD
/-- a web that the law draws: each standing has a step to the next one whose door is a cup or a house of lower rank -/
structure WebOk (c : Int) (D : Dl) (rank : Nat → Nat) : Prop where
  c1 : 1 ≤ c
  c3 : c ≤ 3
  h1 : 1 ≤ D.length
  sm : Small D
  d1 : ∀ d ∈ D, 1 ≤ d.length
  p1 : ∀ d ∈ D, ∀ ps ∈ d, 1 ≤ ps.length
  inb : ∀ d ∈ D, ∀ ps ∈ d, ∀ p ∈ ps, -c ≤ p.1 ∧ p.1 < D.length ∧ 0 ≤ p.2 ∧ p.2 < d.length
  asc : ∀ d ∈ D, ∀ ps ∈ d, ∀ (i : Nat) p q, ps[i]? = some p → ps[i + 1]? = some q → p.1 < q.1 ∨ p.1 = q.1 ∧ p.2 < q.2
  low : ∀ (h s : Nat) d, D[h]? = some d → s < d.length → ∃ (n : Nat) (p : Int × Int), pairAt D h s n = some p ∧ p.2 = (((s + 1) % d.length : Nat) : Int) ∧ (p.1 < 0 ∨ rank p.1.toNat < rank h)
def planted (worth : Nat → Rat) (lead : Nat → Nat → Rat) : Nm → Rat
  | [h, s] => if s = -1 then worth h.toNat else lead h.toNat s.toNat
  | _ => 0
/-- what a step's row says -/
def stepVal (x : Nm → Rat) (h s : Nat) (p : Int × Int) : Rat := x [(h : Int), -1] - (if 0 ≤ p.1 then x [p.1, -1] else 0) + (if 0 < p.2 then x [(h : Int), p.2] else 0) - (if 0 < (s : Int) then x [(h : Int), (s : Int)] else 0)
theorem dot_parts {x : Nm → Rat} {h s : Nat} {p : Int × Int} : dot (rowOf (partsOf h s p.1 p.2)) x = stepVal x h s p := by
  rw [dot_rowOf]
  unfold partsOf stepVal
  have e1 : ((1 : Int) : Rat) = 1 := rfl
  have e2 : ((-1 : Int) : Rat) = -1 := rfl
  split <;> split <;> split <;> simp [e1, e2] <;> grind
def lead0 (x : Nm → Rat) (h s : Nat) : Rat := if 0 < s then x [(h : Int), (s : Int)] else 0
theorem ker_house {x : Nm → Rat} {c : Int} {D : Dl} {rank : Nat → Nat} (o : WebOk c D rank) (hx : ∀ h s n p, pairAt D h s n = some p → stepVal x h s p = 0) : ∀ (r h : Nat) d, rank h ≤ r → D[h]? = some d → x [(h : Int), -1] = 0 ∧ ∀ s, s < d.length → lead0 x h s = 0 := by
  intro r
  induction r using Nat.strongRecOn with
  | ind r ih =>
    intro h d hr hd
    have hd1 := o.d1 d (List.mem_of_getElem? hd)
    -- each step to the next standing
    have st : ∀ s, s < d.length → x [(h : Int), -1] + lead0 x h ((s + 1) % d.length) - lead0 x h s = 0 := fun s hs => by
      obtain ⟨n, p, e, e2, e3⟩ := o.low h s d hd hs
      have v := hx h s n p e
      unfold stepVal at v
      have hz : (if 0 ≤ p.1 then x [p.1, -1] else 0) = 0 := by
        by_cases z : 0 ≤ p.1
        · rw [if_pos z]
          rcases e3 with e3 | e3
          · omega
          · obtain ⟨d', ps, k1, k2, k3⟩ := pairAt_some e
            have ib := o.inb d' (List.mem_of_getElem? k1) ps (List.mem_of_getElem? k2) p (List.mem_of_getElem? k3)
            obtain ⟨t, ht⟩ := Int.eq_ofNat_of_zero_le z
            have hlt : t < D.length := by omega
            have q := (ih (rank t) (by rw [ht] at e3; simp at e3; omega) t _ (Nat.le_refl _) (List.getElem?_eq_getElem hlt)).1
            rw [ht]
            exact q
        · rw [if_neg z]
      rw [hz, e2] at v
      unfold lead0
      generalize (s + 1) % d.length = t at v ⊢
      have c1 : (0 < (t : Int)) = (0 < t) := by simp
      have c2 : (0 < (s : Int)) = (0 < s) := by simp
      simp only [c1, c2] at v
      grind
    have l0 : lead0 x h 0 = 0 := if_neg (by decide)
    have ln : ∀ s, s < d.length → lead0 x h s = -((s : Nat) : Rat) * x [(h : Int), -1] := by
      intro s
      induction s with
      | zero => intro _; rw [l0]; simp
      | succ s ihs =>
        intro hs
        have a := st s (by omega)
        rw [Nat.mod_eq_of_lt hs, ihs (by omega)] at a
        have e : (((s + 1 : Nat)) : Rat) = (s : Rat) + 1 := by simp
        rw [e]
        grind
    have last := st (d.length - 1) (by omega)
    have e1 : d.length - 1 + 1 = d.length := by omega
    rw [e1, Nat.mod_self, l0, ln _ (by omega)] at last
    have hw : x [(h : Int), -1] = 0 := by
      have e2 : (((d.length - 1 : Nat)) : Rat) + 1 ≠ 0 := by
        have h0 : (0 : Rat) ≤ ((d.length - 1 : Nat) : Rat) := by exact_mod_cast Nat.zero_le _
        grind
      grind
    refine ⟨hw, fun s hs => ?_⟩
    rw [ln s hs, hw]
    grind
end LD
set_option maxRecDepth 100000
set_option maxHeartbeats 400000
/-! LdRun: the drawing of lots, its choices open; all runs up to three houses end well. -/
namespace LD
abbrev Lot := List Int
abbrev Ln := Int × Int
def insI (a : Int) : List Int → List Int
  | [] => [a]
  | b :: l => if a ≤ b then a :: b :: l else b :: insI a l
def sortI : List Int → List Int
  | [] => []
  | a :: l => insI a (sortI l)
structure DS where
  tops : List Lot
  lo : List (Lot × Ln)
  mo : List (Lot × List Lot)
def topWith (tops : List Lot) (h : Int) : Option Lot := (tops.filter fun t => decide (h ∈ t)).head?
def ringGo (tops : List Lot) (lo : List (Lot × Ln)) (lot : Lot) : Nat → List Lot → Lot → Option (Option (List Lot))
  | 0, _, _ => none
  | k + 1, found, last => match look lo last with
    | none => some none
    | some line => if line.2 = -1 then some none else match topWith tops line.2 with
      | none => none
      | some t => if t = lot then some (some (found ++ [last])) else ringGo tops lo lot k (found ++ [last]) t
def ringOf (tops : List Lot) (lo : List (Lot × Ln)) (lot : Lot) : Option (Option (List Lot)) := ringGo tops lo lot 5 [] lot
def wholeOf (ring : List Lot) : Lot := sortI (ring.flatMap fun part => part)
def joinTops (tops ring : List Lot) : List Lot := (tops.filter fun part => !decide (part ∈ ring)) ++ [wholeOf ring]
def chooseD (S : DS) (L : Lot) (c : Ln) : Option DS :=
  match ringOf S.tops (put S.lo L c) L with
  | none => none
  | some none => some ⟨S.tops, put S.lo L c, S.mo⟩
  | some (some ring) => if (ring.flatMap fun part => part).length ≤ 100 then some ⟨joinTops S.tops ring, put S.lo L c, put S.mo (wholeOf ring) ring⟩ else none
def openOf (tops : List Lot) (lo : List (Lot × Ln)) : List Lot := tops.filter fun t => !(look lo t).isSome
def partOk (lo : List (Lot × Ln)) (line : Ln) (p : Lot) : Bool := decide (line.1 ∈ p) || (look lo p).isSome
def partLn (lo : List (Lot × Ln)) (line : Ln) (p : Lot) : Ln := if line.1 ∈ p then line else (look lo p).getD (0, 0)
def chGo (lo : List (Lot × Ln)) (mo : List (Lot × List Lot)) : Nat → List (Lot × Ln) → List (Int × Ln) → Option (List (Int × Ln))
  | 0, _, _ => none
  | k + 1, w, found => match w.getLast? with
    | none => some found
    | some (lot, line) => match lot with
      | [h] => chGo lo mo k w.dropLast (put found h line)
      | _ => match look mo lot with
        | none => none
        | some parts => if decide (parts.length ≤ 10) && parts.all (partOk lo line) then chGo lo mo k (w.dropLast ++ parts.map fun p => (p, partLn lo line p)) found else none
def topLn (lo : List (Lot × Ln)) (t : Lot) : Lot × Ln := (t, (look lo t).getD (0, 0))
def chosenOf (S : DS) : Option (List (Int × Ln)) := if S.tops.all (fun t => (look S.lo t).isSome) then chGo S.lo S.mo 12 (S.tops.map (topLn S.lo)) [] else none
/-- a house's way, walked so often -/
def wayOf (ds : List Int) (h : Int) : Nat → Int
  | 0 => h
  | k + 1 => let x := wayOf ds h k; if 0 ≤ x then ds.getD x.toNat (-1) else x
def goesHome (ds : List Int) : Bool := (List.range ds.length).all fun (h : Nat) => decide (wayOf ds (h : Int) ds.length < 0)
def clip (d : Int) : Int := max (-1) d
/-- how many of the houses of a lot choose a goal outside -/
def leaves (h g : Int) (L : Lot) : Bool := decide (h ∈ L) && !decide (g ∈ L)
def cnt (gs : List Int) (L : Lot) : Nat := ((List.range gs.length).filter fun (h : Nat) => leaves (h : Int) (gs.getD h (-1)) L).length
def subsOf : List Int → List Lot
  | [] => [[]]
  | a :: l => (subsOf l).map (a :: ·) ++ subsOf l
def lotsOf (n : Nat) : List Lot := (subsOf ((List.range n).map fun (i : Nat) => (i : Int))).filter fun l => !l.isEmpty
def goalsOf (n : Nat) : List Int := (-1) :: (List.range n).map fun (i : Nat) => (i : Int)
def linesOf (n : Nat) (L : Lot) : List Ln := L.flatMap fun h => ((goalsOf n).filter fun g => !decide (g ∈ L)).map fun g => (h, g)
def foundGoals (n : Nat) (found : List (Int × Ln)) : List Int := (List.range n).map fun (h : Nat) => ((look found (h : Int)).getD (0, 0)).2
def finalOk (n : Nat) (S : DS) : Bool := match chosenOf S with
  | none => false
  | some found => ((List.range n).all fun (h : Nat) => (look S.lo [(h : Int)]).isSome) && ((List.range n).all fun (h : Nat) => match look found (h : Int) with
      | none => false
      | some line => decide (line.1 = h) && S.lo.any fun p => decide (p.2 = line)) && goesHome (foundGoals n found) && S.lo.all fun p => decide (cnt (foundGoals n found) p.1 = 1)
def good (n : Nat) : Nat → DS → Bool
  | 0, _ => false
  | k + 1, S => match openOf S.tops S.lo with
    | [] => finalOk n S
    | L :: _ => decide (L ∈ lotsOf n) && (decide (L.length = 1) || L.all fun h => (look S.lo [h]).isSome) && (linesOf n L).all fun c => match chooseD S L c with
      | none => false
      | some S' => good n k S'
def start0 (n : Nat) : DS := ⟨(List.range n).map fun (h : Nat) => [(h : Int)], [], []⟩
set_option maxHeartbeats 0 in
theorem good1 : good 1 6 (start0 1) = true := by decide +kernel
set_option maxHeartbeats 0 in
theorem good2 : good 2 6 (start0 2) = true := by decide +kernel
set_option maxHeartbeats 0 in
theorem good3 : good 3 6 (start0 3) = true := by decide +kernel
def tupsOf : Nat → List Int → List (List Int)
  | 0, _ => [[]]
  | n + 1, xs => xs.flatMap fun x => (tupsOf n xs).map (x :: ·)
theorem mem_tups {xs : List Int} : ∀ {ds : List Int}, (∀ d ∈ ds, d ∈ xs) → ds ∈ tupsOf ds.length xs
  | [], _ => by simp [tupsOf]
  | d :: ds, h => by
    rw [List.length_cons, tupsOf, List.mem_flatMap]
    exact ⟨d, h d List.mem_cons_self, List.mem_map.mpr ⟨ds, mem_tups fun x hx => h x (List.mem_cons_of_mem _ hx), rfl⟩⟩
def doorsOf (n : Nat) : List Int := [-3, -2, -1] ++ (List.range n).map fun (i : Nat) => (i : Int)
def homeOk (n : Nat) (ds : List Int) : Bool := decide (goesHome ds = goesHome (ds.map clip)) && (!goesHome ds || ((lotsOf n).all fun L => decide (1 ≤ cnt (ds.map clip) L) && (!decide (L.length = 1) || decide (cnt (ds.map clip) L = 1))) && (List.range n).all fun (h : Nat) => !decide (ds.getD h (-1) = (h : Int)))
set_option maxHeartbeats 0 in
theorem home1 : (tupsOf 1 (doorsOf 1)).all (homeOk 1) = true := by decide +kernel
set_option maxHeartbeats 0 in
theorem home2 : (tupsOf 2 (doorsOf 2)).all (homeOk 2) = true := by decide +kernel
set_option maxHeartbeats 0 in
theorem home3 : (tupsOf 3 (doorsOf 3)).all (homeOk 3) = true := by decide +kernel
theorem home_ok {n : Nat} (h1 : 1 ≤ n) (h3 : n ≤ 3) {ds : List Int} (hl : ds.length = n) (hd : ∀ d ∈ ds, -3 ≤ d ∧ d < n) : homeOk n ds = true := by
  have hm : ds ∈ tupsOf n (doorsOf n) := by
    rw [← hl]
    refine mem_tups fun d hx => ?_
    obtain ⟨k1, k2⟩ := hd d hx
    unfold doorsOf
    rw [List.mem_append]
    by_cases z : 0 ≤ d
    · right
      exact List.mem_map.mpr ⟨d.toNat, List.mem_range.mpr (by omega), by omega⟩
    · left
      have : d = -3 ∨ d = -2 ∨ d = -1 := by omega
      simpa using this
  have hn : n = 1 ∨ n = 2 ∨ n = 3 := by omega
  rcases hn with rfl | rfl | rfl
  · exact List.all_eq_true.mp home1 ds hm
  · exact List.all_eq_true.mp home2 ds hm
  · exact List.all_eq_true.mp home3 ds hm
theorem good_ok {n : Nat} (h1 : 1 ≤ n) (h3 : n ≤ 3) : good n 6 (start0 n) = true := by
  have hn : n = 1 ∨ n = 2 ∨ n = 3 := by omega
  rcases hn with rfl | rfl | rfl
  · exact good1
  · exact good2
  · exact good3
end LD
set_option maxRecDepth 100000
set_option maxHeartbeats 400000
/-! LdHv: rests of lines; the heaviest forest. -/
namespace LD
abbrev Rst := List (Ln × Int)
def iv (R : Rst) (e : Ln) : Int := (look R e).getD 0
def lexLe (a b : Ln) : Bool := decide (a.1 < b.1) || (decide (a.1 = b.1) && decide (a.2 ≤ b.2))
def insLn (a : Ln) : List Ln → List Ln
  | [] => [a]
  | b :: l => if lexLe a b then a :: b :: l else b :: insLn a l
def sortLn : List Ln → List Ln
  | [] => []
  | a :: l => insLn a (sortLn l)
theorem mem_insLn {a x : Ln} : ∀ {l : List Ln}, x ∈ insLn a l ↔ x = a ∨ x ∈ l
  | [] => by simp [insLn]
  | b :: l => by
    unfold insLn
    split
    · simp
    · rw [List.mem_cons, mem_insLn (l := l), List.mem_cons]
      constructor
      · rintro (h | h | h)
        · exact .inr (.inl h)
        · exact .inl h
        · exact .inr (.inr h)
      · rintro (h | h | h)
        · exact .inr (.inl h)
        · exact .inl h
        · exact .inr (.inr h)
theorem mem_sortLn {x : Ln} : ∀ {l : List Ln}, x ∈ sortLn l ↔ x ∈ l
  | [] => by simp [sortLn]
  | b :: l => by rw [sortLn, mem_insLn, mem_sortLn (l := l), List.mem_cons]
theorem insLn_nodup {a : Ln} : ∀ {l : List Ln}, a ∉ l → l.Nodup → (insLn a l).Nodup
  | [], _, _ => by simp [insLn]
  | b :: l, h, k => by
    unfold insLn
    split
    · exact List.nodup_cons.mpr ⟨h, k⟩
    · obtain ⟨k1, k2⟩ := List.nodup_cons.mp k
      rw [List.mem_cons, not_or] at h
      refine List.nodup_cons.mpr ⟨fun z => ?_, insLn_nodup h.2 k2⟩
      rcases mem_insLn.mp z with z | z
      · exact h.1 z.symm
      · exact k1 z
theorem sortLn_nodup : ∀ {l : List Ln}, l.Nodup → (sortLn l).Nodup
  | [], _ => by simp [sortLn]
  | b :: l, k => by
    obtain ⟨k1, k2⟩ := List.nodup_cons.mp k
    exact insLn_nodup (fun z => k1 (mem_sortLn.mp z)) (sortLn_nodup k2)
def lv (e : Ln) (L : Lot) : Bool := leaves e.1 e.2 L
def outOf (R : Rst) (L : Lot) : List Ln := sortLn ((R.map (·.1)).filter fun e => lv e L)
def maxOf (R : Rst) : List Ln → Int
  | [] => 0
  | [e] => iv R e
  | e :: l => max (iv R e) (maxOf R l)
theorem maxOf_ge {R : Rst} : ∀ {l : List Ln} {e : Ln}, e ∈ l → iv R e ≤ maxOf R l
  | [x], e, h => by rw [List.mem_singleton.mp h]; exact Int.le_refl _
  | x :: y :: l, e, h => by
    show iv R e ≤ max (iv R x) (maxOf R (y :: l))
    rcases List.mem_cons.mp h with rfl | h
    · omega
    · have := maxOf_ge (R := R) (l := y :: l) h
      omega
theorem maxOf_mem {R : Rst} : ∀ {l : List Ln}, l ≠ [] → ∃ e ∈ l, iv R e = maxOf R l
  | [x], _ => ⟨x, by simp, rfl⟩
  | x :: y :: l, _ => by
    obtain ⟨e, h1, h2⟩ := maxOf_mem (R := R) (l := y :: l) (by simp)
    show ∃ e ∈ x :: y :: l, iv R e = max (iv R x) (maxOf R (y :: l))
    by_cases z : maxOf R (y :: l) ≤ iv R x
    · exact ⟨x, List.mem_cons_self, by omega⟩
    · exact ⟨e, List.mem_cons_of_mem _ h1, by omega⟩
def mostOf (R : Rst) (L : Lot) : Int := maxOf R (outOf R L)
def pickOf (R : Rst) (L : Lot) : Ln := (((outOf R L).filter fun e => decide (iv R e = mostOf R L)).head?).getD (0, 0)
def subLn (m : Int) (R : Rst) (e : Ln) : Rst := put R e (iv R e - m)
def lowered (R : Rst) (L : Lot) : Rst := (outOf R L).foldl (subLn (mostOf R L)) R
theorem pick_ok {R : Rst} {L : Lot} (h : outOf R L ≠ []) : pickOf R L ∈ outOf R L ∧ iv R (pickOf R L) = mostOf R L := by
  obtain ⟨e, h1, h2⟩ := maxOf_mem (R := R) h
  have hm : e ∈ (outOf R L).filter fun e => decide (iv R e = mostOf R L) := List.mem_filter.mpr ⟨h1, decide_eq_true h2⟩
  unfold pickOf
  cases z : (outOf R L).filter fun e => decide (iv R e = mostOf R L) with
  | nil => rw [z] at hm; cases hm
  | cons x l =>
    have hx : x ∈ (outOf R L).filter fun e => decide (iv R e = mostOf R L) := by rw [z]; exact List.mem_cons_self
    obtain ⟨k1, k2⟩ := List.mem_filter.mp hx
    exact ⟨k1, of_decide_eq_true k2⟩
theorem put_mem_keys {κ α : Type} [DecidableEq κ] {m : List (κ × α)} {k : κ} {v : α} (h : k ∈ m.map (·.1)) : (put m k v).map (·.1) = m.map (·.1) := by
  induction m with
  | nil => simp at h
  | cons p m ih =>
    by_cases z : p.1 = k
    · simp [put, z]
    · have h2 : k ∈ m.map (·.1) := by
        rw [List.map_cons, List.mem_cons] at h
        rcases h with h | h
        · exact absurd h.symm z
        · exact h
      simp only [put, if_neg z, List.map_cons, ih h2]
theorem put_absent {κ α : Type} [DecidableEq κ] {m : List (κ × α)} {k : κ} {v : α} (h : look m k = none) : put m k v = m ++ [(k, v)] := by
  induction m with
  | nil => rfl
  | cons p m ih =>
    by_cases z : p.1 = k
    · rw [look, if_pos z] at h; cases h
    · rw [look, if_neg z] at h
      rw [put, if_neg z, ih h]; rfl
theorem fold_sub {m : Int} : ∀ {es : List Ln} {R : Rst}, es.Nodup → (∀ e ∈ es, e ∈ R.map (·.1)) → (es.foldl (subLn m) R).map (·.1) = R.map (·.1) ∧ ∀ e, e ∈ R.map (·.1) → iv (es.foldl (subLn m) R) e = if e ∈ es then iv R e - m else iv R e
  | [], R, _, _ => ⟨rfl, fun e _ => by simp⟩
  | x :: es, R, nd, h => by
    obtain ⟨n1, n2⟩ := List.nodup_cons.mp nd
    have hk : (subLn m R x).map (·.1) = R.map (·.1) := put_mem_keys (h x List.mem_cons_self)
    obtain ⟨a, b⟩ := fold_sub (m := m) (es := es) (R := subLn m R x) n2 fun e he => by rw [hk]; exact h e (List.mem_cons_of_mem _ he)
    refine ⟨by rw [List.foldl_cons, a, hk], fun e he => ?_⟩
    rw [List.foldl_cons, b e (by rw [hk]; exact he)]
    have e1 : iv (subLn m R x) e = if x = e then iv R x - m else iv R e := by
      unfold iv subLn
      rw [look_put]
      split <;> rfl
    rw [e1]
    by_cases z : x = e
    · subst z
      rw [if_neg n1, if_pos rfl, if_pos List.mem_cons_self]
    · rw [if_neg z]
      by_cases y : e ∈ es
      · rw [if_pos y, if_pos (List.mem_cons_of_mem _ y)]
      · rw [if_neg y, if_neg (fun q => by rcases List.mem_cons.mp q with q | q; exact z q.symm; exact y q)]
theorem mem_out {R : Rst} {L : Lot} {e : Ln} : e ∈ outOf R L ↔ e ∈ R.map (·.1) ∧ lv e L = true := by
  unfold outOf
  rw [mem_sortLn, List.mem_filter]
theorem out_nodup {R : Rst} {L : Lot} (h : (R.map (·.1)).Nodup) : (outOf R L).Nodup := sortLn_nodup (List.Nodup.sublist List.filter_sublist h)
theorem lowered_ok {R : Rst} {L : Lot} (h : (R.map (·.1)).Nodup) : (lowered R L).map (·.1) = R.map (·.1) ∧ ∀ e, e ∈ R.map (·.1) → iv (lowered R L) e = iv R e - if lv e L then mostOf R L else 0 := by
  obtain ⟨a, b⟩ := fold_sub (m := mostOf R L) (es := outOf R L) (R := R) (out_nodup h) fun e he => (mem_out.mp he).1
  refine ⟨a, fun e he => ?_⟩
  unfold lowered
  rw [b e he]
  by_cases z : lv e L = true
  · rw [if_pos (mem_out.mpr ⟨he, z⟩), if_pos z]
  · rw [if_neg (fun q => z (mem_out.mp q).2), if_neg z]; omega
/-! ## what was taken -/
def tot (ms : List (Lot × Int)) (e : Ln) : Int := (ms.map fun p => if lv e p.1 then p.2 else 0).sum
structure NumInv (R0 R : Rst) (ms : List (Lot × Int)) (lo : List (Lot × Ln)) : Prop where
  keys : R.map (·.1) = R0.map (·.1)
  eq : ∀ e ∈ R0.map (·.1), iv R0 e = iv R e + tot ms e
  big : ∀ p ∈ ms, p.1.length ≠ 1 → p.2 ≤ 0
  zero : ∀ p ∈ lo, p.2 ∈ R0.map (·.1) ∧ iv R p.2 = 0 ∧ lv p.2 p.1 = true
  low : ∀ e ∈ R0.map (·.1), e.1 ≠ e.2 → (look lo [e.1]).isSome → iv R e ≤ 0
  mslo : ms.map (·.1) = lo.map (·.1)
  sub : ∀ p ∈ lo, p.1.length ≠ 1 → ∀ h ∈ p.1, (look lo [h]).isSome
theorem lv_iff {e : Ln} {L : Lot} : lv e L = true ↔ e.1 ∈ L ∧ e.2 ∉ L := by
  unfold lv leaves
  simp
theorem num_step {R0 R : Rst} {ms : List (Lot × Int)} {lo : List (Lot × Ln)} {L : Lot} (nd : (R0.map (·.1)).Nodup) (o : NumInv R0 R ms lo) (hL : look lo L = none) (hs : L.length = 1 ∨ ∀ h ∈ L, (look lo [h]).isSome) (ho : outOf R L ≠ []) :
    NumInv R0 (lowered R L) (ms ++ [(L, mostOf R L)]) (put lo L (pickOf R L)) := by
  have ndR : (R.map (·.1)).Nodup := by rw [o.keys]; exact nd
  obtain ⟨k1, k2⟩ := lowered_ok (L := L) ndR
  obtain ⟨p1, p2⟩ := pick_ok ho
  have p3 := mem_out.mp p1
  have grow : ∀ K, (look lo K).isSome → (look (put lo L (pickOf R L)) K).isSome := fun K h => by
    rw [look_put]; split
    · rfl
    · exact h
  rw [o.keys] at k1 k2
  have bigL : L.length ≠ 1 → ∀ e ∈ outOf R L, iv R e ≤ 0 := fun hl e he => by
    obtain ⟨a, b⟩ := mem_out.mp he
    rw [o.keys] at a
    have b := lv_iff.mp b
    rcases hs with h | h
    · exact absurd h hl
    · exact o.low e a (fun z => b.2 (z ▸ b.1)) (h _ b.1)
  have most0 : L.length ≠ 1 → mostOf R L ≤ 0 := fun hl => by
    rw [← p2]; exact bigL hl _ p1
  have hput := put_absent (v := pickOf R L) hL
  refine ⟨k1, fun e he => ?_, fun p hp hl => ?_, fun p hp => ?_, fun e he ne hse => ?_, ?_, fun p hp hl h hh => ?_⟩
  · rw [k2 e he, o.eq e he]
    have : tot (ms ++ [(L, mostOf R L)]) e = tot ms e + if lv e L then mostOf R L else 0 := by
      unfold tot; simp [List.sum_append]
    omega
  · rcases List.mem_append.mp hp with hp | hp
    · exact o.big p hp hl
    · rw [List.mem_singleton.mp hp] at hl ⊢
      exact most0 hl
  · rw [hput] at hp
    rcases List.mem_append.mp hp with hq | hp
    · obtain ⟨z1, z2, z3⟩ := o.zero p hq
      refine ⟨z1, ?_, z3⟩
      rw [k2 _ z1, z2]
      by_cases lvp : lv p.2 L = true
      · rw [if_pos lvp]
        have a := lv_iff.mp lvp
        have b := lv_iff.mp z3
        by_cases hl : L.length = 1
        · exfalso
          obtain ⟨x, rfl⟩ := List.length_eq_one_iff.mp hl
          have hx : p.2.1 = x := by simpa using a.1
          by_cases hp1 : p.1.length = 1
          · obtain ⟨y, hy⟩ := List.length_eq_one_iff.mp hp1
            rw [hy] at b
            have hy2 : p.2.1 = y := by simpa using b.1
            have : look lo [x] ≠ none := fun z => look_none.mp z (List.mem_map.mpr ⟨p, hq, by rw [hy, ← hy2, hx]⟩)
            exact this hL
          · have := o.sub p hq hp1 p.2.1 b.1
            rw [hx, hL] at this
            cases this
        · have m1 := most0 hl
          have m2 : iv R p.2 ≤ mostOf R L := maxOf_ge (mem_out.mpr ⟨by rw [o.keys]; exact z1, lvp⟩)
          omega
      · rw [if_neg lvp]; rfl
    · rw [List.mem_singleton.mp hp]
      have z1 := p3.1
      rw [o.keys] at z1
      refine ⟨z1, ?_, p3.2⟩
      show iv _ (pickOf R L) = 0
      rw [k2 _ z1, p2, if_pos p3.2]; omega
  · rw [k2 e he]
    by_cases lve : lv e L = true
    · rw [if_pos lve]
      have : iv R e ≤ mostOf R L := maxOf_ge (mem_out.mpr ⟨by rw [o.keys]; exact he, lve⟩)
      omega
    · rw [if_neg lve]
      rw [look_put] at hse
      by_cases z : L = [e.1]
      · exfalso
        refine lve (lv_iff.mpr ⟨by rw [z]; simp, by rw [z]; simp; exact fun q => ne q.symm⟩)
      · rw [if_neg z] at hse
        have := o.low e he ne hse
        omega
  · rw [hput, List.map_append, List.map_append, o.mslo]; rfl
  · rw [hput] at hp
    rcases List.mem_append.mp hp with hp | hp
    · exact grow _ (o.sub p hp hl h hh)
    · rw [List.mem_singleton.mp hp] at hl hh
      rcases hs with hs | hs
      · exact absurd hs hl
      · exact grow _ (hs h hh)
/-! ## the run -/
def runGo : Nat → Rst → DS → Option (Rst × DS)
  | 0, _, _ => none
  | k + 1, R, S => match openOf S.tops S.lo with
    | [] => some (R, S)
    | L :: _ => match chooseD S L (pickOf R L) with
      | none => none
      | some S' => runGo k (lowered R L) S'
/-- lines enough -/
structure RstOk (n : Nat) (R0 : Rst) : Prop where
  nd : (R0.map (·.1)).Nodup
  inb : ∀ e : Ln, e ∈ R0.map (·.1) → 0 ≤ e.1 ∧ e.1 < (n : Int) ∧ -1 ≤ e.2 ∧ e.2 < (n : Int)
  ex : ∀ L ∈ lotsOf n, ∃ e ∈ R0.map (·.1), lv e L = true
theorem out_ne {n : Nat} {R0 R : Rst} (o : RstOk n R0) (k : R.map (·.1) = R0.map (·.1)) {L : Lot} (h : L ∈ lotsOf n) : outOf R L ≠ [] := fun z => by
  obtain ⟨e, h1, h2⟩ := o.ex L h
  have : e ∈ outOf R L := mem_out.mpr ⟨by rw [k]; exact h1, h2⟩
  rw [z] at this; cases this
theorem out_lines {n : Nat} {R0 R : Rst} (o : RstOk n R0) (k : R.map (·.1) = R0.map (·.1)) {L : Lot} {e : Ln} (h : e ∈ outOf R L) : e ∈ linesOf n L := by
  obtain ⟨h1, h2⟩ := mem_out.mp h
  rw [k] at h1
  obtain ⟨b1, b2, b3, b4⟩ := o.inb e h1
  have h2 := lv_iff.mp h2
  unfold linesOf
  rw [List.mem_flatMap]
  refine ⟨e.1, h2.1, List.mem_map.mpr ⟨e.2, List.mem_filter.mpr ⟨?_, by simp [h2.2]⟩, rfl⟩⟩
  unfold goalsOf
  rw [List.mem_cons]
  by_cases z : e.2 = -1
  · exact .inl z
  · exact .inr (List.mem_map.mpr ⟨e.2.toNat, List.mem_range.mpr (by omega), by omega⟩)
theorem open_look {S : DS} {L : Lot} {l : List Lot} (h : openOf S.tops S.lo = L :: l) : look S.lo L = none := by
  have : L ∈ openOf S.tops S.lo := by rw [h]; exact List.mem_cons_self
  have := (List.mem_filter.mp this).2
  cases e : look S.lo L with
  | none => rfl
  | some _ => rw [e] at this; simp at this
theorem choose_lo {S S' : DS} {L : Lot} {c : Ln} (h : chooseD S L c = some S') : S'.lo = put S.lo L c := by
  unfold chooseD at h
  split at h
  · cases h
  · cases h; rfl
  · split at h
    · cases h; rfl
    · cases h
/-- what a turn of the run leads to -/
theorem good_step {n k : Nat} {R0 R : Rst} {S : DS} {ms : List (Lot × Int)} (o : RstOk n R0) (g : good n (k + 1) S = true) (i : NumInv R0 R ms S.lo) {L : Lot} {l : List Lot} (h : openOf S.tops S.lo = L :: l) :
    outOf R L ≠ [] ∧ L ∈ lotsOf n ∧ ∃ S', chooseD S L (pickOf R L) = some S' ∧ good n k S' = true ∧ NumInv R0 (lowered R L) (ms ++ [(L, mostOf R L)]) S'.lo := by
  rw [good, h] at g
  simp only [Bool.and_eq_true, Bool.or_eq_true, decide_eq_true_eq, List.all_eq_true] at g
  obtain ⟨⟨g1, g2⟩, g3⟩ := g
  have ho := out_ne o i.keys g1
  have hp := out_lines o i.keys (pick_ok ho).1
  have g4 := g3 _ hp
  cases e : chooseD S L (pickOf R L) with
  | none => rw [e] at g4; cases g4
  | some S' =>
    rw [e] at g4
    refine ⟨ho, g1, S', rfl, g4, ?_⟩
    rw [choose_lo e]
    exact num_step o.nd i (open_look h) g2 ho
theorem run_ok {n : Nat} {R0 : Rst} (o : RstOk n R0) : ∀ (k : Nat) (R : Rst) (S : DS) (ms : List (Lot × Int)), good n k S = true → NumInv R0 R ms S.lo → (∀ p ∈ ms, p.1 ∈ lotsOf n) → ∃ R' S' ms', runGo k R S = some (R', S') ∧ finalOk n S' = true ∧ NumInv R0 R' ms' S'.lo ∧ ∀ p ∈ ms', p.1 ∈ lotsOf n
  | 0, R, S, ms, g, i, hl => by simp [good] at g
  | k + 1, R, S, ms, g, i, hl => by
    cases e : openOf S.tops S.lo with
    | nil =>
      refine ⟨R, S, ms, by rw [runGo, e], ?_, i, hl⟩
      rw [good, e] at g
      exact g
    | cons L l =>
      obtain ⟨h1, h2, S', h3, h4, h5⟩ := good_step o g i e
      obtain ⟨R', S2, ms', a, b, c⟩ := run_ok o k _ S' _ h4 h5 fun p hp => by
        rcases List.mem_append.mp hp with hp | hp
        · exact hl p hp
        · rw [List.mem_singleton.mp hp]; exact h2
      refine ⟨R', S2, ms', ?_, b, c⟩
      rw [runGo, e]
      simp only [h3]
      exact a
theorem num0 {R0 : Rst} : NumInv R0 R0 [] [] := ⟨rfl, fun e _ => by simp [tot], fun p hp => (by cases hp), fun p hp => (by cases hp), fun e _ _ h => (by simp [look] at h), rfl, fun p hp => (by cases hp)⟩
/-! ## sums over a choice of goals -/
theorem sum_map_add {α : Type} {f g : α → Int} : ∀ l : List α, (l.map fun x => f x + g x).sum = (l.map f).sum + (l.map g).sum
  | [] => rfl
  | x :: l => by simp only [List.map_cons, List.sum_cons, sum_map_add l]; omega
theorem sum_if {α : Type} {p : α → Bool} {m : Int} : ∀ l : List α, (l.map fun x => if p x then m else 0).sum = m * ((l.filter p).length : Nat)
  | [] => by simp
  | x :: l => by
    rw [List.map_cons, List.sum_cons, sum_if l, List.filter_cons]
    cases p x
    · simp
    · simp only [if_true, List.length_cons]
      have : ((((l.filter p).length + 1 : Nat)) : Int) = ((l.filter p).length : Nat) + 1 := by omega
      rw [this, Int.mul_add]; omega
def cI (gs : List Int) (L : Lot) : Int := ((cnt gs L : Nat) : Int)
def lnAt (gs : List Int) (h : Nat) : Ln := ((h : Int), gs.getD h (-1))
theorem sum_tot {gs : List Int} : ∀ ms : List (Lot × Int), ((List.range gs.length).map fun h => tot ms (lnAt gs h)).sum = (ms.map fun p => p.2 * cI gs p.1).sum
  | [] => by
    simp only [tot, List.map_nil, List.sum_nil]
    induction (List.range gs.length) with
    | nil => rfl
    | cons a l ih => rw [List.map_cons, List.sum_cons, ih]; rfl
  | p :: ms => by
    have e : ∀ h, tot (p :: ms) (lnAt gs h) = (if lv (lnAt gs h) p.1 then p.2 else 0) + tot ms (lnAt gs h) := fun h => by
      unfold tot; rw [List.map_cons, List.sum_cons]
    simp only [e]
    rw [sum_map_add, sum_if, sum_tot ms, List.map_cons, List.sum_cons]
    rfl
theorem sum_le {α : Type} {f g : α → Int} : ∀ {l : List α}, (∀ x ∈ l, f x ≤ g x) → (l.map f).sum ≤ (l.map g).sum
  | [], _ => Int.le_refl _
  | x :: l, h => by
    rw [List.map_cons, List.map_cons, List.sum_cons, List.sum_cons]
    have := h x List.mem_cons_self
    have := sum_le (l := l) fun y hy => h y (List.mem_cons_of_mem _ hy)
    omega
theorem sum_congr {α : Type} {f g : α → Int} {l : List α} (h : ∀ x ∈ l, f x = g x) : (l.map f).sum = (l.map g).sum := by
  rw [List.map_congr_left h]
/-- the end of a run: its forest is a heaviest one -/
structure Heavy (n : Nat) (R0 : Rst) (found : List (Int × Ln)) : Prop where
  ln : ∀ h, h < n → ∃ g, look found (h : Int) = some ((h : Int), g) ∧ ((h : Int), g) ∈ R0.map (·.1)
  home : goesHome (foundGoals n found) = true
  best : ∀ ds : List Int, ds.length = n → (∀ d ∈ ds, -3 ≤ d ∧ d < n) → goesHome ds = true → (∀ h, h < n → lnAt (ds.map clip) h ∈ R0.map (·.1)) → ((List.range n).map fun h => iv R0 (lnAt (ds.map clip) h)).sum ≤ ((List.range n).map fun h => iv R0 ((look found ((h : Nat) : Int)).getD (0, 0))).sum
theorem heavy_ok {n : Nat} {R0 R : Rst} {S : DS} {ms : List (Lot × Int)} (h1 : 1 ≤ n) (h3 : n ≤ 3) (f : finalOk n S = true) (i : NumInv R0 R ms S.lo) (hl : ∀ p ∈ ms, p.1 ∈ lotsOf n) : ∃ found, chosenOf S = some found ∧ Heavy n R0 found := by
  unfold finalOk at f
  cases e : chosenOf S with
  | none => rw [e] at f; cases f
  | some found =>
    rw [e] at f
    simp only [Bool.and_eq_true, List.all_eq_true, List.mem_range, List.any_eq_true, decide_eq_true_eq] at f
    obtain ⟨⟨⟨f0, f1⟩, f2⟩, f3⟩ := f
    have ln : ∀ h, h < n → ∃ g, look found (h : Int) = some ((h : Int), g) ∧ ∃ p ∈ S.lo, p.2 = ((h : Int), g) := fun h hh => by
      have a := f1 h hh
      cases e2 : look found (h : Int) with
      | none => rw [e2] at a; cases a
      | some line =>
        rw [e2] at a
        simp only [Bool.and_eq_true, List.any_eq_true, decide_eq_true_eq] at a
        obtain ⟨a1, p, a2, a3⟩ := a
        refine ⟨line.2, ?_, p, a2, ?_⟩
        · rw [← a1]
        · rw [← a1, a3]
    have hlen : (foundGoals n found).length = n := by unfold foundGoals; rw [List.length_map, List.length_range]
    refine ⟨found, rfl, ⟨fun h hh => ?_, f2, fun ds d1 d2 d3 d4 => ?_⟩⟩
    · obtain ⟨g, g1, p, g2, g3⟩ := ln h hh
      exact ⟨g, g1, g3 ▸ (i.zero p g2).1⟩
    · have hm := home_ok h1 h3 d1 d2
      unfold homeOk at hm
      simp only [Bool.and_eq_true, Bool.or_eq_true, List.all_eq_true, decide_eq_true_eq, d3, Bool.not_true, Bool.false_eq_true, false_or, List.mem_range, Bool.not_eq_true', decide_eq_false_iff_not] at hm
      obtain ⟨m1, m2, m3⟩ := hm
      have dl : (ds.map clip).length = n := by rw [List.length_map, d1]
      -- the forest given
      have a1 : ((List.range n).map fun h => iv R0 (lnAt (ds.map clip) h)).sum ≤ ((List.range n).map fun h => tot ms (lnAt (ds.map clip) h)).sum := sum_le fun h hh => by
        have hh := List.mem_range.mp hh
        have k := d4 h hh
        rw [i.eq _ k]
        have ne : (lnAt (ds.map clip) h).1 ≠ (lnAt (ds.map clip) h).2 := fun z => by
          have z : (h : Int) = (ds.map clip).getD h (-1) := z
          have hd : h < ds.length := by omega
          have e1 : (ds.map clip).getD h (-1) = clip (ds.getD h (-1)) := by
            rw [List.getD_eq_getElem?_getD, List.getElem?_map, List.getD_eq_getElem?_getD, List.getElem?_eq_getElem hd]; rfl
          rw [e1] at z
          refine m3 h hh ?_
          unfold clip at z
          omega
        have := i.low _ k ne (f0 h hh)
        omega
      have t1 := sum_tot (gs := ds.map clip) ms
      rw [dl] at t1
      have a2 : (ms.map fun p => p.2 * cI (ds.map clip) p.1).sum ≤ (ms.map fun p => p.2).sum := sum_le fun p hp => by
        obtain ⟨c1, c2⟩ := m2 p.1 (hl p hp)
        by_cases z : p.1.length = 1
        · have c2 : cnt (ds.map clip) p.1 = 1 := by
            rcases c2 with c2 | c2
            · exact absurd z c2
            · exact c2
          unfold cI
          rw [c2]; simp
        · have b := i.big p hp z
          have h4 : (0 : Int) ≤ cI (ds.map clip) p.1 - 1 := by unfold cI; omega
          have h5 : p.2 * (cI (ds.map clip) p.1 - 1) ≤ 0 := Int.mul_nonpos_of_nonpos_of_nonneg b h4
          rw [Int.mul_sub] at h5
          omega
      -- the forest found
      have e1 : ∀ h, h < n → lnAt (foundGoals n found) h = (look found (h : Int)).getD (0, 0) := fun h hh => by
        obtain ⟨g, g1, _⟩ := ln h hh
        unfold lnAt foundGoals
        rw [List.getD_eq_getElem?_getD, List.getElem?_map, List.getElem?_range hh, g1]
        show ((h : Int), ((look found (h : Int)).getD (0, 0)).2) = _
        rw [g1]; rfl
      have b1 : ((List.range n).map fun h => iv R0 ((look found ((h : Nat) : Int)).getD (0, 0))).sum = ((List.range n).map fun h => tot ms (lnAt (foundGoals n found) h)).sum := sum_congr fun h hh => by
        have hh := List.mem_range.mp hh
        obtain ⟨g, g1, p, g2, g3⟩ := ln h hh
        rw [e1 h hh, g1]
        show iv R0 ((h : Int), g) = tot ms ((h : Int), g)
        rw [← g3, i.eq _ (i.zero p g2).1, (i.zero p g2).2.1]; omega
      have t2 := sum_tot (gs := foundGoals n found) ms
      rw [hlen] at t2
      have b2 : (ms.map fun p => p.2 * cI (foundGoals n found) p.1).sum = (ms.map fun p => p.2).sum := sum_congr fun p hp => by
        have : p.1 ∈ S.lo.map (·.1) := by rw [← i.mslo]; exact List.mem_map.mpr ⟨p, hp, rfl⟩
        obtain ⟨q, hq, e3⟩ := List.mem_map.mp this
        have := f3 q hq
        unfold cI
        rw [← e3, this]; simp
      omega
end LD
set_option maxRecDepth 100000
set_option maxHeartbeats 400000
/-! LdHv2: the best step of each line; the heaviest forest of steps. -/
namespace LD
abbrev Bst := List (Ln × List Int)
def lineOf (door : List Int → Int) (s : List Int) : Ln := (s.getD 0 0, clip (door s))
/-- a step is seen -/
def lnStep (door : List Int → Int) (W : List Int → Int) (p : Bst × Rst) (s : List Int) : Bst × Rst :=
  if !(look p.2 (lineOf door s)).isSome || decide (iv p.2 (lineOf door s) < W s) then (put p.1 (lineOf door s) s, put p.2 (lineOf door s) (W s)) else p
def bestRest (door : List Int → Int) (W : List Int → Int) (ss : List (List Int)) : Bst × Rst := ss.foldl (lnStep door W) ([], [])
structure LnInv (door : List Int → Int) (W : List Int → Int) (ss : List (List Int)) (p : Bst × Rst) : Prop where
  nd : (p.2.map (·.1)).Nodup
  nb : (p.1.map (·.1)).Nodup
  len : p.2.length ≤ ss.length
  leb : p.1.length ≤ ss.length
  has : ∀ s ∈ ss, ∃ v, look p.2 (lineOf door s) = some v ∧ W s ≤ v
  best : ∀ e v, look p.2 e = some v → ∃ s ∈ ss, look p.1 e = some s ∧ lineOf door s = e ∧ W s = v
theorem ln_step {door W : List Int → Int} {ss : List (List Int)} {p : Bst × Rst} {s : List Int} (i : LnInv door W ss p) : LnInv door W (ss ++ [s]) (lnStep door W p s) := by
  unfold lnStep
  by_cases c : (!(look p.2 (lineOf door s)).isSome || decide (iv p.2 (lineOf door s) < W s)) = true
  · rw [if_pos c]
    refine ⟨put_nodup i.nd, put_nodup i.nb, ?_, ?_, fun t ht => ?_, fun e v h => ?_⟩
    · have := put_len (m := p.2) (k := lineOf door s) (v := W s)
      have := i.len
      simp only [List.length_append, List.length_cons, List.length_nil]; omega
    · have := put_len (m := p.1) (k := lineOf door s) (v := s)
      have := i.leb
      simp only [List.length_append, List.length_cons, List.length_nil]; omega
    · show ∃ v, look (put p.2 (lineOf door s) (W s)) (lineOf door t) = some v ∧ W t ≤ v
      rw [look_put]
      by_cases z : lineOf door s = lineOf door t
      · rw [if_pos z]
        refine ⟨_, rfl, ?_⟩
        rcases List.mem_append.mp ht with ht | ht
        · obtain ⟨v, v1, v2⟩ := i.has t ht
          rw [z] at c
          rw [v1] at c
          simp only [Option.isSome_some, Bool.not_true, Bool.false_or, decide_eq_true_eq] at c
          unfold iv at c
          rw [v1] at c
          simp only [Option.getD_some] at c
          omega
        · rw [List.mem_singleton.mp ht]; exact Int.le_refl _
      · rw [if_neg z]
        rcases List.mem_append.mp ht with ht | ht
        · exact i.has t ht
        · exact absurd (by rw [List.mem_singleton.mp ht]) z
    · have h : look (put p.2 (lineOf door s) (W s)) e = some v := h
      show ∃ t ∈ ss ++ [s], look (put p.1 (lineOf door s) s) e = some t ∧ lineOf door t = e ∧ W t = v
      rw [look_put] at h ⊢
      by_cases z : lineOf door s = e
      · rw [if_pos z] at h ⊢
        exact ⟨s, by simp, rfl, z, Option.some.inj h⟩
      · rw [if_neg z] at h ⊢
        obtain ⟨t, t1, t2⟩ := i.best e v h
        exact ⟨t, List.mem_append_left _ t1, t2⟩
  · rw [if_neg c]
    have c1 : ∃ v, look p.2 (lineOf door s) = some v ∧ W s ≤ v := by
      cases e : look p.2 (lineOf door s) with
      | none => rw [e] at c; simp at c
      | some v =>
        rw [e] at c
        simp only [Option.isSome_some, Bool.not_true, Bool.false_or, decide_eq_true_eq] at c
        unfold iv at c
        rw [e] at c
        simp only [Option.getD_some] at c
        exact ⟨v, rfl, by omega⟩
    refine ⟨i.nd, i.nb, ?_, ?_, fun t ht => ?_, fun e v h => ?_⟩
    · have := i.len
      simp only [List.length_append, List.length_cons, List.length_nil]; omega
    · have := i.leb
      simp only [List.length_append, List.length_cons, List.length_nil]; omega
    · rcases List.mem_append.mp ht with ht | ht
      · exact i.has t ht
      · rw [List.mem_singleton.mp ht]; exact c1
    · obtain ⟨t, t1, t2⟩ := i.best e v h
      exact ⟨t, List.mem_append_left _ t1, t2⟩
theorem ln_inv {door W : List Int → Int} : ∀ ss : List (List Int), LnInv door W ss (bestRest door W ss) := by
  have key : ∀ (ts ss : List (List Int)) (p : Bst × Rst), LnInv door W ss p → LnInv door W (ss ++ ts) (ts.foldl (lnStep door W) p) := by
    intro ts
    induction ts with
    | nil => intro ss p i; rw [List.append_nil]; exact i
    | cons t ts ih =>
      intro ss p i
      have := ih (ss ++ [t]) _ (ln_step i)
      rw [List.append_assoc] at this
      exact this
  intro ss
  have := key ss [] ([], []) ⟨List.nodup_nil, List.nodup_nil, Nat.le_refl _, Nat.le_refl _, fun s hs => (by cases hs), fun e v h => (by simp [look] at h)⟩
  rw [List.nil_append] at this
  exact this
def forestOf (n : Nat) (best : Bst) (found : List (Int × Ln)) : List (List Int) := (List.range n).map fun (h : Nat) => (look best ((look found (h : Int)).getD (0, 0))).getD []
def endOf (n : Nat) (R0 : Rst) : Option (List (Int × Ln)) := (runGo 6 R0 (start0 n)).bind fun p => chosenOf p.2
def heavyOf (n : Nat) (door W : List Int → Int) (ss : List (List Int)) : List (List Int) := forestOf n (bestRest door W ss).1 ((endOf n (bestRest door W ss).2).getD [])
/-- steps enough -/
structure StepsOk (n : Nat) (door : List Int → Int) (ss : List (List Int)) : Prop where
  h1 : 1 ≤ n
  h3 : n ≤ 3
  inb : ∀ s ∈ ss, 0 ≤ s.getD 0 0 ∧ s.getD 0 0 < (n : Int) ∧ -3 ≤ door s ∧ door s < (n : Int)
  ex : ∀ L ∈ lotsOf n, ∃ s ∈ ss, lv (lineOf door s) L = true
theorem clip_le {d n : Int} (h : d < n) (h0 : 0 ≤ n) : -1 ≤ clip d ∧ clip d < n := by unfold clip; omega
theorem look_some_of {κ α : Type} [DecidableEq κ] {m : List (κ × α)} {k : κ} (h : k ∈ m.map (·.1)) : ∃ v, look m k = some v := by
  cases e : look m k with
  | none => exact absurd h (look_none.mp e)
  | some v => exact ⟨v, rfl⟩
theorem look_key {κ α : Type} [DecidableEq κ] {m : List (κ × α)} {k : κ} {v : α} (h : look m k = some v) : k ∈ m.map (·.1) := List.mem_map.mpr ⟨_, look_mem h, rfl⟩
theorem rst_ok {n : Nat} {door W : List Int → Int} {ss : List (List Int)} (o : StepsOk n door ss) : RstOk n (bestRest door W ss).2 := by
  have i := ln_inv (door := door) (W := W) ss
  refine ⟨i.nd, fun e he => ?_, fun L hL => ?_⟩
  · obtain ⟨v, hv⟩ := look_some_of he
    obtain ⟨s, s1, s2, s3, s4⟩ := i.best e v hv
    obtain ⟨b1, b2, b3, b4⟩ := o.inb s s1
    rw [← s3]
    have := clip_le b4 (by omega)
    exact ⟨b1, b2, this⟩
  · obtain ⟨s, s1, s2⟩ := o.ex L hL
    obtain ⟨v, v1, v2⟩ := i.has s s1
    exact ⟨_, look_key v1, s2⟩
/-- a choice of steps, one for each house -/
structure Choice (n : Nat) (ss F : List (List Int)) : Prop where
  len : F.length = n
  mem : ∀ s ∈ F, s ∈ ss
  own : ∀ (h : Nat) s, F[h]? = some s → s.getD 0 0 = (h : Int)
theorem sum_range {α : Type} {f : α → Int} {d : α} : ∀ (F : List α), (F.map f).sum = ((List.range F.length).map fun h => f (F.getD h d)).sum := by
  intro F
  have : F = (List.range F.length).map fun h => F.getD h d := by
    apply List.ext_getElem?
    intro i
    rw [List.getElem?_map]
    by_cases h : i < F.length
    · rw [List.getElem?_range h]
      simp only [Option.map_some, List.getD_eq_getElem?_getD, List.getElem?_eq_getElem h, Option.getD_some]
    · rw [List.getElem?_eq_none (by omega), List.getElem?_eq_none (by rw [List.length_range]; omega)]; rfl
  conv => lhs; rw [this]
  rw [List.map_map]; rfl
theorem run_found {n : Nat} {door W : List Int → Int} {ss : List (List Int)} (o : StepsOk n door ss) : ∃ found, endOf n (bestRest door W ss).2 = some found ∧ Heavy n (bestRest door W ss).2 found := by
  have ro := rst_ok (W := W) o
  obtain ⟨R', S', ms', a, b, c, d⟩ := run_ok ro 6 _ (start0 n) [] (good_ok o.h1 o.h3) num0 fun p hp => by cases hp
  obtain ⟨found, f1, f2⟩ := heavy_ok o.h1 o.h3 b c d
  exact ⟨found, by unfold endOf; rw [a]; exact f1, f2⟩
theorem heavy_forest {n : Nat} {door W : List Int → Int} {ss : List (List Int)} (o : StepsOk n door ss) : Choice n ss (heavyOf n door W ss) ∧ goesHome ((heavyOf n door W ss).map door) = true ∧
    ∀ F, Choice n ss F → goesHome (F.map door) = true → (F.map W).sum ≤ ((heavyOf n door W ss).map W).sum := by
  have i := ln_inv (door := door) (W := W) ss
  obtain ⟨found, e, hv⟩ := run_found (W := W) o
  have eh : heavyOf n door W ss = forestOf n (bestRest door W ss).1 found := by unfold heavyOf; rw [e]; rfl
  rw [eh]
  generalize hR : (bestRest door W ss).2 = R0 at *
  generalize hB : (bestRest door W ss).1 = best at *
  have st : ∀ h, h < n → ∃ s g, look found (h : Int) = some ((h : Int), g) ∧ (forestOf n best found)[h]? = some s ∧ s ∈ ss ∧ lineOf door s = ((h : Int), g) ∧ W s = iv R0 ((h : Int), g) := fun h hh => by
    obtain ⟨g, g1, g2⟩ := hv.ln h hh
    obtain ⟨v, v1⟩ := look_some_of g2
    obtain ⟨s, s1, s2, s3, s4⟩ := i.best _ v (by rw [hR]; exact v1)
    rw [hB] at s2
    refine ⟨s, g, g1, ?_, s1, s3, ?_⟩
    · unfold forestOf
      rw [List.getElem?_map, List.getElem?_range hh]
      simp only [Option.map_some, g1, Option.getD_some, s2]
    · unfold iv; rw [v1]; exact s4
  have fl : (forestOf n best found).length = n := by unfold forestOf; rw [List.length_map, List.length_range]
  have ch : Choice n ss (forestOf n best found) := by
    refine ⟨fl, fun s hs => ?_, fun h s hs => ?_⟩
    · obtain ⟨j, hj⟩ := List.getElem?_of_mem hs
      have hjn : j < n := by
        have := (List.getElem?_eq_some_iff.mp hj).1
        omega
      obtain ⟨t, g, _, t2, t3, _⟩ := st j hjn
      rw [hj] at t2
      cases t2; exact t3
    · have hjn : h < n := by
        have := (List.getElem?_eq_some_iff.mp hs).1
        omega
      obtain ⟨t, g, _, t2, t3, t4, _⟩ := st h hjn
      rw [hs] at t2
      cases t2
      exact congrArg Prod.fst t4
  have inbF : ∀ F, Choice n ss F → (F.map door).length = n ∧ ∀ d ∈ F.map door, -3 ≤ d ∧ d < (n : Int) := fun F c => by
    refine ⟨by rw [List.length_map]; exact c.len, fun d hd => ?_⟩
    obtain ⟨s, s1, rfl⟩ := List.mem_map.mp hd
    obtain ⟨_, _, b3, b4⟩ := o.inb s (c.mem s s1)
    exact ⟨b3, b4⟩
  have goals : ((forestOf n best found).map door).map clip = foundGoals n found := by
    apply List.ext_getElem?
    intro j
    by_cases hj : j < n
    · obtain ⟨t, g, t1, t2, t3, t4, _⟩ := st j hj
      unfold foundGoals
      rw [List.getElem?_map, List.getElem?_map, t2, List.getElem?_map, List.getElem?_range hj]
      simp only [Option.map_some, t1, Option.getD_some]
      have := congrArg Prod.snd t4
      exact congrArg some this
    · rw [List.getElem?_eq_none (by rw [List.length_map, List.length_map, fl]; omega), List.getElem?_eq_none (by unfold foundGoals; rw [List.length_map, List.length_range]; omega)]
  refine ⟨ch, ?_, fun F c hF => ?_⟩
  · obtain ⟨a, b⟩ := inbF _ ch
    have hm := home_ok o.h1 o.h3 a b
    unfold homeOk at hm
    simp only [Bool.and_eq_true, decide_eq_true_eq] at hm
    rw [hm.1, goals]
    exact hv.home
  · obtain ⟨a, b⟩ := inbF F c
    have lnF : ∀ h, h < n → lnAt ((F.map door).map clip) h = lineOf door (F.getD h []) ∧ F.getD h [] ∈ ss := fun h hh => by
      have hl : h < F.length := by rw [c.len]; exact hh
      have e1 : F[h]? = some F[h] := List.getElem?_eq_getElem hl
      have e2 : F.getD h [] = F[h] := by rw [List.getD_eq_getElem?_getD, e1]; rfl
      rw [e2]
      refine ⟨?_, c.mem _ (List.getElem_mem hl)⟩
      unfold lnAt lineOf
      rw [List.getD_eq_getElem?_getD, List.getElem?_map, List.getElem?_map, e1, ← c.own h _ e1]
      rfl
    have m := hv.best (F.map door) a b hF fun h hh => by
      obtain ⟨l1, l2⟩ := lnF h hh
      rw [l1]
      obtain ⟨v, v1, _⟩ := i.has _ l2
      rw [hR] at v1
      exact look_key v1
    have x1 : (F.map W).sum ≤ ((List.range n).map fun h => iv R0 (lnAt ((F.map door).map clip) h)).sum := by
      rw [sum_range (d := []) F, c.len]
      refine sum_le fun h hh => ?_
      have hh := List.mem_range.mp hh
      obtain ⟨l1, l2⟩ := lnF h hh
      rw [l1]
      obtain ⟨v, v1, v2⟩ := i.has _ l2
      rw [hR] at v1
      unfold iv; rw [v1]; exact v2
    have x2 : ((List.range n).map fun h => iv R0 ((look found ((h : Nat) : Int)).getD (0, 0))).sum = ((forestOf n best found).map W).sum := by
      rw [sum_range (d := []) (forestOf n best found), fl]
      refine sum_congr fun h hh => ?_
      have hh := List.mem_range.mp hh
      obtain ⟨t, g, t1, t2, t3, t4, t5⟩ := st h hh
      rw [t1, List.getD_eq_getElem?_getD, t2]
      exact t5.symm
    omega
end LD
set_option maxRecDepth 100000
set_option maxHeartbeats 400000
/-! LdHash: hashes of names and of steps differ. -/
namespace LD
open PySem PyProof.Rows L2
def hOf (ns : List Int) : Int := reduceHash (Builtin.Tuple.tupleHashOf (ns.map hashInt))
theorem hash_keyL {P : Program} {w : World} (ns : List Int) : (tupleKind (mixKind P w)).hash (keyL ns) = hOf ns := by
  show tupleKeyHash (mixKind P w) (keyL ns) = _
  unfold tupleKeyHash hOf
  congr 2
  unfold keyL
  rw [List.map_map]
  rfl
def names12 : List Nm := tupsOf 1 [0, 1, 2] |>.flatMap fun a => (tupsOf 1 [-1, 0, 1, 2]).map fun b => a ++ b
def steps27 : List Nm := tupsOf 3 [0, 1, 2]
theorem hash_names : (names12.all fun a => names12.all fun b => decide (hOf a ≠ hOf b) || decide (a = b)) = true := by decide +kernel
theorem hash_steps : (steps27.all fun a => steps27.all fun b => decide (hOf a ≠ hOf b) || decide (a = b)) = true := by decide +kernel
theorem nodup_map_on {α β : Type} {f : α → β} : ∀ {l : List α}, (∀ a ∈ l, ∀ b ∈ l, f a = f b → a = b) → l.Nodup → (l.map f).Nodup
  | [], _, _ => List.nodup_nil
  | a :: l, h, n => by
    obtain ⟨n1, n2⟩ := List.nodup_cons.mp n
    rw [List.map_cons]
    refine List.nodup_cons.mpr ⟨fun z => ?_, nodup_map_on (fun x hx y hy => h x (List.mem_cons_of_mem _ hx) y (List.mem_cons_of_mem _ hy)) n2⟩
    obtain ⟨b, b1, b2⟩ := List.mem_map.mp z
    exact n1 (h b (List.mem_cons_of_mem _ b1) a List.mem_cons_self b2 ▸ b1)
theorem hashOk_of {P : Program} {w : World} {U ks : List Nm} (hU : (U.all fun a => U.all fun b => decide (hOf a ≠ hOf b) || decide (a = b)) = true) (n : ks.Nodup) (h : ∀ k ∈ ks, k ∈ U) : HashOk P w ks := by
  unfold HashOk
  rw [List.map_congr_left (g := hOf) fun a _ => hash_keyL a]
  refine nodup_map_on (fun a ha b hb e => ?_) n
  have := List.all_eq_true.mp (List.all_eq_true.mp hU a (h a ha)) b (h b hb)
  simp only [Bool.or_eq_true, decide_eq_true_eq] at this
  rcases this with t | t
  · exact absurd e t
  · exact t
theorem mem_names {h s : Int} (h0 : 0 ≤ h) (h3 : h < 3) (s0 : -1 ≤ s) (s3 : s < 3) : [h, s] ∈ names12 := by
  have a : h = 0 ∨ h = 1 ∨ h = 2 := by omega
  have b : s = -1 ∨ s = 0 ∨ s = 1 ∨ s = 2 := by omega
  rcases a with rfl | rfl | rfl <;> rcases b with rfl | rfl | rfl | rfl <;> decide +kernel
theorem mem_steps27 {h s n : Int} (h0 : 0 ≤ h) (h3 : h < 3) (s0 : 0 ≤ s) (s3 : s < 3) (n0 : 0 ≤ n) (n3 : n < 3) : [h, s, n] ∈ steps27 := by
  have a : h = 0 ∨ h = 1 ∨ h = 2 := by omega
  have b : s = 0 ∨ s = 1 ∨ s = 2 := by omega
  have c : n = 0 ∨ n = 1 ∨ n = 2 := by omega
  rcases a with rfl | rfl | rfl <;> rcases b with rfl | rfl | rfl <;> rcases c with rfl | rfl | rfl <;> decide +kernel
end LD
set_option maxRecDepth 100000
set_option maxHeartbeats 400000
/-! LdTab: the equations of a right web can be solved; the solution is what was planted. -/
namespace LD
open PySem PyProof.Rows L2
def namesAt (h : Nat) (d : List (List (Int × Int))) : List Nm := [(h : Int), -1] :: (List.range (d.length - 1)).map fun (s : Nat) => [(h : Int), (s : Int) + 1]
def namesOf (D : Dl) : List Nm := (List.range D.length).flatMap fun h => namesAt h ((D[h]?).getD [])
theorem names_len {D : Dl} (o : Small D) : (namesOf D).length ≤ 9 := by
  have h1 := fm_len (l := List.range D.length) (f := fun h => namesAt h ((D[h]?).getD [])) (m := 3) fun h hs => by
    unfold namesAt
    rw [List.length_cons, List.length_map, List.length_range]
    cases e : D[h]? with
    | none => simp
    | some d =>
      have := o.dl d (List.mem_of_getElem? e)
      simp only [Option.getD_some]
      omega
  rw [List.length_range] at h1
  have := o.hl
  unfold namesOf
  omega
theorem names_mem {D : Dl} {k : Nm} : k ∈ namesOf D ↔ ∃ (h : Nat) (d : List (List (Int × Int))), D[h]? = some d ∧ (k = [(h : Int), -1] ∨ ∃ s : Nat, s + 1 < d.length ∧ k = [(h : Int), (s : Int) + 1]) := by
  unfold namesOf
  rw [List.mem_flatMap]
  constructor
  · rintro ⟨h, h1, h2⟩
    have h1 := List.mem_range.mp h1
    have e : D[h]? = some D[h] := List.getElem?_eq_getElem h1
    rw [e] at h2
    refine ⟨h, _, e, ?_⟩
    unfold namesAt at h2
    rcases List.mem_cons.mp h2 with h2 | h2
    · exact .inl h2
    · obtain ⟨s, s1, s2⟩ := List.mem_map.mp h2
      have s1 := List.mem_range.mp s1
      simp only [Option.getD_some] at s1
      exact .inr ⟨s, by omega, s2.symm⟩
  · rintro ⟨h, d, e, k1⟩
    refine ⟨h, List.mem_range.mpr (List.getElem?_eq_some_iff.mp e).1, ?_⟩
    rw [e]
    unfold namesAt
    rw [List.mem_cons]
    rcases k1 with k1 | ⟨s, s1, s2⟩
    · exact .inl k1
    · exact .inr (List.mem_map.mpr ⟨s, List.mem_range.mpr (by simp only [Option.getD_some]; omega), s2.symm⟩)
theorem names_12 {D : Dl} (o : Small D) {k : Nm} (h : k ∈ namesOf D) : k ∈ names12 := by
  obtain ⟨h, d, e, k1⟩ := names_mem.mp h
  have h1 := (List.getElem?_eq_some_iff.mp e).1
  have h2 := o.hl
  have h3 := o.dl d (List.mem_of_getElem? e)
  rcases k1 with rfl | ⟨s, s1, rfl⟩
  · exact mem_names (by omega) (by omega) (by omega) (by omega)
  · exact mem_names (by omega) (by omega) (by omega) (by omega)
/-! ## rows -/
theorem val_fold {k : Nm} : ∀ (ps : List Part) (m : Row), val (ps.foldl addPart m) k = val m k + (ps.map fun p => if p.1 = k then (p.2 : Rat) else 0).sum
  | [], m => by simp; grind
  | p :: ps, m => by
    rw [List.foldl_cons, val_fold ps, List.map_cons, List.sum_cons, val_addPart]
    by_cases h : p.1 = k
    · rw [if_pos h, if_pos h, h]; grind
    · rw [if_neg h, if_neg h]; grind
theorem val_rowOf {ps : List Part} {k : Nm} : val (rowOf ps) k = (ps.map fun p => if p.1 = k then (p.2 : Rat) else 0).sum := by
  unfold rowOf
  rw [val_fold]
  show (0 : Rat) + _ = _
  grind
theorem row_one {h s : Nat} {door later : Int} (k : Nm) : ∃ R : Int, R.natAbs ≤ 1 ∧ val (rowOf (partsOf h s door later)) k = (R : Rat) := by
  rw [val_rowOf]
  have e1 : ((1 : Int) : Rat) = 1 := rfl
  have e2 : ((-1 : Int) : Rat) = -1 := rfl
  have e0 : ((0 : Int) : Rat) = 0 := rfl
  -- the worths' part and the leads' part
  have a : ∃ R : Int, R.natAbs ≤ 1 ∧ (if [(h : Int), -1] = k then (1 : Rat) else 0) + (if 0 ≤ door then (if [door, -1] = k then (-1 : Rat) else 0) else 0) = (R : Rat) := by
    split <;> split <;> (try split) <;> first
      | exact ⟨0, by decide, by rw [e0]; grind⟩
      | exact ⟨1, by decide, by rw [e1]; grind⟩
      | exact ⟨-1, by decide, by rw [e2]; grind⟩
  have b : ∃ R : Int, R.natAbs ≤ 1 ∧ (if 0 < later then (if [(h : Int), later] = k then (1 : Rat) else 0) else 0) + (if 0 < (s : Int) then (if [(h : Int), (s : Int)] = k then (-1 : Rat) else 0) else 0) = (R : Rat) := by
    (try split) <;> (try split) <;> (try split) <;> (try split) <;> first
      | exact ⟨0, by decide, by rw [e0]; grind⟩
      | exact ⟨1, by decide, by rw [e1]; grind⟩
      | exact ⟨-1, by decide, by rw [e2]; grind⟩
  have c : ((partsOf h s door later).map fun p => if p.1 = k then (p.2 : Rat) else 0).sum = ((if [(h : Int), -1] = k then (1 : Rat) else 0) + (if 0 ≤ door then (if [door, -1] = k then (-1 : Rat) else 0) else 0)) + ((if 0 < later then (if [(h : Int), later] = k then (1 : Rat) else 0) else 0) + (if 0 < (s : Int) then (if [(h : Int), (s : Int)] = k then (-1 : Rat) else 0) else 0)) := by
    unfold partsOf
    split <;> split <;> split <;> simp [e1, e2] <;> (try grind)
  rw [c]
  by_cases z : ∃ x : Int, k = [x, -1]
  · obtain ⟨x, rfl⟩ := z
    obtain ⟨R, r1, r2⟩ := a
    refine ⟨R, r1, ?_⟩
    rw [r2]
    have b1 : (if 0 < later then (if [(h : Int), later] = [x, -1] then (1 : Rat) else 0) else 0) = 0 := by
      split
      · rw [if_neg]; intro y; simp at y; omega
      · rfl
    have b2 : (if 0 < (s : Int) then (if [(h : Int), (s : Int)] = [x, -1] then (-1 : Rat) else 0) else 0) = 0 := by
      split
      · rw [if_neg]; intro y; simp at y
      · rfl
    rw [b1, b2]; grind
  · obtain ⟨R, r1, r2⟩ := b
    refine ⟨R, r1, ?_⟩
    rw [r2]
    have b1 : (if [(h : Int), -1] = k then (1 : Rat) else 0) = 0 := if_neg fun y => z ⟨_, y.symm⟩
    have b2 : (if 0 ≤ door then (if [door, -1] = k then (-1 : Rat) else 0) else 0) = 0 := by
      split
      · exact if_neg fun y => z ⟨_, y.symm⟩
      · rfl
    rw [b1, b2]; grind
theorem rowOf_keys (ps : List Part) : ((rowOf ps).map (·.1)).Nodup ∧ (∀ p ∈ rowOf ps, ∃ q ∈ ps, q.1 = p.1) ∧ (rowOf ps).length ≤ ps.length := by
  have key : ∀ (ps : List Part) (m : Row), (m.map (·.1)).Nodup → ((ps.foldl addPart m).map (·.1)).Nodup ∧ (∀ p ∈ ps.foldl addPart m, (∃ q ∈ ps, q.1 = p.1) ∨ p.1 ∈ m.map (·.1)) ∧ (ps.foldl addPart m).length ≤ m.length + ps.length := by
    intro ps
    induction ps with
    | nil => intro m n; exact ⟨n, fun p hp => .inr (List.mem_map.mpr ⟨p, hp, rfl⟩), Nat.le_refl _⟩
    | cons p ps ih =>
      intro m n
      obtain ⟨a, b, c⟩ := ih (addPart m p) (put_nodup n)
      refine ⟨a, fun q hq => ?_, ?_⟩
      · rcases b q hq with ⟨r, r1, r2⟩ | r
        · exact .inl ⟨r, List.mem_cons_of_mem _ r1, r2⟩
        · unfold addPart at r
          rw [put_keys] at r
          split at r
          · exact .inr r
          · rcases List.mem_append.mp r with r | r
            · exact .inr r
            · exact .inl ⟨p, List.mem_cons_self, (List.mem_singleton.mp r).symm⟩
      · have := put_len (m := m) (k := p.1) (v := val m p.1 + (p.2 : Rat))
        rw [List.foldl_cons, List.length_cons]
        have e : (addPart m p).length = (put m p.1 (val m p.1 + (p.2 : Rat))).length := rfl
        omega
  obtain ⟨a, b, c⟩ := key ps [] List.nodup_nil
  refine ⟨a, fun p hp => ?_, by have c : (rowOf ps).length ≤ 0 + ps.length := c; omega⟩
  rcases b p hp with h | h
  · exact h
  · cases h
def rowAt (D : Dl) : List Int → Row
  | [h, s, n] => match pairAt D h.toNat s.toNat n.toNat with
    | some p => rowOf (partsOf (h.toNat : Nat) (s.toNat : Nat) p.1 p.2)
    | none => []
  | _ => []
theorem rowAt_eq {D : Dl} {h s n : Nat} {p : Int × Int} (e : pairAt D h s n = some p) : rowAt D (stp h s n) = rowOf (partsOf h s p.1 p.2) := by
  unfold rowAt stp
  simp only [Int.toNat_natCast, e]
theorem steps_mem {D : Dl} {st : List Int} : st ∈ steps D ↔ ∃ h s n p, st = stp h s n ∧ pairAt D h s n = some p := by
  unfold steps stAll
  rw [List.mem_flatMap]
  constructor
  · rintro ⟨h, h1, h2⟩
    have h1 := List.mem_range.mp h1
    have e : D[h]? = some D[h] := List.getElem?_eq_getElem h1
    rw [e] at h2
    unfold stHouse at h2
    obtain ⟨s, s1, s2⟩ := List.mem_flatMap.mp h2
    have s1 := List.mem_range.mp s1
    simp only [Option.getD_some] at s1 s2
    have e2 : (D[h])[s]? = some (D[h])[s] := List.getElem?_eq_getElem s1
    rw [e2] at s2
    unfold stIn at s2
    obtain ⟨n, n1, n2⟩ := List.mem_map.mp s2
    have n1 := List.mem_range.mp n1
    simp only [Option.getD_some] at n1
    exact ⟨h, s, n, _, n2.symm, by unfold pairAt; rw [e]; simp only [Option.bind_some]; rw [e2]; simp only [Option.bind_some]; exact List.getElem?_eq_getElem n1⟩
  · rintro ⟨h, s, n, p, rfl, e⟩
    obtain ⟨d, ps, e1, e2, e3⟩ := pairAt_some e
    refine ⟨h, List.mem_range.mpr (List.getElem?_eq_some_iff.mp e1).1, ?_⟩
    rw [e1]
    unfold stHouse
    refine List.mem_flatMap.mpr ⟨s, List.mem_range.mpr (List.getElem?_eq_some_iff.mp e2).1, ?_⟩
    simp only [Option.getD_some]
    rw [e2]
    unfold stIn
    exact List.mem_map.mpr ⟨n, List.mem_range.mpr (List.getElem?_eq_some_iff.mp e3).1, rfl⟩
theorem lead0_eq {x : Nm → Rat} {h s : Nat} : (if 0 < (s : Int) then x [(h : Int), (s : Int)] else 0) = lead0 x h s := by
  unfold lead0
  have : (0 < (s : Int)) = (0 < s) := by simp
  simp only [this]
theorem tw_sum {a b c d : Rat} (ha : ∃ X : Int, X.natAbs ≤ 72 ∧ a * 12 = (X : Rat)) (hb : ∃ X : Int, X.natAbs ≤ 72 ∧ b * 12 = (X : Rat)) (hc : ∃ X : Int, X.natAbs ≤ 72 ∧ c * 12 = (X : Rat)) (hd : ∃ X : Int, X.natAbs ≤ 72 ∧ d * 12 = (X : Rat)) :
    ∃ T : Int, T.natAbs ≤ 300 ∧ (a - b + c - d) * 12 = (T : Rat) := by
  obtain ⟨A, a1, a2⟩ := ha
  obtain ⟨B, b1, b2⟩ := hb
  obtain ⟨C, c1, c2⟩ := hc
  obtain ⟨E, d1, d2⟩ := hd
  refine ⟨A - B + C - E, by omega, ?_⟩
  rw [Rat.intCast_sub, Rat.intCast_add, Rat.intCast_sub, ← a2, ← b2, ← c2, ← d2]
  grind
theorem tw_0 : ∃ X : Int, X.natAbs ≤ 72 ∧ (0 : Rat) * 12 = (X : Rat) := ⟨0, by decide, by have : ((0 : Int) : Rat) = 0 := rfl; rw [this]; grind⟩
theorem step_tw {x : Nm → Rat} (tw : Twelfth x) {h s : Nat} {p : Int × Int} : ∃ T : Int, T.natAbs ≤ 300 ∧ stepVal x h s p * 12 = (T : Rat) := by
  unfold stepVal
  refine tw_sum (tw _) ?_ ?_ ?_
  all_goals (split; exact tw _; exact tw_0)
theorem row_ok {c : Int} {D : Dl} {rank : Nat → Nat} {x : Nm → Rat} (o : WebOk c D rank) (tw : Twelfth x) {st : List Int} (hst : st ∈ steps D) : RwOk (namesOf D) x (rowAt D st) ∧ (rowAt D st).length ≤ 4 := by
  obtain ⟨h, s, n, p, rfl, e⟩ := steps_mem.mp hst
  rw [rowAt_eq e]
  obtain ⟨a, b, c⟩ := rowOf_keys (partsOf (h : Int) (s : Int) p.1 p.2)
  obtain ⟨d, ps, e1, e2, e3⟩ := pairAt_some e
  have memd := List.mem_of_getElem? e1
  have ib := o.inb d memd ps (List.mem_of_getElem? e2) p (List.mem_of_getElem? e3)
  have hs := (List.getElem?_eq_some_iff.mp e2).1
  refine ⟨⟨a, fun q hq => ?_, row_one, ?_⟩, ?_⟩
  · obtain ⟨r, r1, r2⟩ := b q hq
    rw [← r2, names_mem]
    unfold partsOf at r1
    simp only [List.mem_append, List.mem_singleton] at r1
    rcases r1 with ((r1 | r1) | r1) | r1
    · exact ⟨h, d, e1, .inl (by rw [r1])⟩
    · split at r1
      · rename_i z
        have hl : p.1.toNat < D.length := by omega
        refine ⟨p.1.toNat, D[p.1.toNat], List.getElem?_eq_getElem hl, .inl ?_⟩
        rw [List.mem_singleton.mp r1]
        show [p.1, -1] = [((p.1.toNat : Nat) : Int), -1]
        congr 1
        omega
      · cases r1
    · split at r1
      · rename_i z
        refine ⟨h, d, e1, .inr ⟨p.2.toNat - 1, by omega, ?_⟩⟩
        rw [List.mem_singleton.mp r1]
        show [(h : Int), p.2] = [(h : Int), ((p.2.toNat - 1 : Nat) : Int) + 1]
        congr 2
        omega
      · cases r1
    · split at r1
      · rename_i z
        refine ⟨h, d, e1, .inr ⟨s - 1, by omega, ?_⟩⟩
        rw [List.mem_singleton.mp r1]
        show [(h : Int), (s : Int)] = [(h : Int), ((s - 1 : Nat) : Int) + 1]
        congr 2
        omega
      · cases r1
  · rw [dot_parts]
    exact step_tw tw
  · have : (partsOf (h : Int) (s : Int) p.1 p.2).length ≤ 4 := by
      unfold partsOf
      split <;> split <;> split <;> simp
    omega
theorem solve_ok {P : Program} {w : World} {c : Int} {D : Dl} {rank : Nat → Nat} {x : Nm → Rat} (o : WebOk c D rank) (tw : Twelfth x) : SolveOk P w (namesOf D) x ((steps D).map (rowAt D)) := by
  refine ⟨names_len o.sm, fun ks n h => hashOk_of hash_names n fun k hk => names_12 o.sm (h k hk), tw, fun r hr => ?_, fun r hr => ?_, ?_, fun y hy k hk => ?_⟩
  · obtain ⟨st, s1, rfl⟩ := List.mem_map.mp hr
    exact (row_ok o tw s1).1
  · obtain ⟨st, s1, rfl⟩ := List.mem_map.mp hr
    have := (row_ok o tw s1).2
    omega
  · rw [List.length_map]
    have := o.sm.all D.length o.sm.hl
    unfold steps
    omega
  · have hv : ∀ h s n p, pairAt D h s n = some p → stepVal y h s p = 0 := fun h s n p e => by
      rw [← dot_parts, ← rowAt_eq e]
      exact hy _ (List.mem_map.mpr ⟨stp h s n, steps_mem.mpr ⟨h, s, n, p, rfl, e⟩, rfl⟩)
    obtain ⟨h, d, e, k1⟩ := names_mem.mp hk
    obtain ⟨a, b⟩ := ker_house o hv (rank h) h d (Nat.le_refl _) e
    rcases k1 with rfl | ⟨s, s1, rfl⟩
    · exact a
    · have := b (s + 1) s1
      unfold lead0 at this
      rw [if_pos (by omega)] at this
      exact_mod_cast this
end LD
set_option maxRecDepth 100000
set_option maxHeartbeats 400000
/-! LdLc: list comprehensions over lists that are known. -/
namespace LD
open PySem PyProof.Rows L2
theorem rng_fm {α β : Type} {p : α → Bool} {G : Option α → β} : ∀ xs : List α, ((List.range xs.length).filter fun j => (xs[j]?).any p).map (fun j => G (xs[j]?)) = (xs.filter p).map fun a => G (some a)
  | [] => rfl
  | a :: xs => by
    have ih := rng_fm (p := p) (G := G) xs
    rw [List.length_cons, List.range_succ_eq_map, List.filter_cons, List.filter_map, List.filter_cons]
    have e1 : ((fun j => ((a :: xs)[j]?).any p) ∘ Nat.succ) = fun j => (xs[j]?).any p := by funext j; simp
    rw [e1]
    have e2 : (((List.range xs.length).filter fun j => (xs[j]?).any p).map Nat.succ).map (fun j => G ((a :: xs)[j]?)) = (xs.filter p).map fun a => G (some a) := by
      rw [List.map_map, ← ih]
      apply List.map_congr_left
      intro j _
      simp
    simp only [List.getElem?_cons_zero, Option.any_some]
    by_cases h : p a = true
    · rw [if_pos h, if_pos h, List.map_cons, List.map_cons, e2]; rfl
    · rw [if_neg h, if_neg h, e2]
section
variable {σ : L2.St} {B : Hp} {wi : TI} {n : Nat} {Ts : Nat → Ty} {g : TG} {tt : TT} {te : TE} {vs : List Nat} {α : Type} {xs : List α} {F E : α → Ty}
/-- a list comprehension over what xs tells -/
theorem gv_lcG {p : α → Bool} (hi : GvI wi σ B n Ts) (hl : n = xs.length) (hT : ∀ j a, xs[j]? = some a → Ts j = F a) (hn : xs.length ≤ 100000)
    (hs : ∀ (j : Nat) a x B2 H2, xs[j]? = some a → Same B B2 → Same B2 H2 → (F a).p x B2 → ∀ R : L2.St → Hp → Prop, (∀ σ2, wipe σ2 vs = wipe σ vs → GvT tt σ2 B2 (p a) → (p a = true → Gv te σ2 B2 (E a)) → R σ2 H2) → g x (wipe σ vs) H2 R) :
    Gv (tLc wi g tt te vs) σ B (yL ((xs.filter p).map E)) := by
  subst hl
  refine Gv.cast (gv_lc hi (fun j => (xs[j]?).any p) (fun j => (xs[j]?).elim yN E) hn fun j x B2 H2 hj s1 s2 hx R q => ?_) ?_
  · have e : xs[j]? = some xs[j] := List.getElem?_eq_getElem hj
    rw [hT j _ e] at hx
    refine hs j _ x B2 H2 e s1 s2 hx R fun σ2 e2 ht he => q σ2 e2 ?_ fun hp => ?_
    · rw [e]; exact ht
    · rw [e] at hp ⊢; exact he hp
  · rw [rng_fm (p := p) (G := fun o => o.elim yN E) xs]; rfl
theorem filter_yes {xs : List α} : (xs.filter fun _ => true) = xs := List.filter_eq_self.mpr fun _ _ => rfl
/-- one name, no test -/
theorem gv_lc1 {i : Nat} (hi : GvI wi σ B n Ts) (hl : n = xs.length) (hT : ∀ j a, xs[j]? = some a → Ts j = F a) (hn : xs.length ≤ 100000) (hw : ∀ x, wipe ((wipe σ vs).set i (some x)) vs = wipe σ vs)
    (hs : ∀ (j : Nat) a x B2, xs[j]? = some a → Same B B2 → (F a).p x B2 → Gv te ((wipe σ vs).set i (some x)) B2 (E a)) : Gv (tLc wi (gName i) tYes te vs) σ B (yL (xs.map E)) :=
  Gv.cast (gv_lcG (p := fun _ => true) hi hl hT hn fun j a x B2 H2 e s1 s2 hx R q => q _ (hw x) gt_yes fun _ => hs j a x B2 e s1 hx) (by rw [filter_yes])
/-- one name, a test -/
theorem gv_lc1f {i : Nat} {p : α → Bool} (hi : GvI wi σ B n Ts) (hl : n = xs.length) (hT : ∀ j a, xs[j]? = some a → Ts j = F a) (hn : xs.length ≤ 100000) (hw : ∀ x, wipe ((wipe σ vs).set i (some x)) vs = wipe σ vs)
    (ht : ∀ (j : Nat) a x B2, xs[j]? = some a → Same B B2 → (F a).p x B2 → GvT tt ((wipe σ vs).set i (some x)) B2 (p a))
    (hs : ∀ (j : Nat) a x B2, xs[j]? = some a → p a = true → Same B B2 → (F a).p x B2 → Gv te ((wipe σ vs).set i (some x)) B2 (E a)) : Gv (tLc wi (gName i) tt te vs) σ B (yL ((xs.filter p).map E)) :=
  gv_lcG (p := p) hi hl hT hn fun j a x B2 H2 e s1 s2 hx R q => q _ (hw x) (ht j a x B2 e s1 hx) fun hp => hs j a x B2 e hp s1 hx
theorem hT_map {xs : List α} {F : α → Ty} : ∀ j a, xs[j]? = some a → tyAt (xs.map F) j = F a := fun j a e => tyAt_of (by rw [List.getElem?_map, e]; rfl)
theorem hT_rng {n : Nat} : ∀ j a, (List.range n)[j]? = some a → yI ((j : Nat) : Int) = yI ((a : Nat) : Int) := fun j a e => by
  have h : j < n := by
    have := (List.getElem?_eq_some_iff.mp e).1
    rwa [List.length_range] at this
  rw [List.getElem?_range h] at e
  cases e; rfl
end
section
variable {σ : L2.St} {B : Hp} {ta tb : TE} {ts us : List Ty} {K : PySem.W.Frag}
theorem gv_cat (ha : Gv ta σ B (yL ts)) (hb : Gv tb σ B (yL us)) (hl : ts.length + us.length ≤ 100000) : Gv (tOp rCat ta tb) σ B (yL (ts ++ us)) :=
  gv_op ha hb fun x y B1 H1 _ s hx hy Q q => by
    obtain ⟨a, vs, rfl, h1, k1⟩ := hx
    obtain ⟨b, ws, rfl, h2, k2⟩ := hy
    refine ⟨a, b, vs, ws, rfl, rfl, s _ _ h1, s _ _ h2, ?_, fun p hp => q _ _ _ (Gr.new s hp) ⟨p, _, rfl, upd_same, (All.append k2 k1).m (same_new (s.free hp))⟩⟩
    rw [k1.len, k2.len]
    exact size_1000 hl
theorem all_nil {ts : List Ty} {H : Hp} (h : All ts [] H) : ts = [] := by
  cases ts with
  | nil => rfl
  | cons _ _ => exact h.elim
theorem gv_catT (ha : Gv ta σ B (yT ts)) (hb : Gv tb σ B (yT us)) (hl : ts.length + us.length ≤ 100000) : Gv (tOp (rCatA K) ta tb) σ B (yT (ts ++ us)) :=
  gv_op ha hb fun x y B1 H1 _ s hx hy Q q => by
    obtain ⟨a, vs, rfl, h1, k1⟩ := hx
    obtain ⟨b, ws, rfl, h2, k2⟩ := hy
    refine ⟨a, b, vs, ws, rfl, rfl, SqT.of (s _ _ h1), SqT.of (s _ _ h2), ?_, fun e => ?_, fun _ e => ?_, fun _ _ p hp => q _ _ _ (Gr.new s hp) ⟨p, _, rfl, upd_same, (All.append k2 k1).m (same_new (s.free hp))⟩⟩
    · rw [k1.len, k2.len]
      exact size_1000 hl
    · subst e
      have e := all_nil k1
      subst e
      exact q _ B1 H1 (Gr.refl s) ⟨b, ws, rfl, h2, k2⟩
    · subst e
      have e := all_nil k2
      subst e
      rw [List.append_nil] at q
      exact q _ B1 H1 (Gr.refl s) ⟨a, vs, rfl, h1, k1⟩
end
section
variable {σ : L2.St} {B : Hp} {ta tb : TE} {A : Ty}
/-- values of T are None, or none of them is -/
def Non (A : Ty) (b : Bool) : Prop := ∀ v H, A.p v H → decide (v = .non) = b
theorem non_n : Non yN true := fun v H h => by
  obtain rfl : v = .non := h
  rfl
theorem non_t {ts : List Ty} : Non (yT ts) false := fun v H h => by
  obtain ⟨a, _, rfl, _⟩ := h
  rfl
theorem non_l {ts : List Ty} : Non (yL ts) false := fun v H h => by
  obtain ⟨a, _, rfl, _⟩ := h
  rfl
theorem non_i {i : Int} : Non (yI i) false := fun v H h => by
  obtain rfl : v = .int i := h
  rfl
theorem non_f {K : PySem.W.Frag} {r : Rat} : Non (yF K r) false := fun v H h => by
  obtain ⟨a, rfl, _⟩ := h
  rfl
theorem gv_isN {b : Bool} (ha : Gv ta σ B A) (n : Non A b) : Gv (tOp (fun x y H Q => y = .non ∧ Q (.bl (decide (x = .non))) H) ta (tC .non)) σ B (yB b) :=
  gv_op ha (gv_c (v := .non)) fun x y B1 H1 _ s hx hy Q q => ⟨hy, by rw [n x B1 hx]; exact q _ B1 H1 (Gr.refl s) rfl⟩
theorem gv_notN {b : Bool} (ha : Gv ta σ B A) (n : Non A b) : Gv (tOp (fun x y H Q => y = .non ∧ Q (.bl (!decide (x = .non))) H) ta (tC .non)) σ B (yB (!b)) :=
  gv_op ha (gv_c (v := .non)) fun x y B1 H1 _ s hx hy Q q => ⟨hy, by rw [n x B1 hx]; exact q _ B1 H1 (Gr.refl s) rfl⟩
end
section
variable {X : Cx} (K : PySem.W.Frag) (eK : X.K = K)
include eK
theorem pi_listK {tg l : Expr} {tl : TE} (hl : PE X l tl) : PI X tg l (iList K tl) := eK ▸ pi_list hl
theorem pi_tupK {tg l : Expr} {tl : TE} (hl : PE X l tl) : PI X tg l (iTup K tl) := eK ▸ pi_tup hl
theorem pg_tupK {es : List Expr} {k : Nat} {t : TGs} {n : Nat} {pos : Pos} (hc : X.calm = true) (h : PGs X es t) (hn : (assignEach es X.env).length = n := by rfl) (hst : (assignEach es X.env).findIdx? (·.1) = none := by rfl) : PG X (.Tuple es k pos) (gTup K n t) := eK ▸ pg_tup hc h hn hst
theorem op_catAK : OpR X (binaryOp .Add) (rCatA K) := eK ▸ op_catA
theorem pb_lenK {e : Expr} {es : List Expr} {t : TA} {p pos : Pos} (m : X.mg "len" = none) (ha : PA X (e :: es) t) (hg : Gl X "len" := by rfl) (he : starEach (e :: es) X.env = (false, eval e X.env) :: starEach es X.env := by rfl) (hpl : (backTo pos (starEach es X.env)).any (·.1) = false := by rfl) : PE X (.Call (.Name "len" p) (e :: es) [] pos) (tCB (rLenSeq K) t) := eK ▸ pb_len m ha hg he hpl
end
theorem frz_l {ts : List Ty} (ht : ∀ t ∈ ts, Frz t) : Frz (yL ts) := fun v B d od u hd hu ⟨a, vs, e, h, k⟩ => ⟨a, vs, e, by rw [upd_ne (ne_of h hd (fun z => by subst z; exact hu))]; exact h, frz_all hd hu ht k⟩
theorem frz_li {ns : List Int} : Frz (yL (ns.map fun i => yI i)) := frz_l fun t ht => by
  obtain ⟨m, _, rfl⟩ := List.mem_map.mp ht
  exact frz_x
end LD
set_option maxRecDepth 100000
set_option maxHeartbeats 400000
/-! LdLook: looked_for -/

namespace LD
open PySem PyProof.Rows L2
abbrev s_looked_for : Stmt := topS 54
theorem sc_looked_for : FnScope ["web", "prices", "steps_here", "rights", "step"] ["web", "prices"] (defScope s_looked_for) :=
  ⟨rfl, rfl, rfl, by decide +kernel, rfl, by decide +kernel, by decide +kernel⟩
/-- prices of what is planted -/
structure Planted (D : Dl) (x : Nm → Rat) (m : Row) : Prop where
  tw : Twelfth x
  ok : ∀ st ∈ steps D, val m st = dot (rowAt D st) x
inductive Rlook (P : Program) (w : World) (K : PySem.W.Frag) (CW : Addr) : List Ty → Ty → Prop
  | mk (c : Int) (D : Dl) (rank : Nat → Nat) (x : Nm → Rat) (m : Row) (o : WebOk c D rank) (h : Planted D x m) : Rlook P w K CW [yW CW c D, yPrices m] (yT [yX (.str "one"), ySol K (namesOf D) x])
section
variable {P : Program} {w : World} {K : PySem.W.Frag} {mg : Str → Option Value} {base : Heap} {CW : Addr}
theorem ok_look (D : Def K mg "looked_for" s_looked_for ["web", "prices"]) (c_all_steps : Cal P w K mg base "all_steps" 1 ["web"] (spG (Rsteps CW))) (c_price_of : Cal P w K mg base "price_of" 1 ["prices", "step"] (spG (Rprice K)))
    (c_solved : Cal P w K mg base "solved" 6 ["rows", "rights"] (spG (Rsolved P w K))) (c_equation_of : Cal P w K mg base "equation_of" 4 ["web", "step"] (spG (Req CW K))) : Cal P w K mg base "looked_for" 7 ["web", "prices"] (spG (Rlook P w K CW)) := by
  have sc := sc_looked_for
  refine D.ok sc (fun Ts T r => by cases r; rfl) (fun f cdv A outer s H vs E B Ts T r sb a hr => ?_)
  refine ⟨_, (pss_cons (ps_set (i := 2) sc.nd rfl (.inl rfl) (pe_cl c_all_steps (hr.mono (by decide)) (pa_cons (pv 0) pa_nil)))
(pss_cons (ps_setLc (i := 3) (own := [("step", 4)]) (g := (gName 4)) (tt := _) (by rfl) sc.nd rfl rfl (sw_true rfl rfl rfl (by decide +kernel)) (pi_listK K rfl (pv 2)) (blkOk_by (by kernel_rfl)) (fun _ _ _ _ _ => (pg_name (i := 4) sc.nd rfl (.inl rfl))) (fun _ _ _ _ _ => pts_nil) (fun _ _ _ _ _ => (pe_cl c_price_of (hr.mono (by decide)) (pa_cons (pv 1) (pa_cons (pv 4) pa_nil)))))
(pss_one (ps_ret (pe_cl c_solved (hr.mono (by decide)) (pa_cons (pe_lc (own := [("step", 4)]) (g := (gName 4)) (tt := _) (by rfl) sc.nd (pi_listK K rfl (pv 2)) (blkOk_by (by kernel_rfl)) (fun _ _ _ _ _ => (pg_name (i := 4) sc.nd rfl (.inl rfl))) (fun _ _ _ _ _ => pts_nil) (fun _ _ _ _ _ => (pe_cl c_equation_of (hr.mono (by decide)) (pa_cons (pv 0) (pa_cons (pv 4) pa_nil))))) (pa_cons (pv 3) pa_nil))))))), fun Q q => ?_⟩
  cases r with
  | mk c D rank x m o pl =>
  obtain ⟨v1, v2, rfl, h1, h2⟩ := all2 a
  have len := o.sm.all D.length o.sm.hl
  have len : (steps D).length ≤ 27 := len
  refine sq_set (T := yL ((steps D).map yIs)) sb (by
    walk_at "gv"
    exact .mk c D o.sm) fun v B1 H1 g1 hv => ?_
  refine sq_set (T := yL ((steps D).map fun st => yF K (val m st))) g1.in_ (gv_lc1 (F := yIs) (gi_list (gv_var (i := 2) rfl hv (Same.refl _)) isLs_l) (by rw [List.length_map]) hT_map (by omega) (fun _ => rfl) fun j st x B2 hj s1 hx => ?_) fun v3 B2 H2 g2 hv3 => ?_
  · refine gv_cl (ga_2 (gv_var (i := 1) rfl h2 (g1.bs.trans s1)) (gv_var (i := 4) rfl hx (Same.refl _))) (gives_G (R := Rprice K) (.mk m st))
  · refine st_ret (T := yT [yX (.str "one"), ySol K (namesOf D) x]) g2.in_ (gv_cl (Ts := [yL (((steps D).map (rowAt D)).map (yRow K)), yL (((steps D).map (rowAt D)).map fun r => yF K (dot r x))]) (ga_2 ?_ ?_) (gives_G (R := Rsolved P w K) (.mk _ _ _ (solve_ok o pl.tw)))) fun v4 B3 H3 g3 hv4 => q v4 B3 H3 ((g1.trans g2).trans g3) hv4
    · refine Gv.cast (A := yL ((steps D).map fun st => yRow K (rowAt D st))) (gv_lc1 (F := yIs) (gi_list (gv_var (i := 2) rfl hv g2.bs) isLs_l) (by rw [List.length_map]) hT_map (by omega) (fun _ => rfl) fun j st x B4 hj s1 hx => ?_) (by rw [List.map_map]; rfl)
      obtain ⟨h, s, n, p, rfl, e⟩ := steps_mem.mp (List.mem_of_getElem? hj)
      rw [rowAt_eq e]
      exact gv_cl (ga_2 (gv_var (i := 0) rfl h1 ((g1.bs.trans g2.bs).trans s1)) (gv_var (i := 4) rfl hx (Same.refl _))) (gives_G (R := Req CW K) (.mk c D h s n p e))
    · refine gv_var (i := 3) rfl (T := yL (((steps D).map (rowAt D)).map fun r => yF K (dot r x))) ?_ (Same.refl _)
      have e : (((steps D).map (rowAt D)).map fun r => yF K (dot r x)) = (steps D).map fun st => yF K (val m st) := by
        rw [List.map_map]
        apply List.map_congr_left
        intro st hst
        show yF K (dot (rowAt D st) x) = _
        rw [pl.ok st hst]
      rw [e]; exact hv3
end
end LD
set_option maxRecDepth 100000
set_option maxHeartbeats 400000
/-! LdTabOf: table_of -/

namespace LD
open PySem PyProof.Rows L2
abbrev s_table_of : Stmt := topS 55
theorem sc_table_of : FnScope ["web", "prices", "word", "values", "worths", "house", "leads", "dealer", "later", "standing"] ["web", "prices"] (defScope s_table_of) :=
  ⟨rfl, rfl, rfl, by decide +kernel, rfl, by decide +kernel, by decide +kernel⟩
def worthRow (D : Dl) (x : Nm → Rat) : List Rat := (List.range D.length).map fun (h : Nat) => x [(h : Int), -1]
def leadRow (x : Nm → Rat) (h : Nat) (d : List (List (Int × Int))) : List Rat := (List.range d.length).map fun s => lead0 x h s
def leadRows (D : Dl) (x : Nm → Rat) (i : Nat) : List (List Rat) := (List.range i).map fun h => leadRow x h ((D[h]?).getD [])
abbrev yFl (K : PySem.W.Frag) (l : List Rat) : Ty := yT (l.map (yF K))
abbrev yTab (K : PySem.W.Frag) (D : Dl) (x : Nm → Rat) : Ty := yT [yFl K (worthRow D x), yT ((leadRows D x D.length).map (yFl K))]
inductive Rtable (K : PySem.W.Frag) (CW : Addr) : List Ty → Ty → Prop
  | mk (c : Int) (D : Dl) (rank : Nat → Nat) (x : Nm → Rat) (m : Row) (o : WebOk c D rank) (h : Planted D x m) : Rtable K CW [yW CW c D, yPrices m] (yTab K D x)
section
variable {P : Program} {w : World} {K : PySem.W.Frag} {mg : Str → Option Value} {base : Heap} {CW : Addr}
theorem ok_table (D : Def K mg "table_of" s_table_of ["web", "prices"]) (bl : Blt mg) (cW : ClsF K CW nsW) (gz : Gz K mg "ZERO" 0) (c_looked_for : Cal P w K mg base "looked_for" 7 ["web", "prices"] (spG (Rlook P w K CW)))
    (c_worth_name : Cal P w K mg base "worth_name" 1 ["door"] (spG Rworth)) : Cal P w K mg base "table_of" 8 ["web", "prices"] (spG (Rtable K CW)) := by
  have sc := sc_table_of
  obtain ⟨vz, gZERO, hz⟩ := gz.ex
  refine D.ok sc (fun Ts T r => by cases r; rfl) (fun f cdv A outer s H vs E B Ts T r sb a hr => ?_)
  refine ⟨_, (pss_cons (ps_asg (pe_cl c_looked_for (hr.mono (by decide)) (pa_cons (pv 0) (pa_cons (pv 1) pa_nil))) (pg_tup (by rfl) (pgs_cons (pg_name (i := 2) sc.nd rfl (.inl rfl)) (pgs_cons (pg_name (i := 3) sc.nd rfl (.inr rfl)) pgs_nil))))
(pss_cons (ps_if (pt_cmpR op_eq (pv 2) pe_str (nomark _))
  (pss_one (ps_ret pe_non))
  pss_nil)
(pss_cons (ps_set (i := 4) sc.nd rfl (.inl rfl) (pb_tuple bl.tuple_ (pa_cons (pe_lc (own := [("house", 5)]) (g := (gName 5)) (tt := _) (by rfl) sc.nd (pi_range1 (by rfl) bl.range_ (pa_cons (pb_lenK K rfl bl.len_ (pa_cons (pe_fldK K rfl (pv 0) rfl) pa_nil)) pa_nil)) (blkOk_by (by kernel_rfl)) (fun _ _ _ _ _ => (pg_name (i := 5) sc.nd rfl (.inl rfl))) (fun _ _ _ _ _ => pts_nil) (fun _ _ _ _ _ => (pe_dget2 (hu_of hr) (pv 3) (pe_cl c_worth_name (hr.mono (by decide)) (pa_cons (pv 5) pa_nil)) (pe_gc gZERO) ⟨rfl, rfl, rfl, rfl⟩))) pa_nil)))
(pss_cons (ps_set (i := 6) sc.nd rfl (.inl rfl) (pe_lst pa_nil))
(pss_cons (ps_for PassesOwn.never rfl (pi_enumT (by rfl) bl.enumerate_ (pa_cons (pe_fldK K rfl (pv 0) rfl) pa_nil)) (pg_tup (by rfl) (pgs_cons (pg_name (i := 5) sc.nd rfl (.inr rfl)) (pgs_cons (pg_name (i := 7) sc.nd rfl (.inl rfl)) pgs_nil)))
  (pss_cons (ps_setLc (i := 8) (own := [("standing", 9)]) (g := (gName 9)) (tt := _) (by rfl) sc.nd rfl rfl (sw_true rfl rfl rfl (by decide +kernel)) (pi_range2 (by rfl) bl.range_ (pa_cons pe_int (pa_cons (pb_lenK K rfl bl.len_ (pa_cons (pv 7) pa_nil)) pa_nil))) (blkOk_by (by kernel_rfl)) (fun _ _ _ _ _ => (pg_name (i := 9) sc.nd rfl (.inl rfl))) (fun _ _ _ _ _ => pts_nil) (fun _ _ _ _ _ => (pe_dget2 (hu_of hr) (pv 3) (pe_tup (pa_cons (pv 5) (pa_cons (pv 9) pa_nil))) (pe_gc gZERO) ⟨rfl, rfl, rfl, rfl⟩)))
(pss_one (ps_expr (pe_bm PySem.F.plainAttrs_list PySem.F.slot_list_append PySem.F.type_list_append mt_append (pv 6) (pa_cons (pb_tuple bl.tuple_ (pa_cons (pe_op op_cat (pe_lst (pa_cons (pe_gc gZERO) pa_nil)) (pv 8)) pa_nil)) pa_nil))))))
(pss_one (ps_ret (pe_tup (pa_cons (pv 4) (pa_cons (pb_tuple bl.tuple_ (pa_cons (pv 6) pa_nil)) pa_nil)))))))))), fun Q q => ?_⟩
  cases r with
  | mk c D rank x m o pl =>
  obtain ⟨v1, v2, rfl, h1, h2⟩ := all2 a
  refine sq_asg (T := yT [yX (.str "one"), ySol K (namesOf D) x]) sb (gv_cl (ga_2 (gv_var (i := 0) rfl h1 (Same.refl _)) (gv_var (i := 1) rfl h2 (Same.refl _))) (gives_G (R := Rlook P w K CW) (.mk c D rank x m o pl))) fun v B1 H1 g1 hv => g_tup2 hv g1.in_ fun vw vv hw hvv => ?_
  obtain rfl : vw = .str "one" := hw
  obtain ⟨vals, ⟨nd, lk⟩, hvv⟩ := hvv
  have hD3 := o.sm.hl
  have getv : ∀ k ∈ namesOf D, (look (mR K vals) k).getD (yF K 0) = yF K (x k) := fun k hk => by
    rw [mR_look, lk k hk]; rfl
  refine sq_if0 g1.in_ (GvT.cast (b := decide (V.str "one" = V.str "none")) (by walk_at "gv") (by decide)) fun B2 H2 g2 => ?_
  refine sq_set (T := yFl K (worthRow D x)) g2.in_ (gv_tupL (Gv.cast (A := yL ((List.range D.length).map fun (h : Nat) => yF K (x [(h : Int), -1]))) (gv_lc1 (F := fun (h : Nat) => yI (h : Int)) (gi_rng1 (n := ((D.map yHs).length : Nat)) (gv_lenT (gv_fld (f := "dealers") (ns := nsW) (gv_var (i := 0) rfl h1 (g1.bs.trans g2.bs)) cW (by decide) rfl) isTu_t) (by rw [List.length_map]; omega) (by omega)) (by rw [List.length_map, List.length_range]; simp) hT_rng (by rw [List.length_range]; omega) (fun _ => rfl) fun j h y B3 hj s1 hy => ?_) (by unfold worthRow; rw [List.map_map]; rfl))) fun v5 B3 H3 g3 hv5 => ?_
  · have hh := List.mem_range.mp (List.mem_of_getElem? hj)
    obtain rfl : y = .int (h : Int) := hy
    refine gv_dget2 (gv_var (i := 3) rfl hvv (g2.bs.trans s1)) (gv_cl (ga_1 (gv_v rfl)) (gives_G (R := Rworth) (.mk _))) (gv_cz hz) isDT_s (getv _ ?_)
    exact names_mem.mpr ⟨h, _, List.getElem?_eq_getElem hh, .inl rfl⟩
  · have gg := (g1.trans g2).trans g3
    refine hq_newL g3.in_ ga_nil (by simp) fun d B4 H4 g4 nd4 hd4 w4 => ?_
    have hd0 : H d = none := gg.hs.free hd4
    refine sq_for g4.in_ (gi_enumT (gv_fld (f := "dealers") (ns := nsW) (gv_var (i := 0) rfl h1 (gg.trans g4).bs) cW (by decide) rfl) isTu_t) (fun i σ B5 H5 => ∃ n6 n7 n8 n9, σ = [some v1, some v2, some (.str "one"), some vv, some v5, n6, some (.ref d), n7, n8, n9] ∧ Ow d (oL ((leadRows D x i).map (yFl K))) B5 H5 ∧ Gr B H B5 H5)
      (fun B5 H5 g5 => ⟨_, _, _, _, rfl, w4.m g5, (gg.trans g4).trans g5⟩) (fun Bs i z σ B5 H5 B6 H6 hi s1 s2 s3 hP g6 hz6 => ?_) (fun σ B5 H5 s1 s2 hP => ?_)
    · obtain ⟨n6, n7, n8, n9, rfl, w5, gg5⟩ := hP
      rw [List.length_map] at hi
      obtain ⟨dl, hdl⟩ : ∃ r, D[i]? = some r := ⟨_, List.getElem?_eq_getElem hi⟩
      have memd := List.mem_of_getElem? hdl
      have d1 := o.d1 dl memd
      have d3 := o.sm.dl dl memd
      rw [tyAt_of (T := yHs dl) (by rw [List.getElem?_map, hdl]; rfl)] at hz6
      refine g_tup2 hz6 g6.in_ fun vh vd hvh hvd => ?_
      obtain rfl : vh = .int (i : Int) := hvh
      have gg6 := gg5.trans g6
      have hvals : (yRow K vals).p vv B6 := (yRow K vals).m ((g1.bs.trans (Same.refl _)) |> fun _ => (g2.bs.trans (g3.bs.trans (g4.bs.trans (s1.trans (s2.trans g6.bs)))))) hvv
      refine sq_set (T := yL ((List.range (dl.length - 1)).map fun (s : Nat) => yF K (x [(i : Int), (s : Int) + 1]))) g6.in_ (gv_lc1 (F := fun (s : Nat) => yI (1 + (s : Int))) (gi_rng2 (b := ((dl.map ySt).length : Nat)) gv_c (gv_lenT (gv_var (i := 7) rfl hvd (Same.refl _)) isTu_t) (by rw [List.length_map]; omega)) (by rw [List.length_map, List.length_range]; omega) (fun j a e => by
          have h : j < dl.length - 1 := by
            have := (List.getElem?_eq_some_iff.mp e).1
            rwa [List.length_range] at this
          rw [List.getElem?_range h] at e
          cases e; rfl) (by rw [List.length_range]; omega) (fun _ => rfl) fun j st y B7 hj s7 hy => ?_) fun v8 B7 H7 g7 hv8 => ?_
      · have hh := List.mem_range.mp (List.mem_of_getElem? hj)
        obtain rfl : y = .int (1 + (st : Int)) := hy
        refine gv_dget2 (k := [(i : Int), 1 + (st : Int)]) (gv_var (i := 3) rfl hvals s7) (gv_tup2 (gv_v rfl) (gv_v rfl)) (gv_cz hz) isDT_s ?_
        rw [Int.add_comm 1 (st : Int)]
        exact getv _ (names_mem.mpr ⟨i, dl, hdl, .inr ⟨st, by omega, rfl⟩⟩)
      · have w7 := (w5.m g6).m g7
        refine ht_app (is_var rfl) w7 g7.in_ (by rw [List.length_map]; unfold leadRows; rw [List.length_map, List.length_range]; omega) (T := yFl K (leadRow x i dl)) (Gv.h (gv_tupL (Gv.cast (gv_cat (gv_lst1 (gv_cz (T := yF K 0) hz)) (gv_var (i := 8) rfl hv8 (Same.refl _)) (by rw [List.length_map, List.length_range]; simp; omega)) ?_)) g7.in_) fun B8 H8 o8 g8 w8 => ?_
        · congr 1
          unfold leadRow
          rw [List.map_map]
          obtain ⟨n, hn⟩ : ∃ n, dl.length = n + 1 := ⟨dl.length - 1, by omega⟩
          rw [hn, List.range_succ_eq_map, Nat.add_sub_cancel, List.map_cons, List.map_map]
          have e0 : yF K 0 = (yF K ∘ fun s => lead0 x i s) 0 := by
            show yF K 0 = yF K (lead0 x i 0)
            rfl
          rw [e0]
          show [_] ++ _ = _ :: _
          rw [List.singleton_append]
          congr 1
        · refine ⟨B8, s2.trans (g6.bs.trans (g7.bs.trans g8.bs)), (w7.m g8).same g8.in_, _, _, _, _, rfl, ?_, ((gg6.trans g7).trans g8).put (w7.m g8) hd0⟩
          have e : leadRows D x (i + 1) = leadRows D x i ++ [leadRow x i dl] := by
            unfold leadRows
            rw [List.range_succ, List.map_append]
            simp [hdl]
          rw [e, List.map_append]
          exact w8
    · obtain ⟨n6, n7, n8, n9, rfl, w5, gg5⟩ := hP
      rw [List.length_map] at w5
      obtain ⟨B6, g6, s6, h6⟩ := w5.pub gg5 hd0
      have h6 := oL_ty h6
      refine st_ret (T := yTab K D x) g6.in_ (gv_tup2 (gv_var (i := 4) rfl hv5 (g4.bs.trans (s1.trans s6))) (gv_tupL (gv_var (i := 6) rfl h6 (Same.refl _)))) fun v B' H' g hv => q v B' H' (g6.trans g) hv
end
end LD
set_option maxRecDepth 100000
set_option maxHeartbeats 400000
/-! LdPrices: check_prices, table_for -/

namespace LD
open PySem PyProof.Rows L2
abbrev s_is_house : Stmt := topS 25
theorem sc_is_house : FnScope ["web", "thing"] ["web", "thing"] (defScope s_is_house) :=
  ⟨rfl, rfl, rfl, by decide +kernel, rfl, by decide +kernel, by decide +kernel⟩
abbrev s_is_step : Stmt := topS 26
theorem sc_is_step : FnScope ["web", "thing", "standings"] ["web", "thing"] (defScope s_is_step) :=
  ⟨rfl, rfl, rfl, by decide +kernel, rfl, by decide +kernel, by decide +kernel⟩
abbrev s_is_price : Stmt := topS 27
theorem sc_is_price : FnScope ["thing"] ["thing"] (defScope s_is_price) :=
  ⟨rfl, rfl, rfl, by decide +kernel, rfl, by decide +kernel, by decide +kernel⟩
abbrev s_check_prices : Stmt := topS 28
theorem sc_check_prices : FnScope ["web", "thing", "step"] ["web", "thing"] (defScope s_check_prices) :=
  ⟨rfl, rfl, rfl, by decide +kernel, rfl, by decide +kernel, by decide +kernel⟩
abbrev s_table_for : Stmt := topS 64
theorem sc_table_for : FnScope ["web", "prices", "told"] ["web", "prices"] (defScope s_table_for) :=
  ⟨rfl, rfl, rfl, by decide +kernel, rfl, by decide +kernel, by decide +kernel⟩
inductive Rhouse (CW : Addr) : List Ty → Ty → Prop
  | mk (c : Int) (D : Dl) (h : Nat) (hh : h < D.length) : Rhouse CW [yW CW c D, yI (h : Int)] (yB true)
inductive Risstep (CW : Addr) : List Ty → Ty → Prop
  | mk (c : Int) (D : Dl) (h s n : Nat) (p : Int × Int) (e : pairAt D h s n = some p) : Risstep CW [yW CW c D, yIs (stp h s n)] (yB true)
inductive Rprc : List Ty → Ty → Prop
  | mk (r : Rat) (h1 : r.num.natAbs ≤ 10 ^ 9) (h2 : r.den ≤ 10 ^ 6) : Rprc [yFs r] (yB true)
/-- prices that the checks let through -/
structure PricesOk (D : Dl) (m : Row) : Prop where
  keys : ∀ p ∈ m, p.1 ∈ steps D
  nd : (m.map (·.1)).Nodup
  top : ∀ p ∈ m, p.2.num.natAbs ≤ 10 ^ 9
  bot : ∀ p ∈ m, p.2.den ≤ 10 ^ 6
  len : m.length ≤ 27
inductive Rchkp (CW : Addr) : List Ty → Ty → Prop
  | mk (c : Int) (D : Dl) (m : Row) (h : PricesOk D m) : Rchkp CW [yW CW c D, yPrices m] yN
inductive Rtabfor (K : PySem.W.Frag) (CW : Addr) : List Ty → Ty → Prop
  | mk (c : Int) (D : Dl) (rank : Nat → Nat) (x : Nm → Rat) (m : Row) (o : WebOk c D rank) (h : Planted D x m) (h2 : PricesOk D m) : Rtabfor K CW [yW CW c D, yPrices m] (yTab K D x)
section
variable {P : Program} {w : World} {K : PySem.W.Frag} {mg : Str → Option Value} {base : Heap} {CW : Addr}
theorem isa_dT {m : List (List Int × Ty)} : Isa K (yDT m) "dict" := fun v H h => by
  obtain ⟨a, kvs, rfl, h, _⟩ := h
  exact .base (.dT h)
theorem ok_house (D : Def K mg "is_house" s_is_house ["web", "thing"]) (bl : Blt mg) (cW : ClsF K CW nsW) (c_is_within : Cal P w K mg base "is_within" 2 ["thing", "least", "most"] (spG Rwithin)) : Cal P w K mg base "is_house" 3 ["web", "thing"] (spG (Rhouse CW)) := by
  have sc := sc_is_house
  refine D.ok sc (fun Ts T r => by cases r; rfl) (fun f cdv A outer s H vs E B Ts T r sb a hr => ?_)
  refine ⟨_, (pss_one (ps_ret (pe_cl c_is_within (hr.mono (by decide)) (pa_cons (pv 1) (pa_cons pe_int (pa_cons (pe_op op_sub (pb_lenK K rfl bl.len_ (pa_cons (pe_fldK K rfl (pv 0) rfl) pa_nil)) pe_int) pa_nil)))))), fun Q q => ?_⟩
  cases r with
  | mk c D h hh =>
  obtain ⟨v1, v2, rfl, h1, h2⟩ := all2 a
  have hR := Rwithin.mk (h : Int) 0 ((((D.map yHs).length : Nat) : Int) - 1)
  have e : (decide (0 ≤ (h : Int)) && decide ((h : Int) ≤ (((D.map yHs).length : Nat) : Int) - 1)) = true := by
    rw [List.length_map]
    simp
    omega
  rw [e] at hR
  refine st_ret sb (gv_cl (ga_3 (gv_var (i := 1) rfl h2 (Same.refl _)) gv_c (gv_I0 (gv_lenT (gv_fld (f := "dealers") (ns := nsW) (gv_var (i := 0) rfl h1 (Same.refl _)) cW (by decide) rfl) isTu_t) gv_c)) (gives_G (R := Rwithin) hR)) q
theorem ok_isstep (D : Def K mg "is_step" s_is_step ["web", "thing"]) (bl : Blt mg) (cW : ClsF K CW nsW) (c_is_within : Cal P w K mg base "is_within" 2 ["thing", "least", "most"] (spG Rwithin)) (c_is_triple : Cal P w K mg base "is_triple" 1 ["thing"] (spG Rtriple))
    (c_is_house : Cal P w K mg base "is_house" 3 ["web", "thing"] (spG (Rhouse CW))) : Cal P w K mg base "is_step" 4 ["web", "thing"] (spG (Risstep CW)) := by
  have sc := sc_is_step
  refine D.ok sc (fun Ts T r => by cases r; rfl) (fun f cdv A outer s H vs E B Ts T r sb a hr => ?_)
  refine ⟨_, (pss_cons (ps_if (PW.pt (pw_or (pt_not (pt_val (pe_cl c_is_triple (hr.mono (by decide)) (pa_cons (pv 1) pa_nil)))) (pw_or1 (pt_not (pt_val (pe_cl c_is_house (hr.mono (by decide)) (pa_cons (pv 0) (pa_cons (pe_ix (ix_tupK K rfl) (pv 1) pe_int (fun _ _ => rfl)) pa_nil))))))))
  (pss_one (ps_ret pe_bl))
  pss_nil)
(pss_cons (ps_set (i := 2) sc.nd rfl (.inl rfl) (pe_ix (ix_tupK K rfl) (pe_fldK K rfl (pv 0) rfl) (pe_ix (ix_tupK K rfl) (pv 1) pe_int (fun _ _ => rfl)) (fun _ _ => rfl)))
(pss_one (ps_ret (pe_and (pe_cl c_is_within (hr.mono (by decide)) (pa_cons (pe_ix (ix_tupK K rfl) (pv 1) pe_int (fun _ _ => rfl)) (pa_cons pe_int (pa_cons (pe_op op_sub (pb_lenK K rfl bl.len_ (pa_cons (pv 2) pa_nil)) pe_int) pa_nil)))) (pe_one (pe_cl c_is_within (hr.mono (by decide)) (pa_cons (pe_ix (ix_tupK K rfl) (pv 1) pe_int (fun _ _ => rfl)) (pa_cons pe_int (pa_cons (pe_op op_sub (pb_lenK K rfl bl.len_ (pa_cons (pe_ix (ix_tupK K rfl) (pv 2) (pe_ix (ix_tupK K rfl) (pv 1) pe_int (fun _ _ => rfl)) (fun _ _ => rfl)) pa_nil)) pe_int) pa_nil)))))))))), fun Q q => ?_⟩
  cases r with
  | mk c D h s n p e =>
  obtain ⟨v1, v2, rfl, h1, h2⟩ := all2 a
  obtain ⟨d, ps, e1, e2, e3⟩ := pairAt_some e
  have l1 := (List.getElem?_eq_some_iff.mp e1).1
  have l2 := (List.getElem?_eq_some_iff.mp e2).1
  have l3 := (List.getElem?_eq_some_iff.mp e3).1
  have hth : ∀ σ : L2.St, σ[1]? = some (some v2) → ∀ B', Same B B' → Gv (tVar 1) σ B' (yIs (stp h s n)) := fun σ hσ B' s' => gv_var hσ h2 s'
  refine sq_if0 sb (GvT.cast (b := !true || !true) (gt_or (gt_not (gt_test (gv_cl (ga_1 (hth _ rfl _ (Same.refl _))) (gives_G (R := Rtriple) (.mk _ _ _))))) fun _ => gt_not (gt_test (gv_cl (ga_2 (gv_var (i := 0) rfl h1 (Same.refl _)) (gv_ixT (i := 0) (j := 0) (hth _ rfl _ (Same.refl _)) gv_c isTu_t rfl rfl)) (gives_G (R := Rhouse CW) (.mk c D h l1))))) (by decide)) fun B1 H1 g1 => ?_
  refine sq_set (T := yHs d) g1.in_ (gv_ixT (j := h) (gv_fld (f := "dealers") (ns := nsW) (gv_var (i := 0) rfl h1 g1.bs) cW (by decide) rfl) (gv_ixT (i := 0) (j := 0) (hth _ rfl _ g1.bs) gv_c isTu_t rfl rfl) isTu_t rfl (by rw [List.getElem?_map, e1]; rfl)) fun v3 B2 H2 g2 hv3 => ?_
  have g12 := g1.trans g2
  have hR1 := Rwithin.mk (s : Int) 0 ((((d.map ySt).length : Nat) : Int) - 1)
  have hR2 := Rwithin.mk (n : Int) 0 ((((ps.map yPr).length : Nat) : Int) - 1)
  have k1 : (decide (0 ≤ (s : Int)) && decide ((s : Int) ≤ (((d.map ySt).length : Nat) : Int) - 1)) = true := by
    rw [List.length_map]; simp; omega
  have k2 : (decide (0 ≤ (n : Int)) && decide ((n : Int) ≤ (((ps.map yPr).length : Nat) : Int) - 1)) = true := by
    rw [List.length_map]; simp; omega
  rw [k1] at hR1
  rw [k2] at hR2
  refine st_ret (T := yB (true && true)) g2.in_ (gv_andB (gv_cl (ga_3 (gv_ixT (i := 1) (j := 1) (hth _ rfl _ g12.bs) gv_c isTu_t rfl rfl) gv_c (gv_I0 (gv_lenT (gv_var (i := 2) rfl hv3 (Same.refl _)) isTu_t) gv_c)) (gives_G (R := Rwithin) hR1)) fun _ => gv_cl (ga_3 (gv_ixT (i := 2) (j := 2) (hth _ rfl _ g12.bs) gv_c isTu_t rfl rfl) gv_c (gv_I0 (gv_lenT (gv_ixT (T := ySt ps) (j := s) (gv_var (i := 2) rfl hv3 (Same.refl _)) (gv_ixT (i := 1) (j := 1) (hth _ rfl _ g12.bs) gv_c isTu_t rfl rfl) isTu_t rfl (by rw [List.getElem?_map, e2]; rfl)) isTu_t) gv_c)) (gives_G (R := Rwithin) hR2)) fun v B' H' g hv => q v B' H' (g12.trans g) hv
theorem ok_isprice (D : Def K mg "is_price" s_is_price ["thing"]) (bl : Blt mg) (gMOST_TOP : Gc mg "MOST_TOP" (.int (10 ^ 9))) (gMOST_BOTTOM : Gc mg "MOST_BOTTOM" (.int (10 ^ 6))) (c_is_fraction : Cal P w K mg base "is_fraction" 2 ["thing"] (spG Rfraction)) : Cal P w K mg base "is_price" 3 ["thing"] (spG Rprc) := by
  have sc := sc_is_price
  refine D.ok sc (fun Ts T r => by cases r; rfl) (fun f cdv A outer s H vs E B Ts T r sb a hr => ?_)
  refine ⟨_, (pss_one (ps_ret (pe_and (pe_cl c_is_fraction (hr.mono (by decide)) (pa_cons (pv 0) pa_nil)) (pe_and (pe_cmpR op_le (pb_abs bl.abs_ (pa_cons (pe_ix (ix_tupK K rfl) (pv 0) pe_int (fun _ _ => rfl)) pa_nil)) (pe_gc gMOST_TOP) (nomark _)) (pe_one (pe_cmpR op_le (pe_ix (ix_tupK K rfl) (pv 0) pe_int (fun _ _ => rfl)) (pe_gc gMOST_BOTTOM) (nomark _))))))), fun Q q => ?_⟩
  cases r with
  | mk r k1 k2 =>
  obtain ⟨v1, rfl, h1⟩ := all1 a
  have e : (true && (decide ((r.num.natAbs : Int) ≤ 10 ^ 9) && decide ((r.den : Int) ≤ 10 ^ 6))) = true := by
    have a1 : (r.num.natAbs : Int) ≤ 10 ^ 9 := by omega
    have a2 : (r.den : Int) ≤ 10 ^ 6 := by omega
    simp only [a1, a2, decide_true, Bool.and_self]
  refine st_ret (T := yB (true && (decide ((r.num.natAbs : Int) ≤ 10 ^ 9) && decide ((r.den : Int) ≤ 10 ^ 6)))) sb (by
    walk_at "gv"
    exact .mk r) fun v B' H' g hv => q v B' H' g (by rw [e] at hv; exact hv)
theorem frz_yIs {l : List (List Int)} : Frz (yT (l.map yIs)) := frz_t fun t ht => by
  obtain ⟨x, _, rfl⟩ := List.mem_map.mp ht
  exact frz_is
theorem frz_pr {p : Int × Int} : Frz (yPr p) := frz_t fun t ht => by
  simp only [List.mem_cons, List.not_mem_nil, or_false] at ht
  rcases ht with rfl | rfl <;> exact frz_x
theorem frz_dl {D : Dl} : Frz (yDl D) := frz_t fun t ht => by
  obtain ⟨d, _, rfl⟩ := List.mem_map.mp ht
  refine frz_t fun t ht => ?_
  obtain ⟨ps, _, rfl⟩ := List.mem_map.mp ht
  refine frz_t fun t ht => ?_
  obtain ⟨p, _, rfl⟩ := List.mem_map.mp ht
  exact frz_pr
theorem frz_w {c : Int} {D : Dl} : Frz (yW CW c D) := frz_o fun p hp => by
  simp only [List.mem_cons, List.not_mem_nil, or_false] at hp
  rcases hp with rfl | rfl
  · exact frz_x
  · exact frz_dl
theorem frz_fs {r : Rat} : Frz (yFs r) := frz_t fun t ht => by
  simp only [List.mem_cons, List.not_mem_nil, or_false] at ht
  rcases ht with rfl | rfl <;> exact frz_x
theorem unf_lb {bs : List Bool} : Unf (yL (bs.map yB)) := unf_l fun t ht => by
  obtain ⟨x, _, rfl⟩ := List.mem_map.mp ht
  exact unf_x
theorem ok_chkp (D : Def K mg "check_prices" s_check_prices ["web", "thing"]) (bl : Blt mg) (c_is_step : Cal P w K mg base "is_step" 4 ["web", "thing"] (spG (Risstep CW))) (c_is_price : Cal P w K mg base "is_price" 3 ["thing"] (spG Rprc)) : Cal P w K mg base "check_prices" 5 ["web", "thing"] (spG (Rchkp CW)) := by
  have sc := sc_check_prices
  refine D.ok sc (fun Ts T r => by cases r; rfl) (fun f cdv A outer s H vs E B Ts T r sb a hr => ?_)
  refine ⟨_, (pss_one (ps_if (PW.pt (pw_or (pt_not (pt_val (pb_isi bl.isinstance_ (pa_cons (pv 1) (pa_cons (pe_bltn (v := .ty "dict") (by rfl) bl.dict_ (by decide +kernel) rfl) pa_nil))))) (pw_or1 (pt_not (pt_val (pb_all bl.all_ (pa_cons (pe_lock (pe_lc (own := [("step", 2)]) (g := (gName 2)) (tt := _) (by rfl) sc.nd (pi_keys (pv 1)) (blkOk_by (by kernel_rfl)) (fun _ _ _ _ _ => (pg_name (i := 2) sc.nd rfl (.inl rfl))) (fun _ _ _ _ _ => pts_nil) (fun _ _ _ _ _ => (pe_and (pe_cl c_is_step (hr.mono (by decide)) (pa_cons (pv 0) (pa_cons (pv 2) pa_nil))) (pe_one (pe_cl c_is_price (hr.mono (by decide)) (pa_cons (pe_dget (hu_of hr) (pv 1) (pv 2) (fun _ _ => rfl)) pa_nil))))))) pa_nil)))))))
  (pss_one ps_never)
  pss_nil)), fun Q q => ?_⟩
  cases r with
  | mk c D m o =>
  obtain ⟨v1, v2, rfl, h1, h2⟩ := all2 a
  refine st_if0 (B := B) sb (GvT.cast (b := !true || !((m.map fun _ => true).all id)) (gt_or (gt_not (gt_test (gv_isi (gv_var (i := 1) rfl h2 (Same.refl _)) gv_c isa_dT kit_dd))) fun _ => gt_not (gt_test (gv_all ?_))) (by simp)) fun B1 H1 g1 => q .non B1 H1 g1 rfl
  obtain ⟨d, kvs, rfl, hd, hk⟩ := h2
  refine gv_lock (d := d) hd trivial unf_lb fun od => ?_
  have hd2 : upd B d (.frz od (.dT kvs)) d = some (.frz od (.dT kvs)) := upd_same
  have hk2 := frz_dall (od := od) hd (u := .dT kvs) trivial (fun p hp => by
    obtain ⟨p0, _, rfl⟩ := List.mem_map.mp hp
    exact frz_fs) hk
  have hw2 := frz_w v1 B d od (.dT kvs) hd trivial h1
  refine Gv.cast (A := yL (m.map fun _ => yB true)) (gv_lc1 (F := fun (p : Nm × Rat) => yIs p.1) (gi_keys (gv_v rfl) hd2 hk2) (by rw [List.length_map]) (fun j p e => ?_) (by have := o.len; omega) (fun _ => rfl) fun j p x B2 hj s1 hx => ?_) (by rw [List.map_map]; rfl)
  · have e2 : ((m.map fun p => (p.1, yFs p.2)).map (·.1))[j]? = some p.1 := by rw [List.map_map, List.getElem?_map, e]; rfl
    show yIs (((m.map fun p => (p.1, yFs p.2)).map (·.1)).getD j []) = yIs p.1
    rw [List.getD_eq_getElem?_getD, e2]
    rfl
  · have hm := List.mem_of_getElem? hj
    obtain ⟨h, st, n, pr, e, ep⟩ := steps_mem.mp (o.keys p hm)
    have hl : look (m.map fun p => (p.1, yFs p.2)) p.1 = some (yFs p.2) := look_of_mem (by rw [List.map_map]; exact o.nd) (List.mem_map.mpr ⟨p, hm, rfl⟩)
    have hr2 : (yDr (m.map fun p => (p.1, yFs p.2))).p (.ref d) B2 := ⟨d, kvs, rfl, .inr ⟨od, s1 _ _ hd2⟩, hk2.m s1⟩
    refine Gv.cast (A := yB (true && true)) (gv_andB (gv_cl (ga_2 (gv_var (i := 0) rfl hw2 s1) (gv_var (i := 2) rfl hx (Same.refl _))) (gives_G (R := Risstep CW) (by rw [e]; exact .mk c D h st n pr ep))) fun _ => gv_cl (ga_1 (gv_dget (gv_var (i := 1) rfl hr2 (Same.refl _)) (gv_var (i := 2) rfl hx (Same.refl _)) isDT_r hl)) (gives_G (R := Rprc) (.mk _ (o.top p hm) (o.bot p hm)))) rfl
theorem ok_tabfor (D : Def K mg "table_for" s_table_for ["web", "prices"]) (c_check_prices : Cal P w K mg base "check_prices" 5 ["web", "thing"] (spG (Rchkp CW))) (c_table_of : Cal P w K mg base "table_of" 8 ["web", "prices"] (spG (Rtable K CW))) : Cal P w K mg base "table_for" 9 ["web", "prices"] (spG (Rtabfor K CW)) := by
  have sc := sc_table_for
  refine D.ok sc (fun Ts T r => by cases r; rfl) (fun f cdv A outer s H vs E B Ts T r sb a hr => ?_)
  refine ⟨_, (pss_cons (ps_expr (pe_cl c_check_prices (hr.mono (by decide)) (pa_cons (pv 0) (pa_cons (pv 1) pa_nil))))
(pss_cons (ps_set (i := 2) sc.nd rfl (.inl rfl) (pe_cl c_table_of (hr.mono (by decide)) (pa_cons (pv 0) (pa_cons (pv 1) pa_nil))))
(pss_cons (ps_if (pt_cmpR op_isN (pv 2) pe_non (nomark _))
  (pss_one ps_never)
  pss_nil)
(pss_one (ps_ret (pv 2)))))), fun Q q => ?_⟩
  cases r with
  | mk c D rank x m o pl po =>
  obtain ⟨v1, v2, rfl, h1, h2⟩ := all2 a
  refine sq_drop (T := yN) sb (gv_cl (ga_2 (gv_var (i := 0) rfl h1 (Same.refl _)) (gv_var (i := 1) rfl h2 (Same.refl _))) (gives_G (R := Rchkp CW) (.mk c D m po))) fun v B1 H1 g1 _ => ?_
  refine sq_set (T := yTab K D x) g1.in_ (gv_cl (ga_2 (gv_var (i := 0) rfl h1 g1.bs) (gv_var (i := 1) rfl h2 g1.bs)) (gives_G (R := Rtable K CW) (.mk c D rank x m o pl))) fun v3 B2 H2 g2 h3 => ?_
  refine sq_if0 g2.in_ (gt_test (gv_isN (gv_var (i := 2) rfl h3 (Same.refl _)) non_t)) fun B3 H3 g3 => st_ret (T := yTab K D x) g3.in_ (gv_var (i := 2) rfl h3 g3.bs) fun v B' H' g hv => q v B' H' (((g1.trans g2).trans g3).trans g) hv
end
end LD
set_option maxRecDepth 100000
set_option maxHeartbeats 400000
/-! LdObj: list comprehensions of two clauses; many owned objects. -/
namespace LD
open PySem PyProof.Rows L2
/-! ## two clauses -/
def rApp (te : TE) : RB := fun D σ H Nx => te σ H fun y H1 => ∃ acc, H1 D = some (.lst acc) ∧ acc.length < sizeLine ∧ Nx (upd H1 D (.lst (acc ++ [y])))
theorem tLc2_dg {wi wi1 : TI} {g g1 : TG} {tt tt1 : TT} {te : TE} {vs vs1 : List Nat} : tLc2 wi g tt wi1 g1 tt1 te vs vs1 = tDg (.lst []) wi g tt (rFor wi1 g1 tt1 vs1 (rApp te)) vs := rfl
section
variable {σ : L2.St} {B : Hp} {T : Ty} {te : TE} {ts : List Ty}
theorem rb_app (h : Gv te σ B T) (hl : ts.length < 100000) : RbO (rApp te) σ B (oL ts) (oL (ts ++ [T])) := fun D B1 s B0 H0 H hD g w Nx nx =>
  (h.m s) H g.in_ _ fun v B2 H2 g2 hv => by
    have w2 := w.m g2
    obtain ⟨o, h1, xs, rfl, h2⟩ := w2.ex
    exact ⟨xs, h1, by rw [h2.len]; exact size_lt hl, nx B2 _ ((g.trans g2).put w2 hD) (w2.put ⟨_, rfl, All.append (us := [T]) (ws := [v]) ⟨hv, trivial⟩ h2⟩)⟩
variable {wi wi1 : TI} {n : Nat} {Ts : Nat → Ty} {vs vs1 : List Nat} {α β : Type} {xs : List α} {f : α → List β} {F : α → Ty} {F1 E : β → Ty}
theorem take_fm {l : List α} {f : α → List β} {j : Nat} {a : α} (e : l[j]? = some a) : (l.take (j + 1)).flatMap f = (l.take j).flatMap f ++ f a := by
  rw [List.take_add_one, e, List.flatMap_append]
  simp
theorem fm_take_len {l : List α} {f : α → List β} (j : Nat) : ((l.take j).flatMap f).length ≤ (l.flatMap f).length := by
  conv => rhs; rw [← List.take_append_drop j l, List.flatMap_append, List.length_append]
  omega
theorem gv_lc2 {i i1 : Nat} {n1 : α → Nat} {Ts1 : α → Nat → Ty} (hi : GvI wi σ B n Ts) (hl : n = xs.length) (hT : ∀ j a, xs[j]? = some a → Ts j = F a) (hn : (xs.flatMap f).length < 100000) (hw : ∀ x, wipe ((wipe σ vs).set i (some x)) vs = wipe σ vs)
    (hi1 : ∀ (j : Nat) a x B2, xs[j]? = some a → Same B B2 → (F a).p x B2 → GvI wi1 ((wipe σ vs).set i (some x)) B2 (n1 a) (Ts1 a)) (hl1 : ∀ a, n1 a = (f a).length) (hT1 : ∀ a k b, (f a)[k]? = some b → Ts1 a k = F1 b)
    (hw1 : ∀ x y, wipe ((wipe ((wipe σ vs).set i (some x)) vs1).set i1 (some y)) vs1 = wipe ((wipe σ vs).set i (some x)) vs1)
    (hs : ∀ a b x y B3, a ∈ xs → b ∈ f a → Same B B3 → (F1 b).p y B3 → Gv te ((wipe ((wipe σ vs).set i (some x)) vs1).set i1 (some y)) B3 (E b)) : Gv (tLc2 wi (gName i) tYes wi1 (gName i1) tYes te vs vs1) σ B (yL ((xs.flatMap f).map E)) := by
  rw [tLc2_dg]
  subst hl
  refine Gv.imp (gv_dg (RR := fun j => oL (((xs.take j).flatMap f).map E)) (fun B => ⟨[], rfl, trivial⟩) hi fun j x B2 H2 hj s1 s2 hx Rq r => ?_) fun v B1 _ h => ?_
  · have e : xs[j]? = some xs[j] := List.getElem?_eq_getElem hj
    rw [hT j _ e] at hx
    refine r _ (hw x) true gt_yes (fun _ => ?_) (fun z => nomatch z)
    have key := rb_for (rb := rApp te) (RR := fun k => oL (((xs.take j).flatMap f ++ (f xs[j]).take k).map E)) (g := gName i1) (tt := tYes) (vs := vs1) (hi1 j _ x B2 e s1 hx) fun k y B3 H3 hk s3 s4 hy Rq r => ?_
    · rw [hl1, List.take_length] at key
      have e0 : ((xs.take j).flatMap f ++ (f xs[j]).take 0).map E = ((xs.take j).flatMap f).map E := by simp
      rw [take_fm e]
      rw [e0] at key
      exact key
    · rw [hl1] at hk
      have e2 : (f xs[j])[k]? = some (f xs[j])[k] := List.getElem?_eq_getElem hk
      rw [hT1 _ _ _ e2] at hy
      refine r _ (hw1 x y) true gt_yes (fun _ => ?_) (fun z => nomatch z)
      have e3 : ((xs.take j).flatMap f ++ (f xs[j]).take (k + 1)).map E = ((xs.take j).flatMap f ++ (f xs[j]).take k).map E ++ [E (f xs[j])[k]] := by
        rw [List.take_add_one, e2, ← List.append_assoc, List.map_append]
        rfl
      rw [e3]
      refine rb_app (hs _ _ x y B3 (List.mem_of_getElem? e) (List.mem_of_getElem? e2) (s1.trans s3) hy) ?_
      have l1 := fm_take_len (l := xs) (f := f) (j + 1)
      rw [take_fm e, List.length_append] at l1
      rw [List.length_map, List.length_append, List.length_take]
      omega
  · rw [List.take_length] at h
    exact oL_ty h
end
/-! ## dicts told by a list of pairs -/
section
variable {κ α : Type} [DecidableEq κ]
def mG (kf : κ → List Int) (F : α → Ty) (m : List (κ × α)) : List (List Int × Ty) := m.map fun p => (kf p.1, F p.2)
theorem mG_len {kf : κ → List Int} {F : α → Ty} {m : List (κ × α)} : (mG kf F m).length = m.length := List.length_map _
theorem mG_look {kf : κ → List Int} {F : α → Ty} (inj : ∀ a b, kf a = kf b → a = b) {m : List (κ × α)} {k : κ} : look (mG kf F m) (kf k) = (look m k).map F := by
  induction m with
  | nil => rfl
  | cons p m ih =>
    show look ((kf p.1, F p.2) :: mG kf F m) (kf k) = _
    rw [look, look]
    by_cases h : p.1 = k
    · rw [if_pos h, if_pos (by rw [h])]; rfl
    · rw [if_neg h, if_neg (fun z => h (inj _ _ z))]; exact ih
theorem mG_put {kf : κ → List Int} {F : α → Ty} (inj : ∀ a b, kf a = kf b → a = b) {m : List (κ × α)} {k : κ} {v : α} : put (mG kf F m) (kf k) (F v) = mG kf F (put m k v) := by
  induction m with
  | nil => rfl
  | cons p m ih =>
    show put ((kf p.1, F p.2) :: mG kf F m) (kf k) _ = _
    rw [put, put]
    by_cases h : p.1 = k
    · rw [if_pos h, if_pos (by rw [h])]; rfl
    · rw [if_neg h, if_neg (fun z => h (inj _ _ z)), ih]; rfl
theorem mG_keys {kf : κ → List Int} {F : α → Ty} {m : List (κ × α)} : (mG kf F m).map (·.1) = (m.map (·.1)).map kf := by
  unfold mG; rw [List.map_map, List.map_map]; rfl
theorem mG_nd {kf : κ → List Int} {F : α → Ty} (inj : ∀ a b, kf a = kf b → a = b) {m : List (κ × α)} (h : (m.map (·.1)).Nodup) : ((mG kf F m).map (·.1)).Nodup := by
  rw [mG_keys]
  exact nodup_map_on (fun a _ b _ e => inj a b e) h
end
def lk (e : Ln) : List Int := [e.1, e.2]
theorem lk_inj : ∀ a b : Ln, lk a = lk b → a = b := fun a b h => by
  unfold lk at h
  simp only [List.cons.injEq, and_true] at h
  exact Prod.ext h.1 h.2
theorem id_inj : ∀ a b : List Int, id a = id b → a = b := fun _ _ h => h
abbrev yLn (e : Ln) : Ty := yIs (lk e)
abbrev mB (m : Bst) := mG lk yIs m
abbrev mI (m : Rst) := mG lk (fun i => yI i) m
abbrev mL (m : List (Lot × Ln)) := mG (id : Lot → List Int) yLn m
abbrev mM (m : List (Lot × List Lot)) := mG (id : Lot → List Int) (fun ring => yL (ring.map yIs)) m
/-! ## many owned objects -/
def ext (B H : Hp) (ds : List Addr) : Hp := fun a => if a ∈ ds then H a else B a
def cut (B : Hp) (ds : List Addr) : Hp := fun a => if a ∈ ds then none else B a
section
variable {B H B0 H0 B1 H1 : Hp} {ds : List Addr} {a : Addr}
theorem cut_in (h : a ∈ ds) : cut B ds a = none := if_pos h
theorem cut_out (h : a ∉ ds) : cut B ds a = B a := if_neg h
theorem ext_in (h : a ∈ ds) : ext B H ds a = H a := if_pos h
theorem ext_out (h : a ∉ ds) : ext B H ds a = B a := if_neg h
theorem cut_sub : Same (cut B ds) B := fun a o e => by
  by_cases h : a ∈ ds
  · rw [cut_in h] at e; cases e
  · rw [cut_out h] at e; exact e
theorem ext_same (s : Same B H) : Same B (ext B H ds) := fun a o e => by
  by_cases h : a ∈ ds
  · rw [ext_in h]; exact s a o e
  · rw [ext_out h]; exact e
theorem ext_heap (s : Same B H) : Same (ext B H ds) H := fun a o e => by
  by_cases h : a ∈ ds
  · rw [ext_in h] at e; exact e
  · rw [ext_out h] at e; exact s a o e
/-- lent, and taken again -/
theorem Gr.ext (g : Gr (ext B H ds) H B1 H1) (n : ∀ d ∈ ds, B d = none) (e : ∀ d ∈ ds, H d ≠ none) : Gr B H (cut B1 ds) H1 :=
  ⟨fun a o h => by
    have hn : a ∉ ds := fun z => by rw [n a z] at h; cases h
    rw [cut_out hn]
    exact g.bs a o (by rw [ext_out hn]; exact h), g.hs, cut_sub.trans g.in_, fun a h => by
    by_cases z : a ∈ ds
    · rw [cut_in z] at h; exact absurd rfl h
    · rw [cut_out z] at h
      have k := g.nw a h
      rw [ext_out z] at k
      exact k⟩
/-- what was owned since the start was given away and came back -/
theorem Gr.over {B' H' : Hp} (g : Gr B0 H0 B H) (n : ∀ d ∈ ds, H0 d = none) (k : Gr B (cut H ds) B' H') : Gr B0 H0 B' H' :=
  ⟨g.bs.trans k.bs, fun a o e => k.hs a o (by rw [cut_out (fun z => by rw [n a z] at e; cases e)]; exact g.hs a o e), k.in_, fun a h => by
    rcases k.nw a h with h1 | h1 | ⟨xs, h1⟩
    · exact g.nw a h1
    · by_cases z : a ∈ ds
      · exact .inr (.inl (n a z))
      · rw [cut_out z] at h1
        exact .inr (.inl (g.hs.free h1))
    · by_cases z : a ∈ ds
      · rw [cut_in z] at h1; cases h1
      · rw [cut_out z] at h1
        cases e : H0 a with
        | none => exact .inr (.inl rfl)
        | some o =>
          rw [g.hs a o e] at h1
          exact .inr (.inr ⟨xs, h1⟩)⟩
theorem Gr.cut0 (s : Same B H) (n : ∀ d ∈ ds, B d = none) : Gr B (cut H ds) B H :=
  ⟨Same.refl _, cut_sub, s, fun a h => .inl h⟩
theorem same_cut (s : Same B H) (n : ∀ d ∈ ds, B d = none) : Same B (cut H ds) := fun a o e => by
  rw [cut_out (fun z => by rw [n a z] at e; cases e)]
  exact s a o e
/-- one of them changes -/
theorem Gr.mutC {B' H' : Hp} {d : Addr} {o : HO} (g : Gr B (cut H ds) B' H') (h : d ∈ ds) (nb : B' d = none) : Gr B (cut H ds) B' (upd H' d o) := g.mut (cut_in h) nb
theorem Ow.cut {d : Addr} {R : OT} (w : Ow d R B H) (h : d ∉ ds) : Ow d R B (cut H ds) := by
  obtain ⟨o, h1, h2⟩ := w.ex
  exact ⟨w.nb, o, by rw [cut_out h]; exact h1, h2⟩
/-- another one, over what was given away -/
theorem Ow.over {d : Addr} {R : OT} {B' H' : Hp} (w : Ow d R B H) (h : d ∉ ds) (k : Gr B (LD.cut H ds) B' H') : Ow d R B' H' := (w.cut h).m k
/-- steps of a change, one behind the other -/
theorem Gr.cuts {B' H' : Hp} {es : List Addr} (g : Gr B0 (cut H0 es) B H) (sub : ∀ d ∈ ds, d ∈ es) (k : Gr B (cut H ds) B' H') : Gr B0 (cut H0 es) B' H' := g.over (fun d hd => cut_in (sub d hd)) k
/-- lent: the type at the lent base -/
theorem Ow.ext {d : Addr} {R : OT} (w : Ow d R B H) (h : d ∈ ds) (s : Same B H) : R.ty.p (.ref d) (LD.ext B H ds) := by
  obtain ⟨o, h1, h2⟩ := w.ex
  exact ⟨d, o, rfl, by rw [ext_in h]; exact h1, R.m (ext_same s) h2⟩
/-- no tuple, no list -/
def NTL (o : HO) : Prop := (∀ xs, o ≠ .tup xs) ∧ ∀ xs, o ≠ .lst xs
def NoTL (B : Hp) (ds : List Addr) : Prop := ∀ d ∈ ds, ∀ o, B d = some o → NTL o
/-- nothing of T is at ds -/
def RmC (T : Ty) : Prop := ∀ (ds : List Addr) v B, NoTL B ds → T.p v B → T.p v (cut B ds)
theorem rc_x {x : V} : RmC (yX x) := fun _ _ _ _ h => h
theorem rc_all {ds : List Addr} {B : Hp} (n : NoTL B ds) : ∀ {ts : List Ty} {vs : List V}, (∀ t ∈ ts, RmC t) → All ts vs B → All ts vs (cut B ds)
  | [], [], _, _ => trivial
  | t :: ts, v :: vs, ht, h => ⟨ht t List.mem_cons_self ds v B n h.1, rc_all n (fun t' h' => ht t' (List.mem_cons_of_mem _ h')) h.2⟩
  | [], _ :: _, _, h => h.elim
  | _ :: _, [], _, h => h.elim
theorem rc_t {ts : List Ty} (ht : ∀ t ∈ ts, RmC t) : RmC (yT ts) := fun ds v B n ⟨a, vs, e, h, k⟩ => ⟨a, vs, e, by rw [cut_out (fun z => (n a z _ h).1 _ rfl)]; exact h, rc_all n ht k⟩
theorem rc_l {ts : List Ty} (ht : ∀ t ∈ ts, RmC t) : RmC (yL ts) := fun ds v B n ⟨a, vs, e, h, k⟩ => ⟨a, vs, e, by rw [cut_out (fun z => (n a z _ h).2 _ rfl)]; exact h, rc_all n ht k⟩
theorem rc_is {ns : List Int} : RmC (yIs ns) := rc_t fun t ht => by
  obtain ⟨m, _, rfl⟩ := List.mem_map.mp ht
  exact rc_x
theorem rc_li {l : List (List Int)} : RmC (yL (l.map yIs)) := rc_l fun t ht => by
  obtain ⟨m, _, rfl⟩ := List.mem_map.mp ht
  exact rc_is
theorem rc_mx {ns : List Int} : RmC (yMx ns) := fun _ _ _ _ h => h
theorem Gh.ext {σ : L2.St} {te : TE} {T : Ty} (s : Same B H) (n : ∀ d ∈ ds, B d = none) (e : ∀ d ∈ ds, ∃ o, H d = some o ∧ NTL o) (rm : RmC T) (h : Gv te σ (LD.ext B H ds) T) : Gh te σ B H T := fun Q q =>
  h H (ext_heap s) Q fun v B1 H1 g hv => q v _ H1 (g.ext n fun d hd => by
    obtain ⟨o, h1, _⟩ := e d hd
    rw [h1]; exact fun z => nomatch z) (rm ds v B1 (fun d hd o ho => by
    obtain ⟨o2, h1, h2⟩ := e d hd
    have h3 := g.bs d o2 (by rw [ext_in hd]; exact h1)
    rw [ho] at h3
    cases h3
    exact h2) hv)
theorem GhT.ext {σ : L2.St} {tt : TT} {b : Bool} (s : Same B H) (n : ∀ d ∈ ds, B d = none) (e : ∀ d ∈ ds, ∃ o, H d = some o ∧ NTL o) (h : GvT tt σ (LD.ext B H ds) b) : GhT tt σ B H b := fun Q q =>
  h H (ext_heap s) Q fun B1 H1 g => q _ H1 (g.ext n fun d hd => by
    obtain ⟨o, h1, _⟩ := e d hd
    rw [h1]; exact fun z => nomatch z)
theorem ntl_T {m : List (List Int × Ty)} {o : HO} {H : Hp} (h : (oT m).p o H) : NTL o := by
  obtain ⟨_, e, _⟩ := h
  subst e
  exact ⟨fun _ z => (by cases z), fun _ z => (by cases z)⟩
theorem ntl_O {C : Addr} {fs : Fs} {o : HO} {H : Hp} (h : (oO C fs).p o H) : NTL o := by
  obtain ⟨_, _, e, _⟩ := h
  subst e
  exact ⟨fun _ z => (by cases z), fun _ z => (by cases z)⟩
theorem ntl_I {m : List (Int × Ty)} {o : HO} {H : Hp} (h : (oI m).p o H) : NTL o := by
  obtain ⟨_, e, _⟩ := h
  subst e
  exact ⟨fun _ z => (by cases z), fun _ z => (by cases z)⟩
theorem Ow.ntT {d : Addr} {m : List (List Int × Ty)} (w : Ow d (oT m) B H) : ∃ o, H d = some o ∧ NTL o := by
  obtain ⟨o, h1, h2⟩ := w.ex
  exact ⟨o, h1, ntl_T h2⟩
theorem Ow.ntO {d C : Addr} {fs : Fs} (w : Ow d (oO C fs) B H) : ∃ o, H d = some o ∧ NTL o := by
  obtain ⟨o, h1, h2⟩ := w.ex
  exact ⟨o, h1, ntl_O h2⟩
end
section
variable {σ : L2.St} {B H : Hp} {K : PySem.W.Frag} {C a : Addr} {fs : Fs} {ns : List Str} {f : Str} {D : Ends} {tz : TS}
/-- x.f = {}, the first time -/
theorem hq_fdict {Ta : TE} (ht : Is Ta σ B H a) (w : Ow a (oO C fs) B H) (s : Same B H) (c : ClsF K C ns) (hf : f ∈ ns) (n : f ∉ fs.map (·.1)) (hl : fs.length < 100) (k : ∀ d B1 H1 o, H d = none → d ≠ a → Gr B H B1 H1 → Ow a (oO C (fs ++ [(f, yX (.ref d))])) B1 (upd H1 a o) → Ow d (oT []) B1 (upd H1 a o) → tz D σ (upd H1 a o)) : tSeq (sFld K Ta tDNewT f) tz D σ H := fun d hd => by
  have g := Gr.own (o := .dT []) s hd
  have ne : d ≠ a := fun z => w.there (z ▸ hd)
  have w2 : Ow d (oT []) B (upd H d (.dT [])) := Ow.new s hd ⟨[], rfl, trivial⟩
  exact ht_fnew (D := { D with nx := tz D }) (Ta := Ta) (te := tC (.ref d)) (σ := σ) (H := upd H d (.dT [])) (B := B) (fun B1 H1 g1 Q q => ht B1 H1 (g.trans g1) Q q) (w.m g) c hf n hl ((gv_c (v := .ref d)).h g.in_) (fun B1 H1 o g1 w3 => k d B1 H1 o hd ne (g.trans g1) w3 ((w2.m g1).else ne))
/-- x.f = [], the first time -/
theorem hq_flist {Ta : TE} (ht : Is Ta σ B H a) (w : Ow a (oO C fs) B H) (s : Same B H) (c : ClsF K C ns) (hf : f ∈ ns) (n : f ∉ fs.map (·.1)) (hl : fs.length < 100) (k : ∀ d B1 H1 o, H d = none → d ≠ a → Gr B H B1 H1 → Ow a (oO C (fs ++ [(f, yX (.ref d))])) B1 (upd H1 a o) → Ow d (oL []) B1 (upd H1 a o) → D.nx σ (upd H1 a o)) : sFld K Ta (tLst tNil) f D σ H := by
  refine ⟨by decide, fun d hd => ?_⟩
  have g := Gr.own (o := .lst []) s hd
  have ne : d ≠ a := fun z => w.there (z ▸ hd)
  have w2 : Ow d (oL []) B (upd H d (.lst [])) := Ow.new s hd ⟨[], rfl, trivial⟩
  exact ht_fnew (D := D) (Ta := Ta) (te := tC (.ref d)) (σ := σ) (H := upd H d (.lst [])) (B := B) (fun B1 H1 g1 Q q => ht B1 H1 (g.trans g1) Q q) (w.m g) c hf n hl ((gv_c (v := .ref d)).h g.in_) (fun B1 H1 o g1 w3 => k d B1 H1 o hd ne (g.trans g1) w3 ((w2.m g1).else ne))
end
end LD
set_option maxRecDepth 100000
set_option maxHeartbeats 400000
/-! LdLeads: leads_by_step -/

namespace LD
open PySem PyProof.Rows L2
abbrev s_leads_by_step : Stmt := topS 61
theorem sc_leads_by_step : FnScope ["web", "told", "bottom", "leads", "lead", "found", "step"] ["web", "told"] (defScope s_leads_by_step) :=
  ⟨rfl, rfl, rfl, by decide +kernel, rfl, by decide +kernel, by decide +kernel⟩
def leadsAll (D : Dl) (x : Nm → Rat) : List Rat := (leadRows D x D.length).flatMap fun l => l
def botAll (D : Dl) (x : Nm → Rat) : Nat := botOf (leadsAll D x)
def doorF (D : Dl) : List Int → Int
  | [h, s, n] => ((pairAt D h.toNat s.toNat n.toNat).getD (0, 0)).1
  | _ => 0
def nextF (D : Dl) : List Int → Int
  | [h, s, n] => ((pairAt D h.toNat s.toNat n.toNat).getD (0, 0)).2
  | _ => 0
theorem doorF_eq {D : Dl} {h s n : Nat} {p : Int × Int} (e : pairAt D h s n = some p) : doorF D (stp h s n) = p.1 := by
  unfold doorF stp
  simp only [Int.toNat_natCast, e, Option.getD_some]
theorem nextF_eq {D : Dl} {h s n : Nat} {p : Int × Int} (e : pairAt D h s n = some p) : nextF D (stp h s n) = p.2 := by
  unfold nextF stp
  simp only [Int.toNat_natCast, e, Option.getD_some]
/-- a step's lead -/
def leadS (D : Dl) (x : Nm → Rat) (st : List Int) : Rat := lead0 x (st.getD 0 0).toNat (nextF D st).toNat
/-- the weight of a step: its lead over the common bottom -/
def leadW (D : Dl) (x : Nm → Rat) (st : List Int) : Int := (leadS D x st).num * ((botAll D x : Int).fdiv (leadS D x st).den)
/-- weights of steps -/
abbrev mW (W : List Int → Int) (ss : List (List Int)) : List (List Int × Ty) := ss.map fun st => (st, yI (W st))
abbrev yWts (W : List Int → Int) (ss : List (List Int)) : Ty := yDT (mW W ss)
theorem bot_fold {rs : List Rat} : ∀ n : Nat, 0 < n → n ∣ 12 → (∀ r ∈ rs, r.den ∣ 12) → 0 < rs.foldl (fun n r => Nat.lcm n r.den) n ∧ rs.foldl (fun n r => Nat.lcm n r.den) n ∣ 12 ∧ n ∣ rs.foldl (fun n r => Nat.lcm n r.den) n ∧ ∀ r ∈ rs, r.den ∣ rs.foldl (fun n r => Nat.lcm n r.den) n := by
  induction rs with
  | nil => intro n h1 h2 _; exact ⟨h1, h2, Nat.dvd_refl _, fun r hr => by cases hr⟩
  | cons r rs ih =>
    intro n h1 h2 h3
    have hr := h3 r List.mem_cons_self
    obtain ⟨a, b, c, d⟩ := ih (Nat.lcm n r.den) (Nat.lcm_pos h1 r.den_pos) (Nat.lcm_dvd h2 hr) fun q hq => h3 q (List.mem_cons_of_mem _ hq)
    rw [List.foldl_cons]
    refine ⟨a, b, Nat.dvd_trans (Nat.dvd_lcm_left _ _) c, fun q hq => ?_⟩
    rcases List.mem_cons.mp hq with rfl | hq
    · exact Nat.dvd_trans (Nat.dvd_lcm_right _ _) c
    · exact d q hq
theorem bot_ok {rs : List Rat} (h : ∀ r ∈ rs, r.den ∣ 12) : 0 < botOf rs ∧ botOf rs ∣ 12 ∧ ∀ r ∈ rs, r.den ∣ botOf rs := by
  obtain ⟨a, b, _, d⟩ := bot_fold 1 (by decide) (by decide) h
  exact ⟨a, b, d⟩
/-- a twelfth: its bottom divides 12 -/
theorem tw_den {a : Rat} (h : ∃ X : Int, X.natAbs ≤ 72 ∧ a * 12 = (X : Rat)) : a.den ∣ 12 ∧ a.num.natAbs ≤ 72 := by
  obtain ⟨X, h1, h2⟩ := h
  have e : a.num * 12 = X * (a.den : Int) := by
    have hd := den_ne a
    have h3 := rat_nd a
    have h4 : (a.num : Rat) * 12 = (X : Rat) * (((a.den : Nat) : Int) : Rat) := by
      generalize (((a.den : Nat) : Int) : Rat) = b at *
      generalize (a.num : Rat) = z at *
      generalize (X : Rat) = y at *
      clear h1
      grind
    exact_mod_cast h4
  have en : a.num.natAbs * 12 = X.natAbs * a.den := by
    have := congrArg Int.natAbs e
    rw [Int.natAbs_mul, Int.natAbs_mul, Int.natAbs_natCast] at this
    exact this
  have hd : a.den ∣ 12 := by
    have h5 : a.den ∣ a.num.natAbs * 12 := ⟨X.natAbs, by rw [en, Nat.mul_comm]⟩
    exact (Nat.Coprime.dvd_of_dvd_mul_left (Nat.Coprime.symm a.reduced) h5)
  refine ⟨hd, ?_⟩
  have h12 : a.den ≤ 12 := Nat.le_of_dvd (by decide) hd
  have h6 : X.natAbs * a.den ≤ 72 * 12 := Nat.mul_le_mul h1 h12
  omega
theorem tw_lead {x : Nm → Rat} (tw : Twelfth x) (h s : Nat) : ∃ X : Int, X.natAbs ≤ 72 ∧ lead0 x h s * 12 = (X : Rat) := by
  unfold lead0
  split
  · exact tw _
  · exact tw_0
theorem leadsAll_ok {D : Dl} {x : Nm → Rat} (o : Small D) (tw : Twelfth x) : (∀ r ∈ leadsAll D x, r.den ∣ 12) ∧ (leadsAll D x).length ≤ 9 ∧ ∀ (h : Nat) (s : Nat) d, D[h]? = some d → s < d.length → lead0 x h s ∈ leadsAll D x := by
  refine ⟨fun r hr => ?_, ?_, fun h s d hd hs => ?_⟩
  · obtain ⟨l, hl, hr⟩ := List.mem_flatMap.mp hr
    obtain ⟨h, _, rfl⟩ := List.mem_map.mp hl
    obtain ⟨s, _, rfl⟩ := List.mem_map.mp hr
    exact (tw_den (tw_lead tw h s)).1
  · have h1 := fm_len (l := leadRows D x D.length) (f := fun l => l) (m := 3) fun l hl => by
      obtain ⟨h, hh, rfl⟩ := List.mem_map.mp hl
      unfold leadRow
      rw [List.length_map, List.length_range, List.getElem?_eq_getElem (List.mem_range.mp hh)]
      exact o.dl _ (List.getElem_mem _)
    have h2 : (leadRows D x D.length).length = D.length := by unfold leadRows; rw [List.length_map, List.length_range]
    have := o.hl
    unfold leadsAll
    rw [h2] at h1
    omega
  · refine List.mem_flatMap.mpr ⟨leadRow x h d, List.mem_map.mpr ⟨h, List.mem_range.mpr (List.getElem?_eq_some_iff.mp hd).1, by rw [hd]; rfl⟩, List.mem_map.mpr ⟨s, List.mem_range.mpr hs, rfl⟩⟩
theorem steps_nodup (D : Dl) : (steps D).Nodup := by
  unfold steps stAll List.Nodup
  rw [List.pairwise_flatMap]
  refine ⟨fun h hh => ?_, ?_⟩
  · unfold stHouse
    rw [List.pairwise_flatMap]
    refine ⟨fun s hs => ?_, ?_⟩
    · unfold stIn
      exact nodup_map_on (fun a _ b _ e => by unfold stp at e; simp at e; omega) List.nodup_range
    · refine List.Pairwise.imp (fun {a b} (ne : a ≠ b) x hx y hy e => ?_) (List.nodup_range (n := ((D[h]?).getD []).length))
      unfold stIn at hx hy
      obtain ⟨n, _, rfl⟩ := List.mem_map.mp hx
      obtain ⟨n2, _, rfl⟩ := List.mem_map.mp hy
      unfold stp at e
      simp at e
      exact ne (by omega)
  · refine List.Pairwise.imp (fun {a b} (ne : a ≠ b) x hx y hy e => ?_) (List.nodup_range (n := D.length))
    unfold stHouse at hx hy
    obtain ⟨s, _, hx⟩ := List.mem_flatMap.mp hx
    obtain ⟨s2, _, hy⟩ := List.mem_flatMap.mp hy
    unfold stIn at hx hy
    obtain ⟨n, _, rfl⟩ := List.mem_map.mp hx
    obtain ⟨n2, _, rfl⟩ := List.mem_map.mp hy
    unfold stp at e
    simp at e
    exact ne (by omega)
theorem mW_keys {W : List Int → Int} {ss : List (List Int)} : (mW W ss).map (·.1) = ss := by
  unfold mW
  rw [List.map_map]
  show ss.map (fun st => st) = ss
  simp
theorem mW_look {W : List Int → Int} {ss : List (List Int)} {st : List Int} (h : st ∈ ss) (n : ss.Nodup) : look (mW W ss) st = some (yI (W st)) := look_of_mem (by rw [mW_keys]; exact n) (List.mem_map.mpr ⟨st, h, rfl⟩)
theorem nodup_take_no {α : Type} {l : List α} {i : Nat} {a : α} (n : l.Nodup) (e : l[i]? = some a) : a ∉ l.take i := fun h => by
  obtain ⟨j, hj⟩ := List.getElem?_of_mem h
  have hlt : j < (l.take i).length := (List.getElem?_eq_some_iff.mp hj).1
  rw [List.length_take] at hlt
  rw [List.getElem?_take, if_pos (by omega)] at hj
  have := (List.getElem?_inj (by omega : j < l.length) n).mp (hj.trans e.symm)
  omega
inductive Rleads (K : PySem.W.Frag) (CW : Addr) : List Ty → Ty → Prop
  | mk (c : Int) (D : Dl) (rank : Nat → Nat) (x : Nm → Rat) (o : WebOk c D rank) (tw : Twelfth x) : Rleads K CW [yW CW c D, yTab K D x] (yT [yWts (leadW D x) (steps D), yI (botAll D x : Int)])
section
variable {P : Program} {w : World} {K : PySem.W.Frag} {mg : Str → Option Value} {base : Heap} {CW : Addr}
theorem ok_leads (D : Def K mg "leads_by_step" s_leads_by_step ["web", "told"]) (c_common_bottom : Cal P w K mg base "common_bottom" 2 ["fractions"] (spG (Rbottom K))) (c_all_steps : Cal P w K mg base "all_steps" 1 ["web"] (spG (Rsteps CW))) (c_next_at : Cal P w K mg base "next_at" 1 ["web", "step"] (spG (Rnext CW))) : Cal P w K mg base "leads_by_step" 3 ["web", "told"] (spG (Rleads K CW)) := by
  have sc := sc_leads_by_step
  refine D.ok sc (fun Ts T r => by cases r; rfl) (fun f cdv A outer s H vs E B Ts T r sb a hr => ?_)
  refine ⟨_, (pss_cons (ps_set (i := 2) sc.nd rfl (.inl rfl) (pe_cl c_common_bottom (hr.mono (by decide)) (pa_cons (pe_lc2 (vs1 := [4]) (own := [("leads", 3), ("lead", 4)]) (g := (gName 3)) (tt := _) (by rfl) sc.nd (pi_tupK K rfl (pe_ix (ix_tupK K rfl) (pv 1) pe_int (fun _ _ => rfl))) (blkOk_by (by kernel_rfl)) (by decide) (fun _ _ _ _ _ => (pg_name (i := 3) sc.nd rfl (.inl rfl))) (fun _ _ _ _ _ => pts_nil) (fun _ _ _ _ _ => (pi_tupK K rfl (pv 3))) (fun _ _ _ _ _ => (pg_name (i := 4) sc.nd rfl (.inl rfl))) (fun _ _ _ _ _ => pts_nil) (fun _ _ _ _ _ => (pv 4))) pa_nil)))
(pss_cons (ps_set (i := 5) sc.nd rfl (.inl rfl) pe_dnewT)
(pss_cons (ps_for PassesOwn.never rfl (pi_listK K rfl (pe_cl c_all_steps (hr.mono (by decide)) (pa_cons (pv 0) pa_nil))) (pg_name (i := 6) sc.nd rfl (.inl rfl))
  (pss_cons (ps_set (i := 4) sc.nd rfl (.inl rfl) (pe_ix (ix_tupK K rfl) (pe_ix (ix_tupK K rfl) (pe_ix (ix_tupK K rfl) (pv 1) pe_int (fun _ _ => rfl)) (pe_ix (ix_tupK K rfl) (pv 6) pe_int (fun _ _ => rfl)) (fun _ _ => rfl)) (pe_cl c_next_at (hr.mono (by decide)) (pa_cons (pv 0) (pa_cons (pv 6) pa_nil))) (fun _ _ => rfl)))
(pss_one (ps_dput (hu_of hr) (pv 5) (pv 6) (pe_op op_mulW (pe_ix (ix_tupK K rfl) (pv 4) pe_int (fun _ _ => rfl)) (pe_op op_fdivZ (pv 2) (pe_ix (ix_tupK K rfl) (pv 4) pe_int (fun _ _ => rfl)))) rfl))))
(pss_one (ps_ret (pe_tup (pa_cons (pv 5) (pa_cons (pv 2) pa_nil)))))))), fun Q q => ?_⟩
  cases r with
  | mk c D rank x o tw =>
  obtain ⟨v1, v2, rfl, h1, h2⟩ := all2 a
  obtain ⟨la, lb, lc⟩ := leadsAll_ok o.sm tw
  obtain ⟨ba, bb, bc⟩ := bot_ok la
  have told1 : ∀ σ : L2.St, σ[1]? = some (some v2) → ∀ B', Same B B' → Gv (tOp (rIxT K) (tVar 1) (tC (.int 1))) σ B' (yT ((leadRows D x D.length).map (yFl K))) := fun σ hσ B' s' => gv_ixT (i := 1) (j := 1) (gv_var hσ h2 s') gv_c isTu_t rfl rfl
  refine sq_set (T := yI (botAll D x : Int)) sb (gv_cl (Ts := [yL ((leadsAll D x).map (yF K))]) (ga_1 (gv_lc2 (f := fun l => l) (F := yFl K) (F1 := yF K) (n1 := fun l => (l.map (yF K)).length) (Ts1 := fun l => tyAt (l.map (yF K))) (gi_tup (told1 _ rfl _ (Same.refl _)) isTu_t) (by rw [List.length_map]) hT_map (by have : ((leadRows D x D.length).flatMap fun l => l).length ≤ 9 := lb; omega) (fun _ => rfl) (fun j l y B2 hj s1 hy => gi_tup (gv_var (i := 3) rfl hy (Same.refl _)) isTu_t) (fun l => by rw [List.length_map]) (fun l k b e => hT_map k b e) (fun _ _ => rfl) fun l b y z B3 hl hb s3 hz => gv_var (i := 4) rfl hz (Same.refl _))) (gives_G (R := Rbottom K) (.mk _ la (by omega)))) fun v B1 H1 g1 hv => ?_
  obtain rfl : v = .int (botAll D x : Int) := hv
  refine hq_newT g1.in_ fun d H2 g2 hd w2 => ?_
  have gg := g1.trans g2
  have hd0 : H d = none := g1.hs.free hd
  have len : (steps D).length ≤ 27 := o.sm.all D.length o.sm.hl
  refine sq_for g2.in_ (gi_list (gv_cl (ga_1 (gv_var (i := 0) rfl h1 gg.bs)) (gives_G (R := Rsteps CW) (.mk c D o.sm))) isLs_l) (fun i σ B5 H5 => ∃ n3 n4 n6, σ = [some v1, some v2, some (.int (botAll D x : Int)), n3, n4, some (.ref d), n6] ∧ Ow d (oT (mW (leadW D x) ((steps D).take i))) B5 H5 ∧ Gr B H B5 H5)
    (fun B5 H5 g5 => ⟨_, _, _, rfl, w2.m g5, gg.trans g5⟩) (fun Bs i z σ B5 H5 B6 H6 hi s1 s2 s3 hP g6 hz => ?_) (fun σ B5 H5 s1 s2 hP => ?_)
  · obtain ⟨n3, n4, n6, rfl, w5, gg5⟩ := hP
    rw [List.length_map] at hi
    obtain ⟨st, hst⟩ : ∃ r, (steps D)[i]? = some r := ⟨_, List.getElem?_eq_getElem hi⟩
    rw [hT_map i st hst] at hz
    have mem := List.mem_of_getElem? hst
    obtain ⟨h, sd, n, p, e, ep⟩ := steps_mem.mp mem
    obtain ⟨dl, ps, e1, e2, e3⟩ := pairAt_some ep
    have ib := o.inb dl (List.mem_of_getElem? e1) ps (List.mem_of_getElem? e2) p (List.mem_of_getElem? e3)
    have l1 := (List.getElem?_eq_some_iff.mp e1).1
    have gg6 := gg5.trans g6
    have eL : leadS D x st = lead0 x h p.2.toNat := by
      unfold leadS
      rw [e, nextF_eq ep]
      rfl
    have twl := tw_den (tw_lead tw h p.2.toNat)
    -- the lead
    refine sq_set (i := 4) (T := yF K (leadS D x st)) g6.in_ (gv_ixT (i := p.2) (j := p.2.toNat) (ts := (leadRow x h dl).map (yF K)) (gv_ixT (i := (h : Int)) (j := h) (told1 _ rfl _ gg6.bs) (gv_ixT (i := 0) (j := 0) (T := yI (h : Int)) (gv_var (i := 6) rfl hz (Same.refl _)) gv_c isTu_t rfl (by rw [e]; rfl)) isTu_t rfl ?_) (gv_cl (ga_2 (gv_var (i := 0) rfl h1 gg6.bs) (gv_var (i := 6) rfl hz (Same.refl _))) (gives_G (R := Rnext CW) (by rw [e]; exact .mk c D h sd n p ep))) isTu_t (by omega) ?_) fun v4 B7 H7 g7 hv4 => ?_
    · rw [List.getElem?_map]
      unfold leadRows
      rw [List.getElem?_map, List.getElem?_range l1]
      simp only [Option.map_some, e1, Option.getD_some]
    · have l2 : p.2.toNat < dl.length := by omega
      rw [List.getElem?_map]
      unfold leadRow
      rw [List.getElem?_map, List.getElem?_range l2, eL]
      rfl
    · have w7 := (w5.m g6).m g7
      have no := nodup_take_no (steps_nodup D) hst
      have hL12 : (leadS D x st).den ∣ 12 ∧ (leadS D x st).num.natAbs ≤ 72 := by rw [eL]; exact twl
      have hWt : (mW (leadW D x) ((steps D).take (i + 1))) = put (mW (leadW D x) ((steps D).take i)) st (yI (leadW D x st)) := by
        rw [put_new (by rw [mW_keys]; exact no), List.take_add_one, hst]
        unfold mW
        rw [Option.toList_some, List.map_append]
        rfl
      refine ht_dputT (ks := st) (is_var rfl) w7 g7.in_ (T := yI (leadW D x st)) (by rw [mW_keys]; exact List.Nodup.sublist (List.take_sublist _ _) (steps_nodup D)) (by rw [List.length_map, List.length_take]; omega) (Gv.h ?_ g7.in_) (gv_var (i := 6) rfl hz g7.bs) fun B8 H8 o8 g8 w8 => ?_
      · have b12 : botAll D x ≤ 12 := Nat.le_of_dvd (by decide) bb
        have d12 : (leadS D x st).den ≤ 12 := Nat.le_of_dvd (by decide) hL12.1
        have dpos := (leadS D x st).den_pos
        have q1 : ((botAll D x : Int).fdiv ((leadS D x st).den : Int)).natAbs ≤ 12 := by
          rw [Int.fdiv_eq_ediv_of_nonneg _ (by omega), ← Int.natCast_ediv, Int.natAbs_natCast]
          exact Nat.le_trans (Nat.div_le_self _ _) b12
        unfold leadW
        show Gv _ _ _ (yX (V.int _))
        refine gv_IC (gv_ixT (i := 0) (j := 0) (T := yI (leadS D x st).num) (gv_var (i := 4) rfl hv4 (Same.refl _)) gv_c isTu_f rfl rfl) (gv_IC (gv_v rfl) (gv_ixT (i := 1) (j := 1) (T := yI (leadS D x st).den) (gv_var (i := 4) rfl hv4 (Same.refl _)) gv_c isTu_f rfl rfl) ?_) ?_
        · exact divZ (b := 4) (by omega) (by rw [Int.natAbs_natCast]; omega) (by decide) (by decide)
        · exact wide_mul (a := 7) (b := 4) (by omega) (by omega) (by decide) (by decide) (by decide)
      · refine ⟨B8, s2.trans (g6.bs.trans (g7.bs.trans g8.bs)), (w7.m g8).same g8.in_, _, _, _, rfl, ?_, ((gg6.trans g7).trans g8).put (w7.m g8) hd0⟩
        rw [hWt]
        exact w8
  · obtain ⟨n3, n4, n6, rfl, w5, gg5⟩ := hP
    rw [List.length_map, List.take_length] at w5
    obtain ⟨B6, g6, s6, h6⟩ := w5.pub gg5 hd0
    have h6 := oT_ty h6
    refine st_ret g6.in_ (gv_tup2 (gv_var (i := 5) rfl h6 (Same.refl _)) (gv_v (i := 2) rfl)) fun v B' H' g hv => q v B' H' (g6.trans g) hv
end
end LD
set_option maxRecDepth 100000
set_option maxHeartbeats 400000
/-! LdSort: sorted. -/
namespace LD
open PySem PyProof.Rows L2
theorem insI_perm {a : Int} : ∀ l : List Int, (insI a l).Perm (a :: l)
  | [] => List.Perm.refl _
  | b :: l => by
    unfold insI
    split
    · exact List.Perm.refl _
    · exact ((insI_perm l).cons b).trans (List.Perm.swap a b l)
theorem sortI_perm : ∀ l : List Int, (sortI l).Perm l
  | [] => List.Perm.refl _
  | a :: l => (insI_perm _).trans ((sortI_perm l).cons a)
theorem insI_srt {a : Int} : ∀ {l : List Int}, l.Pairwise (· ≤ ·) → (insI a l).Pairwise (· ≤ ·)
  | [], _ => by simp [insI]
  | b :: l, h => by
    obtain ⟨h1, h2⟩ := List.pairwise_cons.mp h
    unfold insI
    split
    · rename_i z
      refine List.pairwise_cons.mpr ⟨fun x hx => ?_, h⟩
      rcases List.mem_cons.mp hx with rfl | hx
      · exact z
      · have := h1 x hx; omega
    · rename_i z
      refine List.pairwise_cons.mpr ⟨fun x hx => ?_, insI_srt h2⟩
      rcases List.mem_cons.mp ((insI_perm l).mem_iff.mp hx) with rfl | hx
      · omega
      · exact h1 x hx
theorem sortI_srt : ∀ l : List Int, (sortI l).Pairwise (· ≤ ·)
  | [] => List.Pairwise.nil
  | a :: l => insI_srt (sortI_srt l)
theorem sortI_eq {ms ns : List Int} (p : ms.Perm ns) (s : ms.Pairwise (· ≤ ·)) : ms = sortI ns :=
  List.Perm.eq_of_pairwise (fun a b _ _ h1 h2 => by omega) s (sortI_srt ns) (p.trans (sortI_perm ns).symm)
def leLn (a b : Ln) : Prop := a.1 < b.1 ∨ (a.1 = b.1 ∧ a.2 ≤ b.2)
theorem lexLe_iff {a b : Ln} : lexLe a b = true ↔ leLn a b := by
  unfold lexLe leLn
  simp
theorem insLn_perm {a : Ln} : ∀ l : List Ln, (insLn a l).Perm (a :: l)
  | [] => List.Perm.refl _
  | b :: l => by
    unfold insLn
    split
    · exact List.Perm.refl _
    · exact ((insLn_perm l).cons b).trans (List.Perm.swap a b l)
theorem sortLn_perm : ∀ l : List Ln, (sortLn l).Perm l
  | [] => List.Perm.refl _
  | a :: l => (insLn_perm _).trans ((sortLn_perm l).cons a)
theorem leLn_tr {a b c : Ln} (h1 : leLn a b) (h2 : leLn b c) : leLn a c := by unfold leLn at *; omega
theorem leLn_no {a b : Ln} (h : ¬ lexLe a b = true) : leLn b a := by rw [lexLe_iff] at h; unfold leLn at *; omega
theorem insLn_srt {a : Ln} : ∀ {l : List Ln}, l.Pairwise leLn → (insLn a l).Pairwise leLn
  | [], _ => by simp [insLn]
  | b :: l, h => by
    obtain ⟨h1, h2⟩ := List.pairwise_cons.mp h
    unfold insLn
    split
    · rename_i z
      refine List.pairwise_cons.mpr ⟨fun x hx => ?_, h⟩
      rcases List.mem_cons.mp hx with rfl | hx
      · exact lexLe_iff.mp z
      · exact leLn_tr (lexLe_iff.mp z) (h1 x hx)
    · rename_i z
      refine List.pairwise_cons.mpr ⟨fun x hx => ?_, insLn_srt h2⟩
      rcases List.mem_cons.mp ((insLn_perm l).mem_iff.mp hx) with rfl | hx
      · exact leLn_no z
      · exact h1 x hx
theorem sortLn_srt : ∀ l : List Ln, (sortLn l).Pairwise leLn
  | [] => List.Pairwise.nil
  | a :: l => insLn_srt (sortLn_srt l)
theorem sortLn_eq {ms ns : List Ln} (p : ms.Perm ns) (s : ms.Pairwise leLn) : ms = sortLn ns :=
  List.Perm.eq_of_pairwise (fun a b _ _ h1 h2 => by unfold leLn at *; exact Prod.ext (by omega) (by omega)) s (sortLn_srt ns) (p.trans (sortLn_perm ns).symm)
section
variable {σ : L2.St} {B : Hp} {te : TE} {K : PySem.W.Frag}
theorem gv_sortIs {ns : List Int} (h : Gv te σ B (yL (ns.map yI))) : Gv (tCB (rSortedI K) (tCons te tNil)) σ B (yL ((sortI ns).map yI)) :=
  (gv_sortI h).imp fun v B1 _ ⟨ms, p, s, k⟩ => by
    rw [← sortI_eq p s]; exact k
theorem srt_imp {ns : List Int} {v : V} {B : Hp} (h : (ySrt ns).p v B) : (yL ((sortI ns).map yI)).p v B := by
  obtain ⟨ms, p, s, k⟩ := h
  rw [← sortI_eq p s]; exact k
/-- the pair that stands at a reference -/
def kOf (H : Hp) : V → Ln
  | .ref t => match H t with
    | some (.tup [.int a, .int b]) => (a, b)
    | _ => (0, 0)
  | _ => (0, 0)
theorem kOf_at {H : Hp} {e : Ln} {v : V} (h : (yLn e).p v H) : kOf H v = e ∧ ∃ t, v = .ref t ∧ H t = some (.tup [.int e.1, .int e.2]) := by
  obtain ⟨a, rfl, h3⟩ := yIs_iff.mp h
  have h4 : H a = some (.tup [.int e.1, .int e.2]) := h3
  refine ⟨?_, a, rfl, h4⟩
  show (match H a with | some (.tup [.int a, .int b]) => (a, b) | _ => (0, 0)) = e
  rw [h4]
theorem kOf_all {H : Hp} : ∀ {es : List Ln} {vs : List V}, All (es.map yLn) vs H → vs.map (kOf H) = es
  | [], [], _ => rfl
  | e :: es, v :: vs, h => by rw [List.map_cons, (kOf_at h.1).1, kOf_all h.2]
  | [], _ :: _, h => h.elim
  | _ :: _, [], h => h.elim
theorem all_kOf {H : Hp} {es : List Ln} {vs : List V} (h : All (es.map yLn) vs H) {v : V} (hv : v ∈ vs) : (yLn (kOf H v)).p v H := by
  obtain ⟨i, hi⟩ := List.getElem?_of_mem hv
  obtain ⟨T, h1, h2⟩ := h.at hi
  rw [List.getElem?_map] at h1
  cases e : es[i]? with
  | none => rw [e] at h1; cases h1
  | some x =>
    rw [e] at h1
    cases h1
    rw [(kOf_at h2).1]
    exact h2
theorem all_of_kOf {H : Hp} : ∀ {vs : List V}, (∀ v ∈ vs, (yLn (kOf H v)).p v H) → All ((vs.map (kOf H)).map yLn) vs H
  | [], _ => trivial
  | v :: vs, h => ⟨h v List.mem_cons_self, all_of_kOf fun u hu => h u (List.mem_cons_of_mem _ hu)⟩
theorem gv_sortP {es : List Ln} (h : Gv te σ B (yL (es.map yLn))) : Gv (tCB (rSortedPO K) (tCons te tNil)) σ B (yL ((sortLn es).map yLn)) :=
  gv_cb (ga_1 h) fun vs B1 H1 _ s hvs Q q => by
    obtain ⟨v, rfl, a, ws, rfl, hl, k⟩ := all1 hvs
    refine ⟨a, ws, kOf B1, rfl, SqL.of (s _ _ hl), fun x hx => ?_, fun ys p h1 h2 hp => ?_⟩
    · obtain ⟨t, e, e2⟩ := (kOf_at (all_kOf k hx)).2
      exact ⟨t, e, s _ _ e2⟩
    · refine q _ _ _ (Gr.new s hp) ⟨p, _, rfl, upd_same, All.m (same_new (s.free hp)) ?_⟩
      have e : ys.map (kOf B1) = sortLn es := by
        refine sortLn_eq ?_ ?_
        · rw [← kOf_all k]
          exact h2.perm.map _
        · rw [List.pairwise_map]
          refine List.Pairwise.imp (fun {x y} hxy => ?_) h1
          have := SrtO.lexB_no.mp hxy
          unfold leLn
          omega
      rw [← e]
      exact all_of_kOf fun v hv => all_kOf k (h2.perm.mem_iff.mp hv)
end
section
variable {σ : L2.St} {d : Addr} {B H : Hp} {ty tv td : TE} {D : Ends} {m : List (List Int × Ty)}
theorem put_len_in {κ α : Type} [DecidableEq κ] {m : List (κ × α)} {k : κ} {v u : α} (h : look m k = some u) : (put m k v).length = m.length := by
  have := put_mem_keys (v := v) (look_key h)
  have := congrArg List.length this
  simpa using this
/-- d[k] -= j -/
theorem ht_dsubT {ks : List Int} {i j : Int} (hd : Is td σ B H d) (w : Ow d (oT m) B H) (s : Same B H) (hn : (m.map (·.1)).Nodup) (hl : m.length < 100000) (e : look m ks = some (yI i)) (hy : Gv ty σ B (yIs ks)) (h : Gv tv σ B (yI j)) (k : ∀ B1 H1 o, Gr B H B1 H1 → Ow d (oT (put m ks (yI (i - j)))) B1 (upd H1 d o) → D.nx σ (upd H1 d o)) : sDAug td ty tv rSub D σ H := by
  refine hd B H (Gr.refl s) _ (hy H s _ fun y B2 H2 g hk => ?_)
  obtain ⟨o, h1, kvs, rfl, h2⟩ := (w.m g).ex
  obtain ⟨b, rfl, hb⟩ := key_of_is hk
  have z := DAll.look ks h2
  rw [e] at z
  obtain ⟨v, hv, tv'⟩ := z
  obtain rfl : v = .int i := tv'
  refine ⟨d, .int i, rfl, .inr ⟨kvs, keyL ks, b, .inl h1, rfl, g.in_ _ _ hb, hv.symm⟩, (h.m g.bs) H2 g.in_ _ fun y2 B3 H3 g3 hy2 => ?_⟩
  obtain rfl : y2 = .int j := hy2
  have gg := g.trans g3
  obtain ⟨o, h1, kvs, rfl, h2⟩ := (w.m gg).ex
  exact ⟨i, j, rfl, rfl, _, DPut.t h1 (g3.in_ _ _ (g3.bs _ _ hb)) (by rw [h2.len]; exact size_lt hl), k B3 H3 _ gg ((w.m gg).put ⟨_, rfl, DAll.put rfl ks hn h2⟩)⟩
end
end LD
set_option maxRecDepth 100000
set_option maxHeartbeats 400000
/-! LdSl: slices, last items, pops into tuples, += of a name. -/
namespace LD
open PySem PyProof.Rows L2
section
variable {σ : L2.St} {B H : Hp} {te ta : TE} {K : PySem.W.Frag} {ts : List Ty} {T A : Ty} {D : Ends} {tz : TS} {d : Addr}
theorem gv_part {i : Int} {Q : Option Int → Hp → Prop} (h : Gv te σ B (yI i)) (s : Same B H) (k : ∀ B' H', Gr B H B' H' → Q (some i) H') : tPart te σ H Q := h H s _ fun v B' H' g hv => by
  obtain rfl : v = .int i := hv
  exact ⟨i, rfl, k B' H' g⟩
/-- xs[:-1] -/
theorem gv_slInit {tm : TE} (h : Gv te σ B (yL (ts ++ [T]))) (hm : Gv tm σ B (yI (-1))) : Gv (tSl (rSlL K) te tNoPart (tPart tm)) σ B (yL ts) := fun H s Q q =>
  h H s _ fun v B1 H1 g hv => by
    show tPart tm σ H1 (fun u H3 => rSlL K v none u H3 Q)
    refine gv_part (hm.m g.bs) g.in_ fun B2 H2 g2 => ?_
    obtain ⟨a, vs, rfl, h1, k⟩ := hv
    obtain ⟨ws, u, rfl, k1, k2⟩ := all_last k
    refine ⟨a, _, rfl, SqL.of (g2.in_ _ _ (g2.bs _ _ h1)), fun p hp => q _ _ _ ((g.trans g2).trans (Gr.new g2.in_ hp)) ⟨p, _, rfl, upd_same, ?_⟩⟩
    have e : cutV (ws ++ [u]) none (some (-1)) = ws := by
      unfold cutV
      have e1 : HT.sIx (ws ++ [u]).length 0 none = 0 := rfl
      have e2 : HT.sIx (ws ++ [u]).length (ws ++ [u]).length (some (-1)) = ws.length := by
        simp only [List.length_append, List.length_cons, List.length_nil]
        unfold HT.sIx
        simp
        try omega
      rw [e1, e2]
      simp
    rw [e]
    exact k1.m (g2.bs.trans (same_new (g2.in_.free hp)))
/-- xs[-1] -/
theorem gv_ixLast {tm : TE} (h : Gv te σ B A) (hl : IsLs K A (ts ++ [T])) (hm : Gv tm σ B (yI (-1))) : Gv (tOp (rIxL K) te tm) σ B T :=
  gv_op h hm fun x y B1 H1 _ s hx hy Q q => by
    obtain ⟨a, vs, ex, h1, k⟩ := hl x B1 hx
    obtain ⟨ws, u, rfl, k1, k2⟩ := all_last k
    obtain rfl : y = .int (-1) := hy
    exact ⟨a, _, -1, u, ex, rfl, same_l s h1, atI_last ws u, q u B1 H1 (Gr.refl s) k2⟩
/-- target = x.pop() -/
theorem sq_popG {td : TE} {gt : TG} (hd : Is td σ B H d) (w : Ow d (oL (ts ++ [T])) B H) (s : Same B H) (k : ∀ v o, T.p v B → Ow d (oL ts) B (upd H d o) → gt v σ (upd H d o) (tz D)) : tSeq (tAsg (tBM0 K "list" rPop td) gt) tz D σ H := by
  obtain ⟨o, h1, xs, rfl, h2⟩ := w.ex
  obtain ⟨ws, v, rfl, h3, h4⟩ := all_last h2
  refine hd B H (Gr.refl s) _ ⟨ty_lst h1, d, _, v, rfl, rfl, h1, by simp, ?_⟩
  rw [List.dropLast_concat]
  exact k v _ h4 (w.put ⟨_, rfl, h3⟩)
/-- i += e -/
theorem ht_aug {i : Nat} {x y : Int} (hi : σ[i]? = some (some (.int x))) (h : Gh te σ B H (yI y)) (k : ∀ B1 H1, Gr B H B1 H1 → D.nx (σ.set i (some (.int (x + y)))) H1) : tAug i te (ipI fun i j => i + j) D σ H :=
  ⟨.int x, hi, h _ fun v B1 H1 g hv => by
    obtain rfl : v = .int y := hv
    exact ⟨x, y, rfl, rfl, k B1 H1 g⟩⟩
end
section
variable {σ : L2.St} {B H : Hp} {wi : TI} {n : Nat} {Ts : Nat → Ty} {g gt : TG} {tt : TT} {rb : RB} {vs : List Nat} {RR : Nat → OT} {D : Ends} {tz : TS} {te : TE} {K : PySem.W.Frag} {ts : List Ty} {A : Ty}
theorem tLc_dg : tLc wi g tt te vs = tDg (.lst []) wi g tt (rApp te) vs := rfl
/-- x = a comprehension, owned -/
theorem hq_dgO {o : HO} (s : Same B H) (ho : ∀ B, (RR 0).p o B) (hi : GvI wi σ B n Ts)
    (hs : ∀ (i : Nat) x B2 H2, i < n → Same B B2 → Same B2 H2 → (Ts i).p x B2 → ∀ Rq : L2.St → Hp → Prop, (∀ σ2, wipe σ2 vs = wipe σ vs → ∀ fi : Bool, GvT tt σ2 B2 fi → (fi = true → RbO rb σ2 B2 (RR i) (RR (i + 1))) → (fi = false → RR (i + 1) = RR i) → Rq σ2 H2) → g x (wipe σ vs) H2 Rq)
    (k : ∀ d B1 H1, Gr B H B1 H1 → H d = none → Ow d (RR n) B1 H1 → gt (.ref d) σ H1 (tz D)) : tSeq (tAsg (tDg o wi g tt rb vs) gt) tz D σ H := by
  refine hi H s _ fun J B1 H1 g1 hw Dl hD => ?_
  obtain ⟨G, Y, w, hG, hY⟩ := hw
  refine dg_it w (fun i H' => ∃ B', Same B1 B' ∧ Gr B1 H1 B' H' ∧ Ow Dl (RR i) B' H') ⟨B1, Same.refl _, Gr.own g1.in_ hD, Ow.new g1.in_ hD (ho B1)⟩ (fun i H' _ h => ?_) (fun i x H' H'' hlt h hy => dg_turn hs hD g1.bs hY i x H' H'' hlt h hy) (fun H' h => ?_)
  · obtain ⟨B', s1, gg, _⟩ := h
    exact hG H' (s1.trans gg.in_)
  · obtain ⟨B', s1, gg, w2⟩ := h
    exact k Dl B' H' (g1.trans gg) (g1.hs.free hD) w2
/-- x = [E(a) for a in xs], owned -/
theorem hq_lcO {α : Type} {xs : List α} {F E : α → Ty} {i : Nat} (s : Same B H) (hi : GvI wi σ B n Ts) (hl : n = xs.length) (hT : ∀ j a, xs[j]? = some a → Ts j = F a) (hn : xs.length < 100000) (hw : ∀ x, wipe ((wipe σ vs).set i (some x)) vs = wipe σ vs)
    (hs : ∀ (j : Nat) a x B2, xs[j]? = some a → Same B B2 → (F a).p x B2 → Gv te ((wipe σ vs).set i (some x)) B2 (E a))
    (k : ∀ d B1 H1, Gr B H B1 H1 → H d = none → Ow d (oL (xs.map E)) B1 H1 → gt (.ref d) σ H1 (tz D)) : tSeq (tAsg (tLc wi (gName i) tYes te vs) gt) tz D σ H := by
  rw [tLc_dg]
  subst hl
  refine hq_dgO (RR := fun j => oL ((xs.take j).map E)) s (fun B => ⟨[], rfl, trivial⟩) hi (fun j x B2 H2 hj s1 s2 hx Rq r => ?_) fun d B1 H1 g1 hd w => k d B1 H1 g1 hd (by rw [List.take_length] at w; exact w)
  have e : xs[j]? = some xs[j] := List.getElem?_eq_getElem hj
  rw [hT j _ e] at hx
  refine r _ (hw x) true gt_yes (fun _ => ?_) (fun z => nomatch z)
  have e3 : (xs.take (j + 1)).map E = (xs.take j).map E ++ [E xs[j]] := by
    rw [List.take_add_one, e, List.map_append]
    rfl
  rw [e3]
  exact rb_app (hs j _ x B2 e s1 hx) (by rw [List.length_map, List.length_take]; omega)
/-- x = list(xs), owned -/
theorem hq_lstO (s : Same B H) (h : Gv te σ B A) (hl : IsLs K A ts) (k : ∀ d B1 H1, Gr B H B1 H1 → H d = none → Ow d (oL ts) B1 H1 → gt (.ref d) σ H1 (tz D)) : tSeq (tAsg (tCB (rLstOf K) (tCons te tNil)) gt) tz D σ H := by
  show tCons te tNil σ H (fun vs H1 => rLstOf K vs H1 fun v H2 => gt v σ H2 (tz D))
  refine (ga_1 h) H s _ fun vs B1 H1 g hvs => ?_
  obtain ⟨v, rfl, hv⟩ := all1 hvs
  obtain ⟨a, ws, rfl, h1, k1⟩ := hl v B1 hv
  exact ⟨a, ws, rfl, .inl (same_l g.in_ h1), fun p hp => k p B1 _ (g.trans (Gr.own g.in_ hp)) (g.hs.free hp) (Ow.new g.in_ hp ⟨ws, rfl, k1⟩)⟩
end
end LD
set_option maxRecDepth 100000
set_option maxHeartbeats 400000
/-! LdLines: heaviest.Lines -/

namespace LD
open PySem PyProof.Rows L2
abbrev s_Lines_out_of : Stmt := inClass (topS 58) 1
theorem sc_Lines_out_of : FnScope ["self", "lot", "line"] ["self", "lot"] (defScope s_Lines_out_of) :=
  ⟨rfl, rfl, rfl, by decide +kernel, rfl, by decide +kernel, by decide +kernel⟩
abbrev s_Lines_lower : Stmt := inClass (topS 58) 2
theorem sc_Lines_lower : FnScope ["self", "lot", "lines", "most", "line", "chosen"] ["self", "lot"] (defScope s_Lines_lower) :=
  ⟨rfl, rfl, rfl, by decide +kernel, rfl, by decide +kernel, by decide +kernel⟩
abbrev s_Lines___init__ : Stmt := inClass (topS 58) 0
theorem sc_Lines___init__ : FnScope ["self", "web", "weights", "step", "line", "weight"] ["self", "web", "weights"] (defScope s_Lines___init__) :=
  ⟨rfl, rfl, rfl, by decide +kernel, rfl, by decide +kernel, by decide +kernel⟩
abbrev nsL : List Str := ["best", "rest"]
abbrev fL (bst : Bst) (R : Rst) : Fs := [("best", yDT (mB bst)), ("rest", yDT (mI R))]
/-- lines as they are owned -/
structure LinO (CL al db dr : Addr) (bst : Bst) (R : Rst) (B H : Hp) : Prop where
  o : Ow al (oO CL [("best", yX (.ref db)), ("rest", yX (.ref dr))]) B H
  b : Ow db (oT (mB bst)) B H
  r : Ow dr (oT (mI R)) B H
  n1 : al ≠ db
  n2 : al ≠ dr
  n3 : db ≠ dr
section
variable {CL al db dr : Addr} {bst : Bst} {R : Rst} {B H B1 H1 : Hp} {ds : List Addr}
theorem LinO.m (l : LinO CL al db dr bst R B H) (g : Gr B H B1 H1) : LinO CL al db dr bst R B1 H1 := ⟨l.o.m g, l.b.m g, l.r.m g, l.n1, l.n2, l.n3⟩
theorem fs_at2 {f1 f2 : Str} {T1 T2 U1 U2 : Ty} {xs : List (Str × V)} {B B' : Hp} (h : FsAt [(f1, T1), (f2, T2)] xs B) (h1 : ∀ v, T1.p v B → U1.p v B') (h2 : ∀ v, T2.p v B → U2.p v B') : FsAt [(f1, U1), (f2, U2)] xs B' := by
  obtain ⟨v, r, rfl, a, h⟩ := fs_cons h
  obtain ⟨u, r, rfl, b, h⟩ := fs_cons h
  obtain rfl := fs_nil h
  exact ⟨rfl, h1 v a, h2 u b, trivial⟩
theorem LinO.view (l : LinO CL al db dr bst R B H) (s : Same B H) (h1 : al ∈ ds) (h2 : db ∈ ds) (h3 : dr ∈ ds) : (yO CL (fL bst R)).p (.ref al) (ext B H ds) := by
  obtain ⟨o, k1, dx, xs, rfl, fa⟩ := l.o.ex
  refine ⟨al, _, rfl, by rw [ext_in h1]; exact k1, dx, xs, rfl, fs_at2 fa (fun v hv => ?_) (fun v hv => ?_)⟩
  · obtain rfl : v = .ref db := hv
    exact oT_ty (l.b.ext h2 s)
  · obtain rfl : v = .ref dr := hv
    exact oT_ty (l.r.ext h3 s)
theorem LinO.no (l : LinO CL al db dr bst R B H) : ∀ d ∈ [al, db, dr], B d = none := fun d hd => by
  simp only [List.mem_cons, List.not_mem_nil, or_false] at hd
  rcases hd with rfl | rfl | rfl
  · exact l.o.nb
  · exact l.b.nb
  · exact l.r.nb
theorem LinO.nt (l : LinO CL al db dr bst R B H) : ∀ d ∈ [al, db, dr], ∃ o, H d = some o ∧ NTL o := fun d hd => by
  simp only [List.mem_cons, List.not_mem_nil, or_false] at hd
  rcases hd with rfl | rfl | rfl
  · exact l.o.ntO
  · exact l.b.ntT
  · exact l.r.ntT
/-- what a loop over the rests needs -/
theorem line_view {v : V} (h : (yO CL (fL bst R)).p v B) : ∃ a d kvs, v = .ref a ∧ B d = some (.dT kvs) ∧ DAll (mI R) kvs B ∧ ∀ od, (yO CL [("best", yAny), ("rest", yX (.ref d))]).p v (upd B d (.frz od (.dT kvs))) := by
  obtain ⟨a, o, rfl, k1, dx, xs, rfl, fa⟩ := h
  obtain ⟨v, r, rfl, h1, h⟩ := fs_cons fa
  obtain ⟨u, r, rfl, h2, h⟩ := fs_cons h
  obtain rfl := fs_nil h
  obtain ⟨d, kvs, rfl, hd, hk⟩ := h2
  refine ⟨a, d, kvs, rfl, hd, hk, fun od => ⟨a, _, rfl, ?_, dx, [("best", v), ("rest", .ref d)], rfl, rfl, trivial, rfl, trivial⟩⟩
  rw [upd_ne (ne_of k1 hd (fun z => nomatch z))]
  exact k1
end
theorem mI_key {R : Rst} {j : Nat} {p : Ln × Int} (e : R[j]? = some p) : (((mI R).map (·.1)).getD j []) = lk p.1 := by
  unfold mI mG
  rw [List.map_map, List.getD_eq_getElem?_getD, List.getElem?_map, e]
  rfl
theorem unf_lns {es : List Ln} : Unf (yL (es.map yLn)) := unf_l fun t ht => by
  obtain ⟨x, _, rfl⟩ := List.mem_map.mp ht
  exact unf_is
theorem rc_lns {es : List Ln} : RmC (yL (es.map yLn)) := rc_l fun t ht => by
  obtain ⟨x, _, rfl⟩ := List.mem_map.mp ht
  exact rc_is
inductive Rout (CL : Addr) : List Ty → Ty → Prop
  | mk (bst : Bst) (R : Rst) (L : Lot) (hl : R.length ≤ 1000) : Rout CL [yO CL (fL bst R), yIs L] (yL ((outOf R L).map yLn))
/-- lower: the rests are changed -/
def spLow (CL : Addr) : Sp := fun vs H Q _ => ∃ B al db dr bst R L v2, vs = [.ref al, v2] ∧ Same B H ∧ LinO CL al db dr bst R B H ∧ (yIs L).p v2 B ∧ (R.map (·.1)).Nodup ∧ R.length ≤ 1000 ∧ outOf R L ≠ [] ∧
  ∀ v B' H', Gr B (cut H [al, db, dr]) B' H' → LinO CL al db dr bst (lowered R L) B' H' → (yT [yI (mostOf R L), yLn (pickOf R L)]).p v B' → Q v H'
section
variable {P : Program} {w : World} {K : PySem.W.Frag} {mg : Str → Option Value} {base : Heap} {CL : Addr}
theorem ok_outof (D : DefM K CL "out_of" "Lines.out_of" s_Lines_out_of ["self", "lot"]) (bl : Blt mg) (cL : ClsF K CL nsL) : CalM P w K mg base CL "out_of" 1 ["self", "lot"] (spG (Rout CL)) := by
  have sc := sc_Lines_out_of
  refine D.ok sc (fun vs H Q E h => ?_) (fun f cdv A outer s H vs Q E hr h => ?_)
  · obtain ⟨B, Ts, T, r, s, a, _⟩ := h
    cases r
    exact a.len
  · obtain ⟨B, Ts, T, r, sb, a, q⟩ := h
    refine ⟨_, (pss_one (ps_ret (pb_sortP bl.sorted_ (pa_cons (pe_lock (pe_lc (own := [("line", 2)]) (g := (gName 2)) (tt := _) (by rfl) sc.nd (pi_keys (pe_fldK K rfl (pv 0) rfl)) (blkOk_by (by kernel_rfl)) (fun _ _ _ _ _ => (pg_name (i := 2) sc.nd rfl (.inl rfl))) (fun _ _ _ _ _ => (pts_one (PW.pt (pw_and (pt_cmpR (op_in_seqK K rfl) (pe_ix (ix_tupK K rfl) (pv 2) pe_int (fun _ _ => rfl)) (pv 1) (by rfl)) (pw_and1 (pt_cmpR (op_notIn_seqK K rfl) (pe_ix (ix_tupK K rfl) (pv 2) pe_int (fun _ _ => rfl)) (pv 1) (by rfl))))))) (fun _ _ _ _ _ => (pv 2)))) pa_nil)))), ?_⟩
    cases r with
    | mk bst R L hl =>
    obtain ⟨v1, v2, rfl, h1, h2⟩ := all2 a
    obtain ⟨ad, d, kvs, rfl, hd, hk, hv⟩ := line_view h1
    refine st_ret (T := yL ((outOf R L).map yLn)) sb (gv_sortP (gv_lock (d := d) hd trivial unf_lns fun od => ?_)) q
    have hd2 : upd B d (.frz od (.dT kvs)) d = some (.frz od (.dT kvs)) := upd_same
    have hk2 := frz_dall (od := od) hd (u := .dT kvs) trivial (fun p hp => by
      obtain ⟨p0, _, rfl⟩ := List.mem_map.mp hp
      exact frz_x) hk
    have hL2 := frz_is v2 B d od (.dT kvs) hd trivial h2
    refine Gv.cast (A := yL ((R.filter fun p => lv p.1 L).map fun p => yLn p.1)) (gv_lc1f (F := fun (p : Ln × Int) => yLn p.1) (p := fun p => lv p.1 L) (gi_keys (gv_fld (f := "rest") (ns := nsL) (gv_var (i := 0) rfl (hv od) (Same.refl _)) cL (by decide) rfl) hd2 hk2) mG_len (fun j p e => by rw [mI_key e]) (by omega) (fun _ => rfl) (fun j p x B2 hj s1 hx => ?_) fun j p x B2 hj hp s1 hx => gv_var (i := 2) rfl hx (Same.refl _)) ?_
    · refine GvT.cast (b := decide (p.1.1 ∈ L) && !decide (p.1.2 ∈ L)) (gt_and (gt_test (gv_inI (neg := false) (gv_ixT (i := 0) (j := 0) (gv_var (i := 2) rfl hx (Same.refl _)) gv_c isTu_t rfl rfl) (gv_var (i := 1) rfl hL2 s1))) fun _ => gt_test (gv_inI (neg := true) (gv_ixT (i := 1) (j := 1) (gv_var (i := 2) rfl hx (Same.refl _)) gv_c isTu_t rfl rfl) (gv_var (i := 1) rfl hL2 s1))) rfl
    · congr 1
      rw [List.filter_map, List.map_map]
      rfl
theorem max_eq {R : Rst} {es : List Ln} {m : Int} (h0 : es ≠ []) (h1 : m ∈ es.map (iv R)) (h2 : ∀ y ∈ es.map (iv R), y ≤ m) : m = maxOf R es := by
  obtain ⟨e, k1, k2⟩ := maxOf_mem (R := R) h0
  have a := h2 _ (List.mem_map.mpr ⟨e, k1, rfl⟩)
  obtain ⟨e2, k3, k4⟩ := List.mem_map.mp h1
  have b := maxOf_ge (R := R) k3
  omega
theorem iv_look {R : Rst} {e : Ln} (h : e ∈ R.map (·.1)) : look (mI R) (lk e) = some (yI (iv R e)) := by
  rw [mG_look lk_inj]
  obtain ⟨v, hv⟩ := look_some_of h
  unfold iv
  rw [hv]; rfl
theorem ok_lower (D : DefM K CL "lower" "Lines.lower" s_Lines_lower ["self", "lot"]) (bl : Blt mg) (cL : ClsF K CL nsL) (m_out_of : CalM P w K mg base CL "out_of" 1 ["self", "lot"] (spG (Rout CL))) : CalM P w K mg base CL "lower" 2 ["self", "lot"] (spLow CL) := by
  have sc := sc_Lines_lower
  refine D.ok sc (fun vs H Q E h => ?_) (fun f cdv A outer s H vs Q E hr h => ?_)
  · obtain ⟨B, al, db, dr, bst, R, L, v2, rfl, _⟩ := h
    rfl
  · obtain ⟨B, al, db, dr, bst, R, L, v2, rfl, sb, l0, h2, nd, hl, ne, q⟩ := h
    refine ⟨_, (pss_cons (ps_set (i := 2) sc.nd rfl (.inl rfl) (pe_me m_out_of (hr.mono (by decide)) (pv 0) (pa_cons (pv 1) pa_nil)))
(pss_cons (ps_set (i := 3) sc.nd rfl (.inr rfl) (pb_max bl.max_ (pa_cons (pe_lc (own := [("line", 4)]) (g := (gName 4)) (tt := _) (by rfl) sc.nd (pi_listK K rfl (pv 2)) (blkOk_by (by kernel_rfl)) (fun _ _ _ _ _ => (pg_name (i := 4) sc.nd rfl (.inl rfl))) (fun _ _ _ _ _ => pts_nil) (fun _ _ _ _ _ => (pe_dget (hu_of hr) (pe_fldK K rfl (pv 0) rfl) (pv 4) (fun _ _ => rfl)))) pa_nil)))
(pss_cons (ps_set (i := 5) sc.nd rfl (.inl rfl) (pe_ix (ix_listK K rfl) (pe_lc (own := [("line", 4)]) (g := (gName 4)) (tt := _) (by rfl) sc.nd (pi_listK K rfl (pv 2)) (blkOk_by (by kernel_rfl)) (fun _ _ _ _ _ => (pg_name (i := 4) sc.nd rfl (.inl rfl))) (fun _ _ _ _ _ => (pts_one (pt_cmpR op_eq (pe_dget (hu_of hr) (pe_fldK K rfl (pv 0) rfl) (pv 4) (fun _ _ => rfl)) (pv 3) (nomark _)))) (fun _ _ _ _ _ => (pv 4))) pe_int (fun _ _ => rfl)))
(pss_cons (ps_for PassesOwn.never rfl (pi_listK K rfl (pv 2)) (pg_name (i := 4) sc.nd rfl (.inl rfl))
  (pss_one (ps_daug (hu_of hr) (pe_fldK K rfl (pv 0) rfl) (pv 4) (pv 3) in_sub (fun _ _ _ => rfl))))
(pss_one (ps_ret (pe_tup (pa_cons (pv 3) (pa_cons (pv 5) pa_nil))))))))), ?_⟩
    generalize hes : outOf R L = es at ne
    have hin : ∀ e ∈ es, e ∈ R.map (·.1) := fun e he => (mem_out.mp (by rw [hes]; exact he)).1
    have hlen : es.length ≤ 1000 := by
      rw [← hes]
      unfold outOf
      rw [(sortLn_perm _).length_eq]
      have := List.length_filter_le (fun e => lv e L) (R.map (·.1))
      rw [List.length_map] at this
      omega
    have a1 : al ∈ [al, db, dr] := List.mem_cons_self
    have a2 : db ∈ [al, db, dr] := List.mem_cons_of_mem _ List.mem_cons_self
    have a3 : dr ∈ [al, db, dr] := List.mem_cons_of_mem _ (List.mem_cons_of_mem _ List.mem_cons_self)
    refine hq_set (T := yL (es.map yLn)) (Gh.ext (ds := [al, db, dr]) sb l0.no l0.nt rc_lns (gv_me (gv_var (i := 0) rfl (l0.view sb a1 a2 a3) (Same.refl _)) (by walk_at "nm") (ga_1 (gv_var (i := 1) rfl h2 (ext_same sb))) (gives_G (R := Rout CL) (by rw [← hes]; exact .mk bst R L hl)))) fun v3 B1 H1 g1 hv3 => ?_
    have l1 := l0.m g1
    -- a reading of a rest
    have rd : ∀ (B' : Hp) (σ : L2.St) (e : Ln) (x : V), σ[0]? = some (some (.ref al)) → σ[4]? = some (some x) → e ∈ es → (yO CL (fL bst R)).p (.ref al) B' → (yLn e).p x B' → Gv (tDGet (tFld K (tVar 0) "rest") (tVar 4)) σ B' (yI (iv R e)) := fun B' σ e x k1 k2 he hv hx =>
      gv_dget (gv_fld (f := "rest") (ns := nsL) (gv_var k1 hv (Same.refl _)) cL (by decide) rfl) (gv_var k2 hx (Same.refl _)) isDT_s (iv_look (hin e he))
    refine hq_set (T := yI (mostOf R L)) (Gh.ext (ds := [al, db, dr]) g1.in_ l1.no l1.nt rc_x (Gv.imp (A := yMx (es.map (iv R))) (gv_max (Gv.cast (A := yL (es.map fun e => yI (iv R e))) (gv_lc1 (F := yLn) (gi_list (gv_var (i := 2) rfl hv3 (ext_same g1.in_)) isLs_l) (by rw [List.length_map]) hT_map (by omega) (fun _ => rfl) fun j e x B2 hj s1 hx => rd B2 _ e x rfl rfl (List.mem_of_getElem? hj) ((yO CL _).m s1 (l1.view g1.in_ a1 a2 a3)) hx) (by rw [List.map_map]; rfl)) (by rw [List.length_map]; exact List.length_pos_iff.mpr ne)) fun v B2 _ ⟨m, e, m1, m2⟩ => by
        rw [e]
        show V.int m = V.int _
        rw [max_eq ne m1 m2]
        unfold mostOf
        rw [hes])) fun v4 B2 H2 g2 hv4 => ?_
    obtain rfl : v4 = .int (mostOf R L) := hv4
    have l2 := l1.m g2
    have pk := pick_ok (R := R) (L := L) (by rw [hes]; exact ne)
    refine hq_set (T := yLn (pickOf R L)) (Gh.ext (ds := [al, db, dr]) g2.in_ l2.no l2.nt rc_is (gv_ixL (i := 0) (j := 0) (ts := (es.filter fun e => decide (iv R e = mostOf R L)).map yLn) (gv_lc1f (F := yLn) (E := yLn) (p := fun e => decide (iv R e = mostOf R L)) (gi_list (gv_var (i := 2) rfl hv3 (g2.bs.trans (ext_same g2.in_))) isLs_l) (by rw [List.length_map]) hT_map (by omega) (fun _ => rfl) (fun j e x B2 hj s1 hx => ?_) fun j e x B2 hj hp s1 hx => gv_var (i := 4) rfl hx (Same.refl _)) gv_c isLs_l rfl ?_)) fun v5 B3 H3 g3 hv5 => ?_
    · refine GvT.cast (b := decide (V.int (iv R e) = V.int (mostOf R L))) (gt_test (gv_eq (rd B2 _ e x rfl rfl (List.mem_of_getElem? hj) ((yO CL _).m s1 (l2.view g2.in_ a1 a2 a3)) hx) (gv_v (i := 3) rfl) rfl)) (by simp)
    · have hp : pickOf R L = ((es.filter fun e => decide (iv R e = mostOf R L)).head?).getD (0, 0) := by unfold pickOf; rw [hes]
      have hm : pickOf R L ∈ es.filter fun e => decide (iv R e = mostOf R L) := List.mem_filter.mpr ⟨by rw [← hes]; exact pk.1, decide_eq_true pk.2⟩
      cases hf : es.filter fun e => decide (iv R e = mostOf R L) with
      | nil => rw [hf] at hm; cases hm
      | cons y ys =>
        rw [hf] at hp
        rw [hp]
        rfl
    · have l3 := l2.m g3
      have gg3 := (g1.trans g2).trans g3
      refine sq_for g3.in_ (gi_list (gv_var (i := 2) rfl hv3 (g2.bs.trans g3.bs)) isLs_l) (fun i σ B5 H5 => ∃ n4, σ = [some (.ref al), some v2, some v3, some (.int (mostOf R L)), n4, some v5] ∧ LinO CL al db dr bst ((es.take i).foldl (subLn (mostOf R L)) R) B5 H5 ∧ Gr B (cut H [al, db, dr]) B5 H5)
        (fun B5 H5 g5 => ⟨_, rfl, l3.m g5, (Gr.cut0 sb l0.no).trans (gg3.trans g5)⟩) (fun Bs i z σ B5 H5 B6 H6 hi s1 s2 s3 hP g6 hz => ?_) (fun σ B5 H5 s1 s2 hP => ?_)
      · obtain ⟨n4, rfl, l5, gg5⟩ := hP
        rw [List.length_map] at hi
        obtain ⟨e, he⟩ : ∃ r, es[i]? = some r := ⟨_, List.getElem?_eq_getElem hi⟩
        rw [hT_map i e he] at hz
        have l6 := l5.m g6
        have gg6 := gg5.trans g6
        have ndes : es.Nodup := by rw [← hes]; exact out_nodup nd
        obtain ⟨f1, f2⟩ := fold_sub (m := mostOf R L) (es := es.take i) (R := R) (List.Nodup.sublist (List.take_sublist _ _) ndes) fun e' h' => hin e' (List.take_subset _ _ h')
        have hk : e ∈ ((es.take i).foldl (subLn (mostOf R L)) R).map (·.1) := by rw [f1]; exact hin e (List.mem_of_getElem? he)
        have hnext : (es.take (i + 1)).foldl (subLn (mostOf R L)) R = subLn (mostOf R L) ((es.take i).foldl (subLn (mostOf R L)) R) e := by
          rw [List.take_add_one, he, Option.toList_some, List.foldl_append]
          rfl
        generalize (es.take i).foldl (subLn (mostOf R L)) R = Ri at *
        have ndi : (Ri.map (·.1)).Nodup := by rw [f1]; exact nd
        have len : Ri.length = R.length := by
          have := congrArg List.length f1
          simpa using this
        refine ht_dsubT (ks := lk e) (is_fld (is_var rfl) l6.o cL (by decide) rfl) l6.r g6.in_ (mG_nd lk_inj ndi) (by rw [mG_len]; omega) (iv_look hk) (gv_var (i := 4) rfl hz (Same.refl _)) (gv_v (i := 3) rfl) fun B7 H7 o7 g7 w7 => ?_
        have l7 := l6.m g7
        refine ⟨B7, s2.trans (g6.bs.trans g7.bs), l7.r.same g7.in_, _, rfl, ⟨l7.o.else l7.n2, l7.b.else l7.n3, ?_, l7.n1, l7.n2, l7.n3⟩, (gg6.trans g7).mutC a3 l7.r.nb⟩
        rw [hnext]
        unfold subLn
        rw [mG_put (F := fun i => yI i) lk_inj] at w7
        exact w7
      · obtain ⟨n4, rfl, l5, gg5⟩ := hP
        rw [List.length_map, List.take_length] at l5
        have s15 := s1
        refine st_ret (B := B5) s2 (T := yT [yI (mostOf R L), yLn (pickOf R L)]) (gv_tup2 (gv_v (i := 3) rfl) (gv_var (i := 5) rfl hv5 s1)) fun v B6 H6 g6 hv6 => ?_
        refine q v B6 H6 (gg5.trans g6) ?_ hv6
        have := l5.m g6
        unfold lowered
        rw [hes]
        exact this
/-- __init__: lines that are owned -/
def spLin (CL CW : Addr) : Sp := fun vs H Q _ => ∃ x dx rest H1 B c D W, vs = .ref x :: rest ∧ H1 x = none ∧ H1 dx = none ∧ dx ≠ x ∧ H = upd (upd H1 dx (.own x)) x (.ins CL dx []) ∧ Same B H1 ∧ All [yW CW c D, yWts W (steps D)] rest B ∧ Small D ∧
  ∀ B' H' db dr, Gr B H1 B' H' → LinO CL x db dr (bestRest (doorF D) W (steps D)).1 (bestRest (doorF D) W (steps D)).2 B' H' → H1 db = none → H1 dr = none → Q .non H'
theorem best_take {door W : List Int → Int} {ss : List (List Int)} {i : Nat} {st : List Int} (e : ss[i]? = some st) : bestRest door W (ss.take (i + 1)) = lnStep door W (bestRest door W (ss.take i)) st := by
  unfold bestRest
  rw [List.take_add_one, e, Option.toList_some, List.foldl_append]
  rfl
variable {CW : Addr}
theorem ok_lineinit (D : DefI K mg CL "Lines" "Lines.__init__" s_Lines___init__ ["self", "web", "weights"]) (bl : Blt mg) (cL : ClsF K CL nsL) (gHOME : Gc mg "HOME" (.int (-1))) (c_all_steps : Cal P w K mg base "all_steps" 1 ["web"] (spG (Rsteps CW))) (c_door_at : Cal P w K mg base "door_at" 1 ["web", "step"] (spG (Rdoor CW))) :
    CalI P w K mg base CL "Lines" 2 ["self", "web", "weights"] (spLin CL CW) := by
  have sc := sc_Lines___init__
  refine D.ok sc (fun vs H Q E h => ?_) (fun f cdv A outer s H vs Q E hr h => ?_)
  · obtain ⟨x, dx, rest, H1, B, c, D, W, rfl, hx, hdx, ne, e, sb, a, _⟩ := h
    rw [List.length_cons, a.len]
    rfl
  · obtain ⟨x, dx, rest, H0, B, c, D, W, rfl, hx, hdx, ne, rfl, sb, a, o, q⟩ := h
    refine ⟨_, (pss_cons (ps_fld (pv 0) pe_dnewT rfl)
(pss_cons (ps_fld (pv 0) pe_dnewT rfl)
(pss_one (ps_for PassesOwn.never rfl (pi_listK K rfl (pe_cl c_all_steps (hr.mono (by decide)) (pa_cons (pv 1) pa_nil))) (pg_name (i := 3) sc.nd rfl (.inl rfl))
  (pss_cons (ps_set (i := 4) sc.nd rfl (.inl rfl) (pe_tup (pa_cons (pe_ix (ix_tupK K rfl) (pv 3) pe_int (fun _ _ => rfl)) (pa_cons (pb_max2 bl.max_ (pa_cons (pe_gc gHOME) (pa_cons (pe_cl c_door_at (hr.mono (by decide)) (pa_cons (pv 1) (pa_cons (pv 3) pa_nil))) pa_nil))) pa_nil))))
(pss_cons (ps_set (i := 5) sc.nd rfl (.inl rfl) (pe_dget2 (hu_of hr) (pv 2) (pv 3) pe_int ⟨rfl, rfl, rfl, rfl⟩))
(pss_one (ps_if (PW.pt (pw_or (pt_cmp (pc_dnotin (hu_of hr) (pv 4) (pe_fldK K rfl (pv 0) rfl))) (pw_or1 (pt_cmpR op_gt (pv 5) (pe_dget (hu_of hr) (pe_fldK K rfl (pv 0) rfl) (pv 4) (fun _ _ => rfl)) (nomark _)))))
  (pss_cons (ps_dput (hu_of hr) (pe_fldK K rfl (pv 0) rfl) (pv 4) (pv 3) rfl)
(pss_one (ps_dput (hu_of hr) (pe_fldK K rfl (pv 0) rfl) (pv 4) (pv 5) rfl)))
  pss_nil)))))))), ?_⟩
    obtain ⟨v1, v2, rfl, h1, h2⟩ := all2 a
    obtain ⟨g0, w0⟩ := init_start (C := CL) hx hdx ne sb
    refine hq_fdict (is_var rfl) w0 g0.in_ cL (by decide) (by decide) (by decide) fun db B1 H1 o1 hdb nb1 g1 w1 wb1 => ?_
    have gg1 : Gr B H0 B1 (upd H1 x o1) := (g0.trans g1).put (w0.m g1) hx
    have hdb0 : H0 db = none := g0.hs.free hdb
    refine hq_fdict (is_var rfl) w1 gg1.in_ cL (by decide) (by walk_at "nm") (by simp) fun dr B2 H2 o2 hdr nr2 g2 w2 wr2 => ?_
    have gg2 : Gr B H0 B2 (upd H2 x o2) := (gg1.trans g2).put (w1.m g2) hx
    have hdr0 : H0 dr = none := gg1.hs.free hdr
    have wb2 : Ow db (oT []) B2 (upd H2 x o2) := (wb1.m g2).else nb1
    have nbr : db ≠ dr := wb1.ne hdr
    have l2 : LinO CL x db dr [] [] B2 (upd H2 x o2) := ⟨w2, wb2, wr2, Ne.symm nb1, Ne.symm nr2, nbr⟩
    have len : (steps D).length ≤ 27 := o.all D.length o.hl
    refine st_for gg2.in_ (gi_list (gv_cl (ga_1 (gv_var (i := 1) rfl h1 gg2.bs)) (gives_G (R := Rsteps CW) (.mk c D o))) isLs_l) (fun i σ B5 H5 => ∃ n3 n4 n5, σ = [some (.ref x), some v1, some v2, n3, n4, n5] ∧ LinO CL x db dr (bestRest (doorF D) W ((steps D).take i)).1 (bestRest (doorF D) W ((steps D).take i)).2 B5 H5 ∧ Gr B H0 B5 H5)
      (fun B5 H5 g5 => ⟨_, _, _, rfl, l2.m g5, gg2.trans g5⟩) (fun Bs i z σ B5 H5 B6 H6 hi s1 s2 s3 hP g6 hz => ?_) (fun σ B5 H5 s1 s2 hP => ?_)
    · obtain ⟨n3, n4, n5, rfl, l5, gg5⟩ := hP
      rw [List.length_map] at hi
      obtain ⟨st, hst⟩ : ∃ r, (steps D)[i]? = some r := ⟨_, List.getElem?_eq_getElem hi⟩
      rw [hT_map i st hst] at hz
      have mem := List.mem_of_getElem? hst
      obtain ⟨h, sd, n, p, e, ep⟩ := steps_mem.mp mem
      have gg6 := gg5.trans g6
      have inv := ln_inv (door := doorF D) (W := W) ((steps D).take i)
      have bt := best_take (door := doorF D) (W := W) hst
      generalize bestRest (doorF D) W ((steps D).take i) = br at *
      refine sq_set (i := 4) (T := yLn (lineOf (doorF D) st)) g6.in_ (gv_tup2 (gv_ixT (i := 0) (j := 0) (T := yI (st.getD 0 0)) (gv_var (i := 3) rfl hz (Same.refl _)) gv_c isTu_t rfl (by rw [e]; rfl)) (gv_max2 (gv_c) (gv_cl (ga_2 (gv_var (i := 1) rfl h1 gg6.bs) (gv_var (i := 3) rfl hz (Same.refl _))) (gives_G (R := Rdoor CW) (T := yI (doorF D st)) (by rw [e, doorF_eq ep]; exact .mk c D h sd n p ep))))) fun v4 B7 H7 g7 hv4 => ?_
      refine sq_set (i := 5) (T := yI (W st)) g7.in_ (gv_dget2 (k := st) (gv_var (i := 2) rfl h2 (gg6.bs.trans g7.bs)) (gv_var (i := 3) rfl hz g7.bs) gv_c isDT_s (by rw [mW_look mem (steps_nodup D)]; rfl)) fun v5 B8 H8 g8 hv5 => ?_
      obtain rfl : v5 = .int (W st) := hv5
      have l8 := ((l5.m g6).m g7).m g8
      have gg8 := (gg6.trans g7).trans g8
      have hv4 := (yLn _).m g8.bs hv4
      have hz8 := (yIs st).m (g7.bs.trans g8.bs) hz
      generalize hle : lineOf (doorF D) st = e4 at hv4
      have sB : Same Bs B8 := s2.trans (g6.bs.trans (g7.bs.trans g8.bs))
      have lenR : br.2.length ≤ 27 := by have := inv.len; rw [List.length_take] at this; omega
      have lenB : br.1.length ≤ 27 := by have := inv.leb; rw [List.length_take] at this; omega
      have a1 : x ∈ [x, db, dr] := List.mem_cons_self
      have a2 : db ∈ [x, db, dr] := List.mem_cons_of_mem _ List.mem_cons_self
      have a3 : dr ∈ [x, db, dr] := List.mem_cons_of_mem _ (List.mem_cons_of_mem _ List.mem_cons_self)
      refine ht_if (b := !(look br.2 e4).isSome || decide (iv br.2 e4 < W st)) (GhT.ext (ds := [x, db, dr]) g8.in_ l8.no l8.nt (gt_or (gt_B (Gv.cast (A := yB (!(look (mI br.2) (lk e4)).isSome)) (gv_dnotin (gv_var (i := 4) rfl hv4 (ext_same g8.in_)) (gv_fld (f := "rest") (ns := nsL) (gv_var (i := 0) rfl (l8.view g8.in_ a1 a2 a3) (Same.refl _)) cL (by decide) rfl) isDT_s) (by rw [mG_look lk_inj]; cases look br.2 e4 <;> rfl))) fun hh => gt_test (gv_I0 (gv_v (i := 5) rfl) (gv_dget (gv_fld (f := "rest") (ns := nsL) (gv_var (i := 0) rfl (l8.view g8.in_ a1 a2 a3) (Same.refl _)) cL (by decide) rfl) (gv_var (i := 4) rfl hv4 (ext_same g8.in_)) isDT_s (iv_look (by
          cases z : look br.2 e4 with
          | none => rw [z] at hh; cases hh
          | some v => exact look_key z)))))) (fun hb B9 H9 g9 => ?_) (fun hb B9 H9 g9 => ?_)
      · have l9 := l8.m g9
        have gg9 := gg8.trans g9
        refine hq_dputT (ks := lk e4) (T := yIs st) (is_fld (is_var rfl) l9.o cL (by decide) rfl) l9.b g9.in_ (mG_nd lk_inj inv.nb) (by rw [mG_len]; omega) ((gv_var (i := 3) rfl hz8 g9.bs).h g9.in_) (gv_var (i := 4) rfl hv4 g9.bs) fun B10 H10 o10 g10 w10 => ?_
        have l10 := l9.m g10
        have gg10 : Gr B H0 B10 (upd H10 db o10) := (gg9.trans g10).put l10.b hdb0
        have w10' : Ow db (oT (mB (put br.1 e4 st))) B10 (upd H10 db o10) := by rw [mG_put (F := yIs) lk_inj] at w10; exact w10
        have l11 : LinO CL x db dr (put br.1 e4 st) br.2 B10 (upd H10 db o10) := ⟨l10.o.else l10.n1, w10', l10.r.else (Ne.symm l10.n3), l10.n1, l10.n2, l10.n3⟩
        refine ht_dputT (ks := lk e4) (T := yI (W st)) (is_fld (is_var rfl) l11.o cL (by decide) rfl) l11.r gg10.in_ (mG_nd lk_inj inv.nd) (by rw [mG_len]; omega) ((gv_v (i := 5) rfl).h gg10.in_) (gv_var (i := 4) rfl hv4 (g9.bs.trans g10.bs)) fun B11 H11 o11 g11 w11 => ?_
        have l12 := l11.m g11
        refine ⟨B11, sB.trans (g9.bs.trans (g10.bs.trans g11.bs)), l12.r.same g11.in_, _, _, _, rfl, ?_, (gg10.trans g11).put l12.r hdr0⟩
        rw [bt]
        unfold lnStep
        rw [hle, if_pos hb]
        refine ⟨l12.o.else l12.n2, l12.b.else l12.n3, ?_, l12.n1, l12.n2, l12.n3⟩
        rw [mG_put (F := fun i => yI i) lk_inj] at w11
        exact w11
      · refine ⟨B9, sB.trans g9.bs, g9.in_, _, _, _, rfl, ?_, gg8.trans g9⟩
        rw [bt]
        unfold lnStep
        rw [hle, if_neg (by rw [hb]; decide)]
        exact l8.m g9
    · obtain ⟨n3, n4, n5, rfl, l5, gg5⟩ := hP
      rw [List.length_map, List.take_length] at l5
      exact q B5 H5 db dr gg5 l5 hdb0 hdr0
end
end LD
set_option maxRecDepth 100000
set_option maxHeartbeats 400000
/-! LdDraw: heaviest.Drawing, what reads -/

namespace LD
open PySem PyProof.Rows L2
abbrev s_Drawing_top_with : Stmt := inClass (topS 59) 1
theorem sc_Drawing_top_with : FnScope ["self", "house", "lot"] ["self", "house"] (defScope s_Drawing_top_with) :=
  ⟨rfl, rfl, rfl, by decide +kernel, rfl, by decide +kernel, by decide +kernel⟩
abbrev s_Drawing_ring_from : Stmt := inClass (topS 59) 2
theorem sc_Drawing_ring_from : FnScope ["self", "lot", "found", "goal"] ["self", "lot"] (defScope s_Drawing_ring_from) :=
  ⟨rfl, rfl, rfl, by decide +kernel, rfl, by decide +kernel, by decide +kernel⟩
abbrev nsD : List Str := ["lines", "tops", "line_of", "made_of", "costs"]
abbrev yTops (tops : List Lot) : Ty := yL (tops.map yIs)
abbrev fV (CL : Addr) (bst : Bst) (R : Rst) (S : DS) : Fs := [("lines", yO CL (fL bst R)), ("tops", yTops S.tops), ("line_of", yDT (mL S.lo)), ("made_of", yDT (mM S.mo)), ("costs", yAny)]
abbrev yRing : Option (List Lot) → Ty
  | none => yN
  | some ring => yL (ring.map yIs)
inductive Rtop (CD CL : Addr) : List Ty → Ty → Prop
  | mk (bst : Bst) (R : Rst) (S : DS) (h : Int) (t : Lot) (e : topWith S.tops h = some t) (hl : S.tops.length ≤ 1000) : Rtop CD CL [yO CD (fV CL bst R S), yI h] (yIs t)
inductive Rring (CD CL : Addr) : List Ty → Ty → Prop
  | mk (bst : Bst) (R : Rst) (S : DS) (L : Lot) (r : Option (List Lot)) (e : ringOf S.tops S.lo L = some r) (hl : S.tops.length ≤ 1000) : Rring CD CL [yO CD (fV CL bst R S), yIs L] (yRing r)
section
variable {σ : L2.St} {B H : Hp} {t : TT} {D : Ends} {tu tz : TS}
theorem hq_while (W : Nat → L2.St → Hp → Hp → Prop) (s : Same B H) (m0 : Nat) (h0 : W m0 σ B H)
    (hs : ∀ m σ' B' H', Same B' H' → W m σ' B' H' → ∃ b, GhT t σ' B' H' b ∧ (b = true → ∀ B1 H1, Gr B' H' B1 H1 → tu { D with nx := fun σ2 H2 => ∃ m' B2, Same B2 H2 ∧ m' < m ∧ W m' σ2 B2 H2, ct := fun σ2 H2 => ∃ m' B2, Same B2 H2 ∧ m' < m ∧ W m' σ2 B2 H2, bk := tz D } σ' H1) ∧ (b = false → ∀ B1 H1, Gr B' H' B1 H1 → tz D σ' H1)) : tSeq (tWhile t tu) tz D σ H :=
  ⟨fun m σ' H' => ∃ B', Same B' H' ∧ W m σ' B' H', ⟨m0, B, s, h0⟩, fun m σ' H' ⟨B', s', hw⟩ => by
    obtain ⟨b, hb, h1, h2⟩ := hs m σ' B' H' s' hw
    refine hb _ fun B1 H1 g => ?_
    cases b with
    | true => exact ⟨fun σ2 H2 => ∃ m' B2, Same B2 H2 ∧ m' < m ∧ W m' σ2 B2 H2, fun _ _ ⟨m', B2, s2, hm, hw⟩ => ⟨m', hm, B2, s2, hw⟩, h1 rfl B1 H1 g⟩
    | false => exact h2 rfl B1 H1 g⟩
end
section
variable {P : Program} {w : World} {K : PySem.W.Frag} {mg : Str → Option Value} {base : Heap} {CD CL : Addr}
theorem ok_top (D : DefM K CD "top_with" "Drawing.top_with" s_Drawing_top_with ["self", "house"]) (cD : ClsF K CD nsD) : CalM P w K mg base CD "top_with" 1 ["self", "house"] (spG (Rtop CD CL)) := by
  have sc := sc_Drawing_top_with
  refine D.ok sc (fun vs H Q E h => ?_) (fun f cdv A outer s H vs Q E hr h => ?_)
  · obtain ⟨B, Ts, T, r, s, a, _⟩ := h
    cases r
    exact a.len
  · obtain ⟨B, Ts, T, r, sb, a, q⟩ := h
    refine ⟨_, (pss_one (ps_ret (pe_ix (ix_listK K rfl) (pe_lc (own := [("lot", 2)]) (g := (gName 2)) (tt := _) (by rfl) sc.nd (pi_listK K rfl (pe_fldK K rfl (pv 0) rfl)) (blkOk_by (by kernel_rfl)) (fun _ _ _ _ _ => (pg_name (i := 2) sc.nd rfl (.inl rfl))) (fun _ _ _ _ _ => (pts_one (pt_cmpR (op_in_seqK K rfl) (pv 1) (pv 2) (by rfl)))) (fun _ _ _ _ _ => (pv 2))) pe_int (fun _ _ => rfl)))), ?_⟩
    cases r with
    | mk bst R S h t e hl =>
    obtain ⟨v1, v2, rfl, h1, h2⟩ := all2 a
    obtain rfl : v2 = .int h := h2
    refine st_ret (T := yIs t) sb (gv_ixL (i := 0) (j := 0) (ts := (S.tops.filter fun t => decide (h ∈ t)).map yIs) (gv_lc1f (F := yIs) (E := yIs) (p := fun t => decide (h ∈ t)) (gi_list (gv_fld (f := "tops") (ns := nsD) (gv_var (i := 0) rfl h1 (Same.refl _)) cD (by decide) rfl) isLs_l) (by rw [List.length_map]) hT_map (by omega) (fun _ => rfl) (fun j L x B2 hj s1 hx => gt_test (gv_inI (neg := false) (gv_v (i := 1) rfl) (gv_var (i := 2) rfl hx (Same.refl _)))) fun j L x B2 hj hp s1 hx => gv_var (i := 2) rfl hx (Same.refl _)) gv_c isLs_l rfl ?_) q
    unfold topWith at e
    cases z : S.tops.filter fun t => decide (h ∈ t) with
    | nil => rw [z] at e; cases e
    | cons y ys =>
      rw [z] at e
      cases e
      rfl
theorem mL_look {lo : List (Lot × Ln)} {L : Lot} : look (mL lo) L = (look lo L).map yLn := mG_look (kf := id) id_inj
theorem mM_look {mo : List (Lot × List Lot)} {L : Lot} : look (mM mo) L = (look mo L).map fun ring => yL (ring.map yIs) := mG_look (kf := id) id_inj
theorem mapapp {l : List Lot} {x : Lot} : (l ++ [x]).map yIs = l.map yIs ++ [yIs x] := by rw [List.map_append]; rfl
theorem ok_ring (D : DefM K CD "ring_from" "Drawing.ring_from" s_Drawing_ring_from ["self", "lot"]) (cD : ClsF K CD nsD) (gHOME : Gc mg "HOME" (.int (-1))) (m_top_with : CalM P w K mg base CD "top_with" 1 ["self", "house"] (spG (Rtop CD CL))) : CalM P w K mg base CD "ring_from" 2 ["self", "lot"] (spG (Rring CD CL)) := by
  have sc := sc_Drawing_ring_from
  refine D.ok sc (fun vs H Q E h => ?_) (fun f cdv A outer s H vs Q E hr h => ?_)
  · obtain ⟨B, Ts, T, r, s, a, _⟩ := h
    cases r
    exact a.len
  · obtain ⟨B, Ts, T, r, sb, a, q⟩ := h
    refine ⟨_, (pss_cons (ps_set (i := 2) sc.nd rfl (.inl rfl) (pe_lst (pa_cons (pv 1) pa_nil)))
(pss_cons (ps_while PassesOwn.never (pt_cmp (pc_din (hu_of hr) (pe_ix (ix_listK K rfl) (pv 2) (pe_un un_neg pe_int) (fun _ _ => rfl)) (pe_fldK K rfl (pv 0) rfl)))
  (pss_cons (ps_set (i := 3) sc.nd rfl (.inl rfl) (pe_ix (ix_tupK K rfl) (pe_dget (hu_of hr) (pe_fldK K rfl (pv 0) rfl) (pe_ix (ix_listK K rfl) (pv 2) (pe_un un_neg pe_int) (fun _ _ => rfl)) (fun _ _ => rfl)) pe_int (fun _ _ => rfl)))
(pss_cons (ps_if (pt_cmpR op_eq (pv 3) (pe_gc gHOME) (nomark _))
  (pss_one (ps_ret pe_non))
  pss_nil)
(pss_cons (ps_expr (pe_bm PySem.F.plainAttrs_list PySem.F.slot_list_append PySem.F.type_list_append mt_append (pv 2) (pa_cons (pe_me m_top_with (hr.mono (by decide)) (pv 0) (pa_cons (pv 3) pa_nil)) pa_nil)))
(pss_one (ps_if (pt_cmpR (op_eqDK K rfl (hr64 hr)) (pe_ix (ix_listK K rfl) (pv 2) (pe_un un_neg pe_int) (fun _ _ => rfl)) (pv 1) (nomark _))
  (pss_one (ps_ret (pe_slice sl_list (pv 2) po_none (po_some (pe_un un_neg pe_int)))))
  pss_nil))))))
(pss_one (ps_ret pe_non)))), ?_⟩
    cases r with
    | mk bst R S L r e hl =>
    obtain ⟨v1, v2, rfl, h1, h2⟩ := all2 a
    refine hq_newL (ts := [yIs L]) sb (ga_1 (gv_var (i := 1) rfl h2 (Same.refl _))) (by simp) fun d B1 H1 g1 nd1 hd w1 => ?_
    refine hq_while (fun k σ B2 H2 => ∃ pre last n3, σ = [some v1, some v2, some (.ref d), n3] ∧ Ow d (oL (pre.map yIs ++ [yIs last])) B2 H2 ∧ Gr B H B2 H2 ∧ ringGo S.tops S.lo L k pre last = some r ∧ pre.length + k = 5) g1.in_ 5 ⟨[], L, _, rfl, w1, g1, e, rfl⟩ fun k σ B2 H2 s2 hW => ?_
    obtain ⟨pre, last, n3, rfl, w2, gg2, er, hk⟩ := hW
    have lastG : ∀ (σ : L2.St) B', σ[2]? = some (some (.ref d)) → (oL (pre.map yIs ++ [yIs last])).ty.p (.ref d) B' → Gv (tOp (rIxL K) (tVar 2) (tUn (rU fun i => .int (-i)) (tC (.int 1)))) σ B' (yIs last) := fun σ B' k1 t => gv_ixLast (gv_var k1 t (Same.refl _)) isLs_o (gv_neg gv_c)
    refine ⟨(look S.lo last).isSome, ?_, fun hb B3 H3 g3 => ?_, fun hb B3 H3 g3 => ?_⟩
    · refine GhT.own w2 s2 fun B3 s3 s4 t => ?_
      refine gt_B (Gv.cast (A := yB (look (mL S.lo) last).isSome) (gv_din (k := last) (lastG _ _ rfl t) (gv_fld (f := "line_of") (ns := nsD) (gv_var (i := 0) rfl h1 (gg2.bs.trans s3)) cD (by decide) rfl) isDT_s) (by rw [mL_look]; cases look S.lo last <;> rfl))
    · cases k with
      | zero => simp [ringGo] at er
      | succ k =>
      obtain ⟨line, hline⟩ : ∃ l, look S.lo last = some l := by
        cases z : look S.lo last with
        | none => rw [z] at hb; cases hb
        | some l => exact ⟨l, rfl⟩
      rw [ringGo, hline] at er
      simp only at er
      have w3 := w2.m g3
      have gg3 := gg2.trans g3
      refine hq_set (i := 3) (T := yI line.2) (Gh.own w3 g3.in_ rk_x fun B4 s3 s4 t => gv_ixT (i := 1) (j := 1) (gv_dget (k := last) (gv_fld (f := "line_of") (ns := nsD) (gv_var (i := 0) rfl h1 (gg3.bs.trans s3)) cD (by decide) rfl) (lastG _ _ rfl t) isDT_s (by rw [mL_look, hline]; rfl)) gv_c isTu_t rfl rfl) fun v3 B4 H4 g4 hv3 => ?_
      obtain rfl : v3 = .int line.2 := hv3
      have w4 := w3.m g4
      have gg4 := gg3.trans g4
      refine sq_if (b := decide (line.2 = -1)) g4.in_ (GvT.cast (b := decide (V.int line.2 = V.int (-1))) (gt_test (gv_eq (gv_v (i := 3) rfl) gv_c rfl)) (by simp)) (fun hb B5 H5 g5 => ?_) (fun hb B5 H5 g5 => ?_)
      · have hb := of_decide_eq_true hb
        rw [if_pos hb] at er
        cases er
        exact st_ret (T := yN) g5.in_ gv_c fun v B6 H6 g6 hv => q v B6 H6 ((gg4.trans g5).trans g6) hv
      · have hb := of_decide_eq_false hb
        rw [if_neg hb] at er
        cases ht : topWith S.tops line.2 with
        | none => rw [ht] at er; cases er
        | some t =>
        rw [ht] at er
        simp only at er
        have w5 := w4.m g5
        have gg5 := gg4.trans g5
        refine hq_app (T := yIs t) (is_var rfl) w5 g5.in_ (by rw [List.length_append, List.length_map]; simp; omega) ((gv_me (gv_var (i := 0) rfl h1 gg5.bs) (by walk_at "nm") (ga_1 (gv_v (i := 3) rfl)) (gives_G (R := Rtop CD CL) (.mk bst R S line.2 t ht hl))).h g5.in_) fun B6 H6 o6 g6 w6 => ?_
        have gg6 : Gr B H B6 (upd H6 d o6) := (gg5.trans g6).put (w5.m g6) (hd)
        refine ht_if (b := decide (t = L)) (GhT.own w6 gg6.in_ fun B7 s5 s6 ty => gt_test (gv_eqI (gv_ixLast (gv_var (i := 2) rfl ty (Same.refl _)) isLs_o (gv_neg gv_c)) (gv_var (i := 1) rfl h2 (gg6.bs.trans s5)))) (fun hb B7 H7 g7 => ?_) (fun hb B7 H7 g7 => ?_)
        · have hb := of_decide_eq_true hb
          rw [if_pos hb] at er
          cases er
          obtain ⟨B8, g8, s8, h8⟩ := (w6.m g7).pub (gg6.trans g7) hd
          have h8 := oL_ty h8
          refine st_ret (T := yL ((pre ++ [last]).map yIs)) g8.in_ (gv_slInit (T := yIs t) (gv_var (i := 2) rfl (T := yL ((pre ++ [last]).map yIs ++ [yIs t])) (by rw [mapapp]; exact h8) (Same.refl _)) (gv_neg gv_c)) fun v B9 H9 g9 hv => q v B9 H9 (g8.trans g9) hv
        · have hb := of_decide_eq_false hb
          rw [if_neg hb] at er
          refine ⟨k, B7, g7.in_, Nat.lt_succ_self k, pre ++ [last], t, _, rfl, ?_, gg6.trans g7, er, by rw [List.length_append]; simp; omega⟩
          rw [mapapp]
          exact w6.m g7
    · cases k with
      | zero => simp [ringGo] at er
      | succ k =>
      have hn : look S.lo last = none := by
        cases z : look S.lo last with
        | none => rfl
        | some l => rw [z] at hb; cases hb
      rw [ringGo, hn] at er
      cases er
      exact st_ret (T := yN) g3.in_ gv_c fun v B6 H6 g6 hv => q v B6 H6 ((gg2.trans g3).trans g6) hv
end
end LD
set_option maxRecDepth 100000
set_option maxHeartbeats 400000
/-! LdDraw2: heaviest.Drawing.choose -/

namespace LD
open PySem PyProof.Rows L2
abbrev s_Drawing_choose : Stmt := inClass (topS 59) 3
theorem sc_Drawing_choose : FnScope ["self", "lot", "most", "line", "cost", "ring", "whole", "part", "house"] ["self", "lot"] (defScope s_Drawing_choose) :=
  ⟨rfl, rfl, rfl, by decide +kernel, rfl, by decide +kernel, by decide +kernel⟩
structure DAd where
  a : Addr
  al : Addr
  db : Addr
  dr : Addr
  dl : Addr
  dm : Addr
  dc : Addr
abbrev DAd.ds (A : DAd) : List Addr := [A.a, A.al, A.db, A.dr, A.dl, A.dm, A.dc]
abbrev DAd.d6 (A : DAd) : List Addr := [A.a, A.al, A.db, A.dr, A.dl, A.dm]
abbrev DAd.d3 (A : DAd) : List Addr := [A.al, A.db, A.dr]
theorem ne_of_nd {l : List Addr} (n : l.Nodup) {i j : Nat} {x y : Addr} (hi : l[i]? = some x) (hj : l[j]? = some y) (h : i ≠ j) : x ≠ y := fun e => by
  subst e
  have hl : i < l.length := (List.getElem?_eq_some_iff.mp hi).1
  exact h ((List.getElem?_inj hl n).mp (hi.trans hj.symm))
abbrev yCost (p : Lot × Int) : Ty := yT [yIs p.1, yI p.2]
abbrev fD (A : DAd) (tops : List Lot) : Fs := [("lines", yX (.ref A.al)), ("tops", yTops tops), ("line_of", yX (.ref A.dl)), ("made_of", yX (.ref A.dm)), ("costs", yX (.ref A.dc))]
structure DraO (CD CL : Addr) (A : DAd) (bst : Bst) (R : Rst) (S : DS) (cs : List (Lot × Int)) (B H : Hp) : Prop where
  o : Ow A.a (oO CD (fD A S.tops)) B H
  l : LinO CL A.al A.db A.dr bst R B H
  lo : Ow A.dl (oT (mL S.lo)) B H
  mo : Ow A.dm (oT (mM S.mo)) B H
  co : Ow A.dc (oL (cs.map yCost)) B H
  nd : A.ds.Nodup
section
variable {CD CL : Addr} {A : DAd} {bst : Bst} {R R' : Rst} {S : DS} {cs cs' : List (Lot × Int)} {B H B1 H1 : Hp} {o : HO}
theorem DraO.m (w : DraO CD CL A bst R S cs B H) (g : Gr B H B1 H1) : DraO CD CL A bst R S cs B1 H1 := ⟨w.o.m g, w.l.m g, w.lo.m g, w.mo.m g, w.co.m g, w.nd⟩
theorem DraO.no (w : DraO CD CL A bst R S cs B H) : ∀ d ∈ A.ds, B d = none := fun d hd => by
  simp only [DAd.ds, List.mem_cons, List.not_mem_nil, or_false] at hd
  rcases hd with rfl | rfl | rfl | rfl | rfl | rfl | rfl
  · exact w.o.nb
  · exact w.l.o.nb
  · exact w.l.b.nb
  · exact w.l.r.nb
  · exact w.lo.nb
  · exact w.mo.nb
  · exact w.co.nb
theorem DraO.no6 (w : DraO CD CL A bst R S cs B H) : ∀ d ∈ A.d6, B d = none := fun d hd => w.no d (by
  simp only [DAd.ds, DAd.d6, List.mem_cons, List.not_mem_nil, or_false] at hd ⊢
  rcases hd with h | h | h | h | h | h <;> simp [h])
theorem DraO.nt6 (w : DraO CD CL A bst R S cs B H) : ∀ d ∈ A.d6, ∃ o, H d = some o ∧ NTL o := fun d hd => by
  simp only [DAd.d6, List.mem_cons, List.not_mem_nil, or_false] at hd
  rcases hd with rfl | rfl | rfl | rfl | rfl | rfl
  · exact w.o.ntO
  · exact w.l.o.ntO
  · exact w.l.b.ntT
  · exact w.l.r.ntT
  · exact w.lo.ntT
  · exact w.mo.ntT
theorem fs_at5 {f1 f2 f3 f4 f5 : Str} {T1 T2 T3 T4 T5 U1 U2 U3 U4 U5 : Ty} {xs : List (Str × V)} {B B' : Hp} (h : FsAt [(f1, T1), (f2, T2), (f3, T3), (f4, T4), (f5, T5)] xs B) (h1 : ∀ v, T1.p v B → U1.p v B') (h2 : ∀ v, T2.p v B → U2.p v B') (h3 : ∀ v, T3.p v B → U3.p v B') (h4 : ∀ v, T4.p v B → U4.p v B') (h5 : ∀ v, T5.p v B → U5.p v B') : FsAt [(f1, U1), (f2, U2), (f3, U3), (f4, U4), (f5, U5)] xs B' := by
  obtain ⟨v1, r, rfl, a1, h⟩ := fs_cons h
  obtain ⟨v2, r, rfl, a2, h⟩ := fs_cons h
  obtain ⟨v3, r, rfl, a3, h⟩ := fs_cons h
  obtain ⟨v4, r, rfl, a4, h⟩ := fs_cons h
  obtain ⟨v5, r, rfl, a5, h⟩ := fs_cons h
  obtain rfl := fs_nil h
  exact ⟨rfl, h1 _ a1, h2 _ a2, h3 _ a3, h4 _ a4, h5 _ a5, trivial⟩
theorem DraO.view (w : DraO CD CL A bst R S cs B H) (s : Same B H) : (yO CD (fV CL bst R S)).p (.ref A.a) (ext B H A.d6) := by
  obtain ⟨o, k1, dx, xs, rfl, fa⟩ := w.o.ex
  refine ⟨A.a, _, rfl, by rw [ext_in (by simp)]; exact k1, dx, xs, rfl, fs_at5 fa (fun v hv => ?_) (fun v hv => (yTops _).m (ext_same s) hv) (fun v hv => ?_) (fun v hv => ?_) (fun v hv => trivial)⟩
  · obtain rfl : v = .ref A.al := hv
    exact w.l.view s (by simp) (by simp) (by simp)
  · obtain rfl : v = .ref A.dl := hv
    exact oT_ty (w.lo.ext (by simp) s)
  · obtain rfl : v = .ref A.dm := hv
    exact oT_ty (w.mo.ext (by simp) s)
theorem DraO.low (w : DraO CD CL A bst R S cs B H) (k : Gr B (cut H A.d3) B1 H1) (l : LinO CL A.al A.db A.dr bst R' B1 H1) : DraO CD CL A bst R' S cs B1 H1 := by
  have n : ∀ (i : Nat) x, A.ds[i]? = some x → i ≠ 1 → i ≠ 2 → i ≠ 3 → x ∉ A.d3 := fun i x e h1 h2 h3 hm => by
    simp only [DAd.d3, List.mem_cons, List.not_mem_nil, or_false] at hm
    rcases hm with h | h | h
    · exact ne_of_nd w.nd (j := 1) e rfl h1 h
    · exact ne_of_nd w.nd (j := 2) e rfl h2 h
    · exact ne_of_nd w.nd (j := 3) e rfl h3 h
  exact ⟨w.o.over (n 0 _ rfl (by decide) (by decide) (by decide)) k, l, w.lo.over (n 4 _ rfl (by decide) (by decide) (by decide)) k, w.mo.over (n 5 _ rfl (by decide) (by decide) (by decide)) k, w.co.over (n 6 _ rfl (by decide) (by decide) (by decide)) k, w.nd⟩
theorem LinO.else {al db dr e : Addr} (l : LinO CL al db dr bst R B H) (h1 : al ≠ e) (h2 : db ≠ e) (h3 : dr ≠ e) : LinO CL al db dr bst R B (upd H e o) := ⟨l.o.else h1, l.b.else h2, l.r.else h3, l.n1, l.n2, l.n3⟩
theorem DraO.setLo {lo : List (Lot × Ln)} (w : DraO CD CL A bst R S cs B H) (k : Ow A.dl (oT (mL lo)) B (upd H A.dl o)) : DraO CD CL A bst R ⟨S.tops, lo, S.mo⟩ cs B (upd H A.dl o) := by
  have n : ∀ (i : Nat) x, A.ds[i]? = some x → i ≠ 4 → x ≠ A.dl := fun i x e h => ne_of_nd w.nd (j := 4) e rfl h
  exact ⟨w.o.else (n 0 _ rfl (by decide)), w.l.else (n 1 _ rfl (by decide)) (n 2 _ rfl (by decide)) (n 3 _ rfl (by decide)), k, w.mo.else (n 5 _ rfl (by decide)), w.co.else (n 6 _ rfl (by decide)), w.nd⟩
theorem DraO.setMo {mo : List (Lot × List Lot)} (w : DraO CD CL A bst R S cs B H) (k : Ow A.dm (oT (mM mo)) B (upd H A.dm o)) : DraO CD CL A bst R ⟨S.tops, S.lo, mo⟩ cs B (upd H A.dm o) := by
  have n : ∀ (i : Nat) x, A.ds[i]? = some x → i ≠ 5 → x ≠ A.dm := fun i x e h => ne_of_nd w.nd (j := 5) e rfl h
  exact ⟨w.o.else (n 0 _ rfl (by decide)), w.l.else (n 1 _ rfl (by decide)) (n 2 _ rfl (by decide)) (n 3 _ rfl (by decide)), w.lo.else (n 4 _ rfl (by decide)), k, w.co.else (n 6 _ rfl (by decide)), w.nd⟩
theorem DraO.setCo (w : DraO CD CL A bst R S cs B H) (k : Ow A.dc (oL (cs'.map yCost)) B (upd H A.dc o)) : DraO CD CL A bst R S cs' B (upd H A.dc o) := by
  have n : ∀ (i : Nat) x, A.ds[i]? = some x → i ≠ 6 → x ≠ A.dc := fun i x e h => ne_of_nd w.nd (j := 6) e rfl h
  exact ⟨w.o.else (n 0 _ rfl (by decide)), w.l.else (n 1 _ rfl (by decide)) (n 2 _ rfl (by decide)) (n 3 _ rfl (by decide)), w.lo.else (n 4 _ rfl (by decide)), w.mo.else (n 5 _ rfl (by decide)), k, w.nd⟩
theorem DraO.setTops {tops : List Lot} (w : DraO CD CL A bst R S cs B H) (k : Ow A.a (oO CD (fD A tops)) B (upd H A.a o)) : DraO CD CL A bst R ⟨tops, S.lo, S.mo⟩ cs B (upd H A.a o) := by
  have n : ∀ (i : Nat) x, A.ds[i]? = some x → i ≠ 0 → x ≠ A.a := fun i x e h => ne_of_nd w.nd (j := 0) e rfl h
  exact ⟨k, w.l.else (n 1 _ rfl (by decide)) (n 2 _ rfl (by decide)) (n 3 _ rfl (by decide)), w.lo.else (n 4 _ rfl (by decide)), w.mo.else (n 5 _ rfl (by decide)), w.co.else (n 6 _ rfl (by decide)), w.nd⟩
end
/-- sizes of a state -/
structure DsOk (N : Nat) (S : DS) : Prop where
  lo : (S.lo.map (·.1)).Nodup
  mo : (S.mo.map (·.1)).Nodup
  l1 : S.lo.length ≤ N
  l2 : S.mo.length ≤ N
  l3 : S.tops.length ≤ N
theorem ds_step {N : Nat} {S S' : DS} {L : Lot} {c : Ln} (o : DsOk N S) (h : chooseD S L c = some S') : DsOk (N + 1) S' := by
  have h1 := put_len (m := S.lo) (k := L) (v := c)
  have n1 := put_nodup (k := L) (v := c) o.lo
  obtain ⟨o1, o2, o3, o4, o5⟩ := o
  unfold chooseD at h
  split at h
  · cases h
  · cases h
    exact ⟨n1, o2, by simp only; omega, by simp only; omega, by simp only; omega⟩
  · rename_i ring _
    split at h
    rotate_left
    · cases h
    cases h
    refine ⟨n1, put_nodup o2, by simp only; omega, ?_, ?_⟩
    · have := put_len (m := S.mo) (k := wholeOf ring) (v := ring)
      simp only; omega
    · unfold joinTops
      simp only [List.length_append, List.length_cons, List.length_nil]
      have := List.length_filter_le (fun part => !decide (part ∈ ring)) S.tops
      omega
/-- what follows an if, once -/
theorem seq_k {tu tz : TS} {D : Ends} {σ : L2.St} {H : Hp} (Pv : L2.St → Hp → Hp → Prop) (k : ∀ σ' B' H', Same B' H' → Pv σ' B' H' → tz D σ' H') (h : (∀ σ' B' H', Same B' H' → Pv σ' B' H' → tz D σ' H') → tSeq tu tz D σ H) : tSeq tu tz D σ H := h k
/-- choose: the drawing is changed -/
def spCho (CD CL : Addr) : Sp := fun vs H Q _ => ∃ B A bst R S cs L v2 S' N, vs = [.ref A.a, v2] ∧ Same B H ∧ DraO CD CL A bst R S cs B H ∧ (yIs L).p v2 B ∧ (R.map (·.1)).Nodup ∧ R.length ≤ 1000 ∧ outOf R L ≠ [] ∧ L ≠ [] ∧ DsOk N S ∧ N ≤ 100 ∧ cs.length ≤ N ∧ chooseD S L (pickOf R L) = some S' ∧
  ∀ B' H' cs', Gr B (cut H A.ds) B' H' → DraO CD CL A bst (lowered R L) S' cs' B' H' → cs'.length ≤ N + 1 → Q .non H'
section
variable {P : Program} {w : World} {K : PySem.W.Frag} {mg : Str → Option Value} {base : Heap} {CD CL : Addr}
theorem me_low {σ : L2.St} {B H : Hp} {ta t0 : TE} {al db dr : Addr} {bst : Bst} {R : Rst} {L : Lot} {Q : VK} (hi : Is ta σ B H al) (l : LinO CL al db dr bst R B H) (s : Same B H) (h : Gv t0 σ B (yIs L)) (nd : (R.map (·.1)).Nodup) (hl : R.length ≤ 1000) (ne : outOf R L ≠ [])
    (q : ∀ v B' H', Gr B (cut H [al, db, dr]) B' H' → LinO CL al db dr bst (lowered R L) B' H' → (yT [yI (mostOf R L), yLn (pickOf R L)]).p v B' → Q v H') : tMe CL "lower" (spLow CL) ta (tCons t0 tNil) σ H Q := by
  obtain ⟨o, k1, dx, xs, rfl, fa⟩ := l.o.ex
  refine hi B H (Gr.refl s) _ ⟨al, dx, xs, rfl, k1, fa.no (by walk_at "nm"), (ga_1 h) H s _ fun vs B1 H1 g hvs => ?_⟩
  obtain ⟨v2, rfl, hv2⟩ := all1 hvs
  exact ⟨B1, al, db, dr, bst, R, L, v2, rfl, g.in_, l.m g, hv2, nd, hl, ne, fun v B' H' g' l' hv => q v B' H' (((Gr.cut0 s l.no).trans g).cuts (fun d hd => hd) g') l' hv⟩
theorem non_ring {r : Option (List Lot)} : Non (yRing r) (!r.isSome) := by
  cases r with
  | none => exact non_n
  | some ring => exact non_l
theorem rc_ring {r : Option (List Lot)} : RmC (yRing r) := by
  cases r with
  | none => exact rc_x
  | some ring => exact rc_li
theorem ok_choose (D : DefM K CD "choose" "Drawing.choose" s_Drawing_choose ["self", "lot"]) (bl : Blt mg) (cD : ClsF K CD nsD) (cL : ClsF K CL nsL) (m_lower : CalM P w K mg base CL "lower" 2 ["self", "lot"] (spLow CL)) (m_ring_from : CalM P w K mg base CD "ring_from" 2 ["self", "lot"] (spG (Rring CD CL))) : CalM P w K mg base CD "choose" 3 ["self", "lot"] (spCho CD CL) := by
  have sc := sc_Drawing_choose
  refine D.ok sc (fun vs H Q E h => ?_) (fun f cdv A outer s H vs Q E hr h => ?_)
  · obtain ⟨B, A, bst, R, S, cs, L, v2, S', N, rfl, _⟩ := h
    rfl
  · obtain ⟨B, A, bst, R, S, cs, L, v2, S', N, rfl, sb, w0, h2, nd, hl, ne, neL, dok, hN, hcs, hch, q⟩ := h
    refine ⟨_, (pss_cons (ps_asg (pe_me m_lower (hr.mono (by decide)) (pe_fldK K rfl (pv 0) rfl) (pa_cons (pv 1) pa_nil)) (pg_tup (by rfl) (pgs_cons (pg_name (i := 2) sc.nd rfl (.inl rfl)) (pgs_cons (pg_name (i := 3) sc.nd rfl (.inl rfl)) pgs_nil))))
(pss_cons (ps_dput (hu_of hr) (pe_fldK K rfl (pv 0) rfl) (pv 1) (pv 3) rfl)
(pss_cons (ps_set (i := 4) sc.nd rfl (.inl rfl) (pe_un un_neg (pv 2)))
(pss_cons (ps_if (pt_cmpR op_eq (pb_lenK K rfl bl.len_ (pa_cons (pv 1) pa_nil)) pe_int (nomark _))
  (pss_one (ps_aug (i := 4) sc.nd rfl (.inl rfl) (pe_dget2 (hu_of hr) (pe_fldK K rfl (pe_fldK K rfl (pv 0) rfl) rfl) (pe_tup (pa_cons (pe_ix (ix_tupK K rfl) (pv 1) pe_int (fun _ _ => rfl)) (pa_cons (pe_ix (ix_tupK K rfl) (pv 1) pe_int (fun _ _ => rfl)) pa_nil))) (pv 2) ⟨rfl, rfl, rfl, rfl⟩) ip_add))
  pss_nil)
(pss_cons (ps_if (pt_cmpR op_gt (pv 4) pe_int (nomark _))
  (pss_one (ps_expr (pe_bm PySem.F.plainAttrs_list PySem.F.slot_list_append PySem.F.type_list_append mt_append (pe_fldK K rfl (pv 0) rfl) (pa_cons (pe_tup (pa_cons (pv 1) (pa_cons (pv 4) pa_nil))) pa_nil))))
  pss_nil)
(pss_cons (ps_set (i := 5) sc.nd rfl (.inr rfl) (pe_me m_ring_from (hr.mono (by decide)) (pv 0) (pa_cons (pv 1) pa_nil)))
(pss_one (ps_if (pt_cmpR op_notN (pv 5) pe_non (nomark _))
  (pss_cons (ps_set (i := 6) sc.nd rfl (.inl rfl) (pb_tuple bl.tuple_ (pa_cons (pb_sortI bl.sorted_ (pa_cons (pe_lc2 (vs1 := [8]) (own := [("part", 7), ("house", 8)]) (g := (gName 7)) (tt := _) (by rfl) sc.nd (pi_listK K rfl (pv 5)) (blkOk_by (by kernel_rfl)) (by decide) (fun _ _ _ _ _ => (pg_name (i := 7) sc.nd rfl (.inl rfl))) (fun _ _ _ _ _ => pts_nil) (fun _ _ _ _ _ => (pi_tupK K rfl (pv 7))) (fun _ _ _ _ _ => (pg_name (i := 8) sc.nd rfl (.inl rfl))) (fun _ _ _ _ _ => pts_nil) (fun _ _ _ _ _ => (pv 8))) pa_nil)) pa_nil)))
(pss_cons (ps_dput (hu_of hr) (pe_fldK K rfl (pv 0) rfl) (pv 6) (pv 5) rfl)
(pss_one (ps_fld (pv 0) (pe_op op_cat (pe_lc (own := [("part", 7)]) (g := (gName 7)) (tt := _) (by rfl) sc.nd (pi_listK K rfl (pe_fldK K rfl (pv 0) rfl)) (blkOk_by (by kernel_rfl)) (fun _ _ _ _ _ => (pg_name (i := 7) sc.nd rfl (.inl rfl))) (fun _ _ _ _ _ => (pts_one (pt_cmpR (op_notInDK K rfl (hr65 hr)) (pv 7) (pv 5) (by rfl)))) (fun _ _ _ _ _ => (pv 7))) (pe_lst (pa_cons (pv 6) pa_nil))) rfl))))
  pss_nil)))))))), ?_⟩
    refine me_low (is_fld (is_var rfl) w0.o cD (by decide) rfl) w0.l sb (gv_var (i := 1) rfl h2 (Same.refl _)) nd hl ne fun v B1 H1 g1 l1 hv => g_tup2 hv g1.in_ fun vm vl hvm hvl => ?_
    obtain rfl : vm = .int (mostOf R L) := hvm
    generalize pickOf R L = c at hch hvl
    generalize lowered R L = R' at l1 q
    have w1 := w0.low g1 l1
    have no0 := w0.no
    have gg1 : Gr B (cut H A.ds) B1 H1 := (Gr.cut0 sb no0).cuts (fun d hd => by
      simp only [DAd.ds, List.mem_cons, List.not_mem_nil, or_false] at hd ⊢
      rcases hd with h | h | h <;> simp [h]) g1
    have i4 : A.dl ∈ A.ds := by simp
    have i5 : A.dm ∈ A.ds := by simp
    have i6 : A.dc ∈ A.ds := by simp
    have i0 : A.a ∈ A.ds := by simp
    -- line_of
    refine hq_dputT (ks := L) (T := yLn c) (is_fld (is_var rfl) w1.o cD (by decide) rfl) w1.lo g1.in_ (by rw [mG_keys]; simpa using dok.lo) (by rw [mG_len]; have := dok.l1; omega) ((gv_var (i := 3) rfl hvl (Same.refl _)).h g1.in_) (gv_var (i := 1) rfl h2 g1.bs) fun B2 H2 o2 g2 k2 => ?_
    have w2 := (w1.m g2).setLo (lo := put S.lo L c) (by
      have e : put (mL S.lo) L (yLn c) = mL (put S.lo L c) := mG_put (kf := id) id_inj
      rw [← e]; exact k2)
    have gg2 : Gr B (cut H A.ds) B2 (upd H2 A.dl o2) := (gg1.trans g2).mutC i4 (w1.lo.m g2).nb
    generalize upd H2 A.dl o2 = H3 at w2 gg2
    -- cost
    refine sq_set (i := 4) (T := yI (-(mostOf R L))) gg2.in_ (gv_neg (gv_v (i := 2) rfl)) fun v4 B4 H4 g4 hv4 => ?_
    obtain rfl : v4 = .int (-(mostOf R L)) := hv4
    have w4 := w2.m g4
    have gg4 := gg2.trans g4
    have sB4 : Same B B4 := gg4.bs
    refine seq_k (Pv := fun σ' B' H' => ∃ x : Int, σ' = [some (.ref A.a), some v2, some (.int (mostOf R L)), some vl, some (.int x), none, none, none, none] ∧ DraO CD CL A bst R' ⟨S.tops, put S.lo L c, S.mo⟩ cs B' H' ∧ Gr B (cut H A.ds) B' H' ∧ Same B4 B') (fun σ' B5 H5 s5 hP => ?_) fun cont => ?_
    · obtain ⟨x, rfl, w5, gg5, s45⟩ := hP
      -- costs
      refine seq_k (Pv := fun σ' B' H' => ∃ (cs' : List (Lot × Int)), σ' = [some (.ref A.a), some v2, some (.int (mostOf R L)), some vl, some (.int x), none, none, none, none] ∧ DraO CD CL A bst R' ⟨S.tops, put S.lo L c, S.mo⟩ cs' B' H' ∧ Gr B (cut H A.ds) B' H' ∧ cs'.length ≤ N + 1) (fun σ' B6 H6 s6 hP => ?_) fun cont => ?_
      · obtain ⟨cs', rfl, w6, gg6, hcs'⟩ := hP
        -- ring
        obtain ⟨r, hr1⟩ : ∃ r, ringOf S.tops (put S.lo L c) L = some r := by
          unfold chooseD at hch
          cases z : ringOf S.tops (put S.lo L c) L with
          | none => rw [z] at hch; cases hch
          | some r => exact ⟨r, rfl⟩
        refine hq_set (i := 5) (T := yRing r) (Gh.ext (ds := A.d6) s6 w6.no6 w6.nt6 rc_ring (gv_me (gv_var (i := 0) rfl (w6.view s6) (Same.refl _)) (by walk_at "nm") (ga_1 (gv_var (i := 1) rfl h2 (gg6.bs.trans (ext_same s6)))) (gives_G (R := Rring CD CL) (.mk bst R' ⟨S.tops, put S.lo L c, S.mo⟩ L r hr1 (by have := dok.l3; simp only; omega))))) fun v5 B7 H7 g7 hv5 => ?_
        have w7 := w6.m g7
        have gg7 := gg6.trans g7
        refine st_if (b := !(!r.isSome)) g7.in_ (gt_test (gv_notN (gv_var (i := 5) rfl hv5 (Same.refl _)) non_ring)) (fun hb B8 H8 g8 => ?_) (fun hb B8 H8 g8 => ?_)
        · cases r with
          | none => cases hb
          | some ring =>
          have hS : S' = ⟨joinTops S.tops ring, put S.lo L c, put S.mo (wholeOf ring) ring⟩ ∧ (ring.flatMap fun part => part).length ≤ 100 := by
            unfold chooseD at hch
            rw [hr1] at hch
            simp only at hch
            split at hch
            · rename_i h100
              cases hch; exact ⟨rfl, h100⟩
            · cases hch
          have w8 := w7.m g8
          have gg8 := gg7.trans g8
          have hring : (yL (ring.map yIs)).p v5 B8 := (yL _).m g8.bs hv5
          have hll : (ring.flatMap fun part => part).length < 100000 := by have := hS.2; omega
          refine sq_set (i := 6) (T := yIs (wholeOf ring)) g8.in_ (gv_tupL (gv_sortIs (Gv.cast (A := yL ((ring.flatMap fun part => part).map fun i => yI i)) (gv_lc2 (f := fun part => part) (F := yIs) (F1 := fun i => yI i) (n1 := fun part => (part.map yI).length) (Ts1 := fun part => tyAt (part.map yI)) (gi_list (gv_var (i := 5) rfl hring (Same.refl _)) isLs_l) (by rw [List.length_map]) hT_map hll (fun _ => rfl) (fun j l y B2 hj s1 hy => gi_tup (gv_var (i := 7) rfl hy (Same.refl _)) isTu_t) (fun l => by rw [List.length_map]) (fun l k b e => hT_map k b e) (fun _ _ => rfl) fun l b y z B3 hl hb s3 hz => gv_var (i := 8) rfl hz (Same.refl _)) rfl))) fun v6 B9 H9 g9 hv6 => ?_
          have w9 := w8.m g9
          have gg9 := gg8.trans g9
          refine hq_dputT (ks := wholeOf ring) (T := yL (ring.map yIs)) (is_fld (is_var rfl) w9.o cD (by decide) rfl) w9.mo g9.in_ (by rw [mG_keys]; simpa using dok.mo) (by rw [mG_len]; have := dok.l2; simp only; omega) ((gv_var (i := 5) rfl hring g9.bs).h g9.in_) (gv_var (i := 6) rfl hv6 (Same.refl _)) fun B10 H10 o10 g10 k10 => ?_
          have w10 := (w9.m g10).setMo (mo := put S.mo (wholeOf ring) ring) (by
            have e : put (mM S.mo) (wholeOf ring) (yL (ring.map yIs)) = mM (put S.mo (wholeOf ring) ring) := mG_put (kf := id) (F := fun ring : List Lot => yL (ring.map yIs)) id_inj
            rw [← e]; exact k10)
          have gg10 : Gr B (cut H A.ds) B10 (upd H10 A.dm o10) := (gg9.trans g10).mutC i5 (w9.mo.m g10).nb
          have hring10 := (yL _).m (g9.bs.trans g10.bs) hring
          have hv610 := (yIs _).m g10.bs hv6
          generalize upd H10 A.dm o10 = H11 at w10 gg10
          refine ht_fput (T := yTops (joinTops S.tops ring)) (T0 := yTops S.tops) (is_var rfl) w10.o cD (by decide) rfl (by simp) (Gh.ext (ds := A.d6) gg10.in_ w10.no6 w10.nt6 rc_li (Gv.cast (gv_cat (gv_lc1f (F := yIs) (E := yIs) (p := fun part => !decide (part ∈ ring)) (gi_list (gv_fld (f := "tops") (ns := nsD) (gv_var (i := 0) rfl (w10.view gg10.in_) (Same.refl _)) cD (by decide) rfl) isLs_l) (by rw [List.length_map]) hT_map (by have := dok.l3; simp only; omega) (fun _ => rfl) (fun j t x B2 hj s1 hx => gt_test (gv_notinL (gv_var (i := 7) rfl hx (Same.refl _)) (gv_var (i := 5) rfl hring10 ((ext_same gg10.in_).trans s1)))) fun j t x B2 hj hp s1 hx => gv_var (i := 7) rfl hx (Same.refl _)) (gv_lst1 (gv_var (i := 6) rfl hv610 (ext_same gg10.in_))) (by
              rw [List.length_map]
              refine Nat.le_trans (Nat.add_le_add_right (List.length_filter_le _ _) _) ?_
              have := dok.l3
              simp only [List.length_cons, List.length_nil]
              omega)) (by unfold joinTops; rw [← mapapp]))) fun B12 H12 o12 g12 k12 => ?_
          have w12 := (w10.m g12).setTops (tops := joinTops S.tops ring) k12
          have gg12 : Gr B (cut H A.ds) B12 (upd H12 A.a o12) := (gg10.trans g12).mutC i0 (w10.o.m g12).nb
          refine q B12 _ cs' gg12 ?_ hcs'
          rw [hS.1]
          exact w12
        · cases r with
          | some ring => cases hb
          | none =>
          have hS : S' = ⟨S.tops, put S.lo L c, S.mo⟩ := by
            unfold chooseD at hch
            rw [hr1] at hch
            cases hch; rfl
          refine q B8 H8 cs' (gg7.trans g8) ?_ hcs'
          rw [hS]
          exact w7.m g8
      · refine sq_if (b := decide (x > 0)) s5 (gt_test (gv_I0 (gv_v (i := 4) rfl) gv_c)) (fun hb B6 H6 g6 => ?_) (fun hb B6 H6 g6 => ?_)
        · have w6 := w5.m g6
          refine ht_app (T := yCost (L, x)) (is_fld (is_var rfl) w6.o cD (by decide) rfl) w6.co g6.in_ (by rw [List.length_map]; omega) ((gv_tup2 (gv_var (i := 1) rfl h2 (gg5.bs.trans g6.bs)) (gv_v (i := 4) rfl)).h g6.in_) fun B7 H7 o7 g7 k7 => ?_
          have w7 := (w6.m g7).setCo (cs' := cs ++ [(L, x)]) (by rw [List.map_append]; exact k7)
          have gg7 : Gr B (cut H A.ds) B7 (upd H7 A.dc o7) := ((gg5.trans g6).trans g7).mutC i6 (w6.co.m g7).nb
          exact cont _ B7 _ gg7.in_ ⟨_, rfl, w7, gg7, by rw [List.length_append]; simp; omega⟩
        · exact cont _ B6 H6 g6.in_ ⟨_, rfl, w5.m g6, gg5.trans g6, by omega⟩
    · refine sq_if (b := decide (L.length = 1)) g4.in_ (GvT.cast (b := decide (V.int (((L.map yI).length : Nat) : Int) = V.int 1)) (gt_test (gv_eq (gv_lenT (gv_var (i := 1) rfl h2 sB4) isTu_t) gv_c rfl)) (by
        rw [List.length_map]
        simp only [V.int.injEq]
        congr 1
        exact propext ⟨fun h => by omega, fun h => by omega⟩)) (fun hb B5 H5 g5 => ?_) (fun hb B5 H5 g5 => ?_)
      · have hb := of_decide_eq_true hb
        obtain ⟨hh, rfl⟩ := List.length_eq_one_iff.mp hb
        have w5 := w4.m g5
        have gg5 := gg4.trans g5
        have l0 : ∀ B', Same B B' → Gv (tOp (rIxT K) (tVar 1) (tC (.int 0))) [some (.ref A.a), some v2, some (.int (mostOf R [hh])), some vl, some (.int (-(mostOf R [hh]))), none, none, none, none] B' (yI hh) := fun B' s' => gv_ixT (i := 0) (j := 0) (gv_var (i := 1) rfl h2 s') gv_c isTu_t rfl rfl
        refine ht_aug (i := 4) (y := (look R' (hh, hh)).getD (mostOf R [hh])) rfl (Gh.ext (ds := A.d6) g5.in_ w5.no6 w5.nt6 rc_x (gv_dget2 (k := lk (hh, hh)) (gv_fld (f := "rest") (ns := nsL) (gv_fld (f := "lines") (ns := nsD) (gv_var (i := 0) rfl (w5.view g5.in_) (Same.refl _)) cD (by decide) rfl) cL (by decide) rfl) (gv_tup2 (l0 _ (gg5.bs.trans (ext_same g5.in_))) (l0 _ (gg5.bs.trans (ext_same g5.in_)))) (gv_v (i := 2) rfl) isDT_s (by rw [mG_look lk_inj]; cases look R' (hh, hh) <;> rfl))) fun B6 H6 g6 => ?_
        exact cont _ B6 H6 g6.in_ ⟨_, rfl, w5.m g6, gg5.trans g6, g5.bs.trans g6.bs⟩
      · exact cont _ B5 H5 g5.in_ ⟨_, rfl, w4.m g5, gg4.trans g5, g5.bs⟩
end
end LD
set_option maxRecDepth 100000
set_option maxHeartbeats 400000
/-! LdDraw3: heaviest.Drawing: __init__, draw, lines_chosen -/

namespace LD
open PySem PyProof.Rows L2
abbrev s_Drawing___init__ : Stmt := inClass (topS 59) 0
theorem sc_Drawing___init__ : FnScope ["self", "web", "weights", "house"] ["self", "web", "weights"] (defScope s_Drawing___init__) :=
  ⟨rfl, rfl, rfl, by decide +kernel, rfl, by decide +kernel, by decide +kernel⟩
abbrev s_Drawing_draw : Stmt := inClass (topS 59) 4
theorem sc_Drawing_draw : FnScope ["self", "open_lots", "lot"] ["self"] (defScope s_Drawing_draw) :=
  ⟨rfl, rfl, rfl, by decide +kernel, rfl, by decide +kernel, by decide +kernel⟩
abbrev s_Drawing_lines_chosen : Stmt := inClass (topS 59) 5
theorem sc_Drawing_lines_chosen : FnScope ["self", "found", "waiting", "lot", "line", "part"] ["self"] (defScope s_Drawing_lines_chosen) :=
  ⟨rfl, rfl, rfl, by decide +kernel, rfl, by decide +kernel, by decide +kernel⟩
/-- __init__: a drawing that is owned -/
def spDin (CD CL CW : Addr) : Sp := fun vs H Q _ => ∃ x dx rest H1 B c D W, vs = .ref x :: rest ∧ H1 x = none ∧ H1 dx = none ∧ dx ≠ x ∧ H = upd (upd H1 dx (.own x)) x (.ins CD dx []) ∧ Same B H1 ∧ All [yW CW c D, yWts W (steps D)] rest B ∧ Small D ∧
  ∀ B' H' A, Gr B H1 B' H' → A.a = x → DraO CD CL A (bestRest (doorF D) W (steps D)).1 (bestRest (doorF D) W (steps D)).2 (start0 D.length) [] B' H' → (∀ d ∈ A.ds, H1 d = none) → Q .non H'
/-- draw: to the end of the run -/
def spDrw (CD CL : Addr) : Sp := fun vs H Q _ => ∃ B A bst R0 n, vs = [.ref A.a] ∧ Same B H ∧ DraO CD CL A bst R0 (start0 n) [] B H ∧ RstOk n R0 ∧ 1 ≤ n ∧ n ≤ 3 ∧ R0.length ≤ 1000 ∧
  ∀ B' H' R' S' cs', Gr B (cut H A.ds) B' H' → runGo 6 R0 (start0 n) = some (R', S') → cs'.length ≤ 100 → S'.tops.length ≤ 100 → DraO CD CL A bst R' S' cs' B' H' → Q .non H'
abbrev mF (found : List (Int × Ln)) : List (Int × Ty) := found.map fun p => (p.1, yLn p.2)
inductive Rchosen (CD CL : Addr) : List Ty → Ty → Prop
  | mk (bst : Bst) (R : Rst) (S : DS) (found : List (Int × Ln)) (e : chosenOf S = some found) (hl : S.tops.length ≤ 100) : Rchosen CD CL [yO CD (fV CL bst R S)] (yDI (mF found))
section
variable {P : Program} {w : World} {K : PySem.W.Frag} {mg : Str → Option Value} {base : Heap} {CD CL CW : Addr}
theorem me_cho {σ : L2.St} {B H : Hp} {ta t0 : TE} {A : DAd} {bst : Bst} {R : Rst} {S S' : DS} {cs : List (Lot × Int)} {L : Lot} {N : Nat} {Q : VK} (hi : Is ta σ B H A.a) (w0 : DraO CD CL A bst R S cs B H) (s : Same B H) (h : Gv t0 σ B (yIs L)) (nd : (R.map (·.1)).Nodup) (hl : R.length ≤ 1000) (ne : outOf R L ≠ []) (neL : L ≠ []) (dok : DsOk N S) (hN : N ≤ 100) (hcs : cs.length ≤ N) (hch : chooseD S L (pickOf R L) = some S')
    (q : ∀ B' H' cs', Gr B (cut H A.ds) B' H' → DraO CD CL A bst (lowered R L) S' cs' B' H' → cs'.length ≤ N + 1 → Q .non H') : tMe CD "choose" (spCho CD CL) ta (tCons t0 tNil) σ H Q := by
  obtain ⟨o, k1, dx, xs, rfl, fa⟩ := w0.o.ex
  refine hi B H (Gr.refl s) _ ⟨A.a, dx, xs, rfl, k1, fa.no (by walk_at "nm"), (ga_1 h) H s _ fun vs B1 H1 g hvs => ?_⟩
  obtain ⟨v2, rfl, hv2⟩ := all1 hvs
  exact ⟨B1, A, bst, R, S, cs, L, v2, S', N, rfl, g.in_, w0.m g, hv2, nd, hl, ne, neL, dok, hN, hcs, hch, fun B' H' cs' g' w' hc => q B' H' cs' (((Gr.cut0 s w0.no).trans g).cuts (fun d hd => hd) g') w' hc⟩
theorem open_lots {B : Hp} {bst : Bst} {R : Rst} {S : DS} {v : V} {n1 n2 : Option V} (cD : ClsF K CD nsD) (h : (yO CD (fV CL bst R S)).p v B) (hl : S.tops.length ≤ 1000) : Gv (tLc (iList K (tFld K (tVar 0) "tops")) (gName 2) (tB (tDNotIn (tVar 2) (tFld K (tVar 0) "line_of"))) (tVar 2) [2]) [some v, n1, n2] B (yTops (openOf S.tops S.lo)) :=
  gv_lc1f (F := yIs) (E := yIs) (p := fun t => !(look S.lo t).isSome) (gi_list (gv_fld (f := "tops") (ns := nsD) (gv_var (i := 0) rfl h (Same.refl _)) cD (by decide) rfl) isLs_l) (by rw [List.length_map]) hT_map (by omega) (fun _ => rfl) (fun j t x B2 hj s1 hx => gt_B (Gv.cast (A := yB (!(look (mL S.lo) t).isSome)) (gv_dnotin (gv_var (i := 2) rfl hx (Same.refl _)) (gv_fld (f := "line_of") (ns := nsD) (gv_var (i := 0) rfl h s1) cD (by decide) rfl) isDT_s) (by rw [mL_look]; cases look S.lo t <;> rfl))) fun j t x B2 hj hp s1 hx => gv_var (i := 2) rfl hx (Same.refl _)
theorem lots_ne {n : Nat} {L : Lot} (h : L ∈ lotsOf n) : L ≠ [] := fun z => by
  subst z
  have := (List.mem_filter.mp h).2
  simp at this
theorem low_len {R : Rst} {L : Lot} (h : (R.map (·.1)).Nodup) : (lowered R L).length = R.length := by
  have := congrArg List.length (lowered_ok (L := L) h).1
  simpa using this
theorem start_ok {n : Nat} (h : n ≤ 3) : DsOk 3 (start0 n) := ⟨List.nodup_nil, List.nodup_nil, Nat.zero_le _, Nat.zero_le _, by
  unfold start0
  simp only [List.length_map, List.length_range]
  omega⟩
theorem ok_draw (D : DefM K CD "draw" "Drawing.draw" s_Drawing_draw ["self"]) (bl : Blt mg) (cD : ClsF K CD nsD) (m_choose : CalM P w K mg base CD "choose" 3 ["self", "lot"] (spCho CD CL)) : CalM P w K mg base CD "draw" 4 ["self"] (spDrw CD CL) := by
  have sc := sc_Drawing_draw
  refine D.ok sc (fun vs H Q E h => ?_) (fun f cdv A outer s H vs Q E hr h => ?_)
  · obtain ⟨B, A, bst, R0, n, rfl, _⟩ := h
    rfl
  · obtain ⟨B, A, bst, R0, n, rfl, sb, w0, ro, h1, h3, hl, q⟩ := h
    refine ⟨_, (pss_cons (ps_setLc (i := 1) (own := [("lot", 2)]) (g := (gName 2)) (tt := _) (by rfl) sc.nd rfl rfl (sw_true rfl rfl rfl (by decide +kernel)) (pi_listK K rfl (pe_fldK K rfl (pv 0) rfl)) (blkOk_by (by kernel_rfl)) (fun _ _ _ _ _ => (pg_name (i := 2) sc.nd rfl (.inl rfl))) (fun _ _ _ _ _ => (pts_one (pt_cmp (pc_dnotin (hu_of hr) (pv 2) (pe_fldK K rfl (pv 0) rfl))))) (fun _ _ _ _ _ => (pv 2)))
(pss_one (ps_while PassesOwn.never (pt_cmpR op_gt (pb_lenK K rfl bl.len_ (pa_cons (pv 1) pa_nil)) pe_int (nomark _))
  (pss_cons (ps_expr (pe_me m_choose (hr.mono (by decide)) (pv 0) (pa_cons (pe_ix (ix_listK K rfl) (pv 1) pe_int (fun _ _ => rfl)) pa_nil)))
(pss_one (ps_setLc (i := 1) (own := [("lot", 2)]) (g := (gName 2)) (tt := _) (by rfl) sc.nd rfl rfl (sw_true rfl rfl rfl (by decide +kernel)) (pi_listK K rfl (pe_fldK K rfl (pv 0) rfl)) (blkOk_by (by kernel_rfl)) (fun _ _ _ _ _ => (pg_name (i := 2) sc.nd rfl (.inl rfl))) (fun _ _ _ _ _ => (pts_one (pt_cmp (pc_dnotin (hu_of hr) (pv 2) (pe_fldK K rfl (pv 0) rfl))))) (fun _ _ _ _ _ => (pv 2)))))))), ?_⟩
    have st := start_ok h3
    refine hq_set (i := 1) (T := yTops (openOf (start0 n).tops (start0 n).lo)) (Gh.ext (ds := A.d6) sb w0.no6 w0.nt6 rc_li (open_lots cD (w0.view sb) (by have := st.l3; omega))) fun v1 B1 H1 g1 hv1 => ?_
    refine sq_while (tz := fun D => D.nx) (D := { nx := fun x H' => Q V.non H', rt := Q }) (fun k σ B' H' => ∃ R S ms cs v1, σ = [some (.ref A.a), some v1, none] ∧ (yTops (openOf S.tops S.lo)).p v1 B' ∧ DraO CD CL A bst R S cs B' H' ∧ Gr B (cut H A.ds) B' H' ∧ good n k S = true ∧ NumInv R0 R ms S.lo ∧ runGo k R S = runGo 6 R0 (start0 n) ∧ R.length ≤ 1000 ∧ ∃ N, DsOk N S ∧ N + k = 9 ∧ cs.length ≤ N) g1.in_ 6 ⟨R0, start0 n, [], [], v1, rfl, hv1, w0.m g1, (Gr.cut0 sb w0.no).trans g1, good_ok h1 h3, num0, rfl, hl, 3, st, rfl, Nat.zero_le _⟩ fun k σ B2 H2 s2 hW => ?_
    obtain ⟨R, S, ms, cs, v1, rfl, hv1, w2, gg2, gd, num, hrun, hl2, N, dok, hN, hcs⟩ := hW
    refine ⟨decide ((0 : Int) < ((openOf S.tops S.lo).length : Nat)), GvT.cast (b := decide ((((((openOf S.tops S.lo).map yIs).length : Nat) : Int)) > 0)) (gt_test (gv_I0 (gv_lenL (gv_var (i := 1) rfl hv1 (Same.refl _)) isLs_l) gv_c)) (by rw [List.length_map]), fun hb B3 H3 g3 => ?_, fun hb B3 H3 g3 => ?_⟩
    · have hb := of_decide_eq_true hb
      cases e : openOf S.tops S.lo with
      | nil => rw [e] at hb; simp at hb
      | cons L l =>
      cases k with
      | zero => simp [good] at gd
      | succ k =>
      obtain ⟨ho, hL, S', hch, gd', num'⟩ := good_step ro gd num e
      rw [e] at hv1
      have nd : (R.map (·.1)).Nodup := by rw [num.keys]; exact ro.nd
      have w3 := w2.m g3
      have gg3 := gg2.trans g3
      refine me_cho (is_var rfl) w3 g3.in_ (L := L) (gv_ixL (i := 0) (j := 0) (ts := (L :: l).map yIs) (gv_var (i := 1) rfl hv1 g3.bs) gv_c isLs_l rfl rfl) nd hl2 ho (lots_ne hL) dok (by omega) hcs hch fun B4 H4 cs' g4 w4 hcs' => ?_
      have gg4 : Gr B (cut H A.ds) B4 H4 := gg3.cuts (fun d hd => hd) g4
      have dok' := ds_step dok hch
      refine ht_set (i := 1) (T := yTops (openOf S'.tops S'.lo)) (Gh.ext (ds := A.d6) g4.in_ w4.no6 w4.nt6 rc_li (open_lots cD (w4.view g4.in_) (by have := dok'.l3; omega))) fun v5 B5 H5 g5 hv5 => ?_
      refine ⟨k, B5, g5.in_, Nat.lt_succ_self k, lowered R L, S', _, cs', v5, rfl, hv5, w4.m g5, gg4.trans g5, gd', num', ?_, by rw [low_len nd]; exact hl2, N + 1, dok', by omega, hcs'⟩
      rw [← hrun, runGo, e]
      simp only [hch]
    · have hb := of_decide_eq_false hb
      have e : openOf S.tops S.lo = [] := List.eq_nil_of_length_eq_zero (by omega)
      cases k with
      | zero => simp [good] at gd
      | succ k =>
      rw [runGo, e] at hrun
      exact q B3 H3 R S cs (gg2.trans g3) hrun.symm (by omega) (by have := dok.l3; omega) (w2.m g3)
abbrev yWt (p : Lot × Ln) : Ty := yT [yIs p.1, yLn p.2]
theorem last_of {α : Type} {w : List α} {x : α} (h : w.getLast? = some x) : w = w.dropLast ++ [x] := by
  cases w with
  | nil => cases h
  | cons a w =>
    rw [List.getLast?_eq_some_getLast (by simp)] at h
    cases h
    exact (List.dropLast_concat_getLast (by simp)).symm
theorem mF_put {found : List (Int × Ln)} {h : Int} {line : Ln} : put (mF found) h (yLn line) = mF (put found h line) := by
  induction found with
  | nil => rfl
  | cons p m ih =>
    show put ((p.1, yLn p.2) :: mF m) h _ = _
    rw [put, put]
    split
    · rfl
    · rw [ih]; rfl
theorem mF_keys {found : List (Int × Ln)} : (mF found).map (·.1) = found.map (·.1) := by unfold mF; rw [List.map_map]; rfl
theorem chGo_one {lo : List (Lot × Ln)} {mo : List (Lot × List Lot)} {k : Nat} {w : List (Lot × Ln)} {found r : List (Int × Ln)} {lot : Lot} {line : Ln} (h : chGo lo mo (k + 1) w found = some r) (e : w.getLast? = some (lot, line)) :
    (∃ x, lot = [x] ∧ chGo lo mo k w.dropLast (put found x line) = some r) ∨ (lot.length ≠ 1 ∧ ∃ parts, look mo lot = some parts ∧ parts.length ≤ 10 ∧ parts.all (partOk lo line) = true ∧ chGo lo mo k (w.dropLast ++ parts.map fun p => (p, partLn lo line p)) found = some r) := by
  rw [chGo, e] at h
  simp only at h
  split at h
  · rename_i x
    exact .inl ⟨x, rfl, h⟩
  · rename_i hne
    right
    refine ⟨fun z => ?_, ?_⟩
    · obtain ⟨x, rfl⟩ := List.length_eq_one_iff.mp z
      exact hne x rfl
    · split at h
      · cases h
      · rename_i parts hp
        split at h
        · rename_i hc
          simp only [Bool.and_eq_true, decide_eq_true_eq] at hc
          exact ⟨parts, hp, hc.1, hc.2, h⟩
        · cases h
theorem ok_chosen (D : DefM K CD "lines_chosen" "Drawing.lines_chosen" s_Drawing_lines_chosen ["self"]) (bl : Blt mg) (cD : ClsF K CD nsD) : CalM P w K mg base CD "lines_chosen" 1 ["self"] (spG (Rchosen CD CL)) := by
  have sc := sc_Drawing_lines_chosen
  refine D.ok sc (fun vs H Q E h => ?_) (fun f cdv A outer s H vs Q E hr h => ?_)
  · obtain ⟨B, Ts, T, r, s, a, _⟩ := h
    cases r
    exact a.len
  · obtain ⟨B, Ts, T, r, sb, a, q⟩ := h
    refine ⟨_, (pss_cons (ps_set (i := 1) sc.nd rfl (.inl rfl) pe_dnewK)
(pss_cons (ps_setLc (i := 2) (own := [("lot", 3)]) (g := (gName 3)) (tt := _) (by rfl) sc.nd rfl rfl (sw_true rfl rfl rfl (by decide +kernel)) (pi_listK K rfl (pe_fldK K rfl (pv 0) rfl)) (blkOk_by (by kernel_rfl)) (fun _ _ _ _ _ => (pg_name (i := 3) sc.nd rfl (.inl rfl))) (fun _ _ _ _ _ => pts_nil) (fun _ _ _ _ _ => (pe_tup (pa_cons (pv 3) (pa_cons (pe_dget (hu_of hr) (pe_fldK K rfl (pv 0) rfl) (pv 3) (fun _ _ => rfl)) pa_nil)))))
(pss_cons (ps_while PassesOwn.never (pt_cmpR op_gt (pb_lenK K rfl bl.len_ (pa_cons (pv 2) pa_nil)) pe_int (nomark _))
  (pss_cons (ps_asg (pe_bm0 PySem.F.plainAttrs_list PySem.F.slot_list_pop PySem.F.type_list_pop mt_pop (pv 2)) (pg_tup (by rfl) (pgs_cons (pg_name (i := 3) sc.nd rfl (.inl rfl)) (pgs_cons (pg_name (i := 4) sc.nd rfl (.inl rfl)) pgs_nil))))
(pss_one (ps_if (pt_cmpR op_eq (pb_lenK K rfl bl.len_ (pa_cons (pv 3) pa_nil)) pe_int (nomark _))
  (pss_one (ps_dput (hu_of hr) (pv 1) (pe_ix (ix_tupK K rfl) (pv 3) pe_int (fun _ _ => rfl)) (pv 4) rfl))
  (pss_one (ps_for PassesOwn.never rfl (pi_listK K rfl (pe_dget (hu_of hr) (pe_fldK K rfl (pv 0) rfl) (pv 3) (fun _ _ => rfl))) (pg_name (i := 5) sc.nd rfl (.inl rfl))
  (pss_one (ps_expr (pe_bm PySem.F.plainAttrs_list PySem.F.slot_list_append PySem.F.type_list_append mt_append (pv 2) (pa_cons (pe_tup (pa_cons (pv 5) (pa_cons (pe_ifExp (pt_cmpR (op_in_seqK K rfl) (pe_ix (ix_tupK K rfl) (pv 4) pe_int (fun _ _ => rfl)) (pv 5) (by rfl)) (pv 4) (pe_dget (hu_of hr) (pe_fldK K rfl (pv 0) rfl) (pv 5) (fun _ _ => rfl))) pa_nil))) pa_nil))))))))))
(pss_one (ps_ret (pv 1)))))), ?_⟩
    cases r with
    | mk bst R S found0 e hl =>
    obtain ⟨v1, rfl, h1⟩ := all1 a
    obtain ⟨hall, hgo⟩ : S.tops.all (fun t => (look S.lo t).isSome) = true ∧ chGo S.lo S.mo 12 (S.tops.map (topLn S.lo)) [] = some found0 := by
      unfold chosenOf at e
      split at e
      · rename_i hh; exact ⟨hh, e⟩
      · cases e
    have lof : ∀ (σ : L2.St) B' (t : Lot) (i : Nat) (x : V) (l : Ln), σ[0]? = some (some v1) → σ[i]? = some (some x) → Same B B' → (yIs t).p x B' → look S.lo t = some l → Gv (tDGet (tFld K (tVar 0) "line_of") (tVar i)) σ B' (yLn l) := fun σ B' t i x l k1 k2 s' hx hlk => gv_dget (k := t) (gv_fld (f := "line_of") (ns := nsD) (gv_var k1 h1 s') cD (by decide) rfl) (gv_var k2 hx (Same.refl _)) isDT_s (by rw [mL_look, hlk]; rfl)
    refine hq_newI sb fun df H1 g1 hdf wf => ?_
    refine hq_lcO (xs := S.tops) (F := yIs) (E := fun t => yWt (topLn S.lo t)) g1.in_ (gi_list (gv_fld (f := "tops") (ns := nsD) (gv_var (i := 0) rfl h1 g1.bs) cD (by decide) rfl) isLs_l) (by rw [List.length_map]) hT_map (by omega) (fun _ => rfl) (fun j t x B2 hj s1 hx => ?_) fun dw B2 H2 g2 hdw w2 => ?_
    · have hm := List.all_eq_true.mp hall t (List.mem_of_getElem? hj)
      obtain ⟨l, hlk⟩ : ∃ l, look S.lo t = some l := by
        cases z : look S.lo t with
        | none => rw [z] at hm; cases hm
        | some l => exact ⟨l, rfl⟩
      have et : topLn S.lo t = (t, l) := by unfold topLn; rw [hlk]; rfl
      rw [et]
      exact gv_tup2 (gv_var (i := 3) rfl hx (Same.refl _)) (lof _ _ t 3 x l rfl rfl (g1.bs.trans s1) hx hlk)
    · have hdw0 : H dw = none := g1.hs.free hdw
      have hne : df ≠ dw := wf.ne hdw
      have gg2 := g1.trans g2
      have ew : S.tops.map (fun t => yWt (topLn S.lo t)) = (S.tops.map (topLn S.lo)).map yWt := by rw [List.map_map]; rfl
      rw [ew] at w2
      refine hq_while (fun k σ B' H' => ∃ w found n3 n4 n5, σ = [some v1, some (.ref df), some (.ref dw), n3, n4, n5] ∧ Ow dw (oL (w.map yWt)) B' H' ∧ Ow df (oI (mF found)) B' H' ∧ Gr B H B' H' ∧ chGo S.lo S.mo k w found = some found0 ∧ w.length + 10 * k ≤ 1000 ∧ (found.map (·.1)).Nodup ∧ found.length + k ≤ 12) gg2.in_ 12 ⟨_, [], _, _, _, rfl, w2, wf.m g2, gg2, hgo, by rw [List.length_map]; omega, List.nodup_nil, Nat.le_refl _⟩ fun k σ B3 H3 s3 hW => ?_
      obtain ⟨wl, found, n3, n4, n5, rfl, w3, f3, gg3, hg, hlw, hnf, hlf⟩ := hW
      cases k with
      | zero => simp [chGo] at hg
      | succ k =>
      refine ⟨decide ((0 : Int) < ((wl.length : Nat) : Int)), GhT.own w3 s3 fun B4 s4 s5 ty => GvT.cast (b := decide (((((wl.map yWt).length : Nat) : Int)) > 0)) (gt_test (gv_I0 (gv_lenL (gv_var (i := 2) rfl ty (Same.refl _)) isLs_o) gv_c)) (by rw [List.length_map]), fun hb B4 H4 g4 => ?_, fun hb B4 H4 g4 => ?_⟩
      · have hb := of_decide_eq_true hb
        obtain ⟨⟨lot, line⟩, hlast⟩ : ∃ x, wl.getLast? = some x := by
          cases z : wl.getLast? with
          | none => rw [List.getLast?_eq_none_iff] at z; subst z; simp at hb
          | some x => exact ⟨x, rfl⟩
        have hwl := last_of hlast
        have w4 := w3.m g4
        have f4 := f3.m g4
        have gg4 := gg3.trans g4
        have w4' : Ow dw (oL (wl.dropLast.map yWt ++ [yWt (lot, line)])) B4 H4 := by
          have e : wl.map yWt = wl.dropLast.map yWt ++ [yWt (lot, line)] := by
            conv => lhs; rw [hwl, List.map_append]
            rfl
          rw [← e]; exact w4
        refine sq_popG (is_var rfl) w4' g4.in_ fun v o hv k5 => ?_
        have gg5 : Gr B H B4 (upd H4 dw o) := gg4.put w4 hdw0
        have f5 : Ow df (oI (mF found)) B4 (upd H4 dw o) := f4.else hne
        generalize upd H4 dw o = H5 at k5 gg5 f5
        refine g_tup2 hv gg5.in_ fun vlot vline hvlot hvline => ?_
        have hdl : wl.dropLast.length + 1 = wl.length := by
          rw [List.length_dropLast]; omega
        refine st_if (B := B4) (b := decide (lot.length = 1)) gg5.in_ (GvT.cast (b := decide (V.int (((lot.map yI).length : Nat) : Int) = V.int 1)) (gt_test (gv_eq (gv_lenT (gv_var (i := 3) rfl hvlot (Same.refl _)) isTu_t) gv_c rfl)) (by
          rw [List.length_map]
          simp only [V.int.injEq]
          congr 1
          exact propext ⟨fun h => by omega, fun h => by omega⟩)) (fun hb B6 H6 g6 => ?_) (fun hb B6 H6 g6 => ?_)
        · have hb := of_decide_eq_true hb
          rcases chGo_one hg hlast with ⟨x, rfl, hg'⟩ | ⟨z, _⟩
          · have f6 := f5.m g6
            refine ht_dputI (ki := x) (T := yLn line) (is_var rfl) f6 g6.in_ (by rw [mF_keys]; exact hnf) (by rw [List.length_map]; omega) ((gv_var (i := 4) rfl hvline g6.bs).h g6.in_) (gv_ixT (i := 0) (j := 0) (gv_var (i := 3) rfl hvlot g6.bs) gv_c isTu_t rfl rfl) fun B7 H7 o7 g7 k7 => ?_
            refine ⟨k, B7, (f6.m g7).same g7.in_, Nat.lt_succ_self k, wl.dropLast, put found x line, _, _, _, rfl, ((k5.m g6).m g7).else (Ne.symm hne), ?_, ((gg5.trans g6).trans g7).put (f6.m g7) hdf, hg', by omega, put_nodup hnf, ?_⟩
            · rw [← mF_put]; exact k7
            · have := put_len (m := found) (k := x) (v := line)
              omega
          · exact absurd hb z
        · have hb := of_decide_eq_false hb
          rcases chGo_one hg hlast with ⟨x, rfl, _⟩ | ⟨_, parts, hp, hp10, hpall, hg'⟩
          · exact absurd rfl hb
          · have k6 := k5.m g6
            have f6 := f5.m g6
            have gg6 := gg5.trans g6
            have hvlot6 := (yIs lot).m g6.bs hvlot
            have hvline6 := (yLn line).m g6.bs hvline
            refine st_for g6.in_ (gi_list (gv_dget (k := lot) (T := yL (parts.map yIs)) (gv_fld (f := "made_of") (ns := nsD) (gv_var (i := 0) rfl h1 gg6.bs) cD (by decide) rfl) (gv_var (i := 3) rfl hvlot6 (Same.refl _)) isDT_s (by rw [mM_look, hp]; rfl)) isLs_l) (fun i σ B7 H7 => ∃ n5, σ = [some v1, some (.ref df), some (.ref dw), some vlot, some vline, n5] ∧ Ow dw (oL ((wl.dropLast ++ (parts.take i).map fun p => (p, partLn S.lo line p)).map yWt)) B7 H7 ∧ Ow df (oI (mF found)) B7 H7 ∧ Gr B H B7 H7 ∧ (yLn line).p vline B7)
              (fun B7 H7 g7 => ⟨_, rfl, by simpa using k6.m g7, f6.m g7, gg6.trans g7, (yLn line).m g7.bs hvline6⟩) (fun Bs i z σ B7 H7 B8 H8 hi s1 s2 s8 hP g8 hz => ?_) (fun σ B7 H7 s1 s2 hP => ?_)
            · obtain ⟨n5, rfl, k7, f7, gg7, hvline7⟩ := hP
              rw [List.length_map] at hi
              obtain ⟨pt, hpt⟩ : ∃ r, parts[i]? = some r := ⟨_, List.getElem?_eq_getElem hi⟩
              rw [hT_map i pt hpt] at hz
              have k8 := k7.m g8
              have gg8 := gg7.trans g8
              have hvline8 := (yLn line).m g8.bs hvline7
              have pok := List.all_eq_true.mp hpall pt (List.mem_of_getElem? hpt)
              refine ht_app (T := yWt (pt, partLn S.lo line pt)) (is_var rfl) k8 g8.in_ (by
                rw [List.length_map, List.length_append, List.length_map, List.length_take]
                omega) (Gv.h (gv_tup2 (gv_var (i := 5) rfl hz (Same.refl _)) (gv_if (b := decide (line.1 ∈ pt)) (gt_test (gv_inI (neg := false) (gv_ixT (i := 0) (j := 0) (T := yI line.1) (gv_var (i := 4) rfl hvline8 (Same.refl _)) gv_c isTu_t rfl rfl) (gv_var (i := 5) rfl hz (Same.refl _)))) (fun hc => ?_) fun hc => ?_)) g8.in_) fun B9 H9 o9 g9 k9 => ?_
              · have hc := of_decide_eq_true hc
                refine gv_var (i := 4) rfl (T := yLn (partLn S.lo line pt)) ?_ (Same.refl _)
                unfold partLn
                rw [if_pos hc]
                exact hvline8
              · have hc := of_decide_eq_false hc
                have hlk : ∃ l, look S.lo pt = some l := by
                  unfold partOk at pok
                  simp only [hc, decide_false, Bool.false_or] at pok
                  cases z : look S.lo pt with
                  | none => rw [z] at pok; cases pok
                  | some l => exact ⟨l, rfl⟩
                obtain ⟨l, hlk⟩ := hlk
                have el : partLn S.lo line pt = l := by
                  unfold partLn
                  rw [if_neg hc, hlk]; rfl
                rw [el]
                exact lof _ _ pt 5 z l rfl rfl gg8.bs hz hlk
              · refine ⟨B9, s2.trans (g8.bs.trans g9.bs), (k8.m g9).same g9.in_, _, rfl, ?_, ((f7.m g8).m g9).else hne, (gg8.trans g9).put (k8.m g9) hdw0, (yLn line).m g9.bs hvline8⟩
                have e : (wl.dropLast ++ (parts.take (i + 1)).map fun p => (p, partLn S.lo line p)).map yWt = (wl.dropLast ++ (parts.take i).map fun p => (p, partLn S.lo line p)).map yWt ++ [yWt (pt, partLn S.lo line pt)] := by
                  rw [List.take_add_one, hpt, Option.toList_some]
                  simp only [List.map_append, List.append_assoc]
                  rfl
                rw [e]
                exact k9
            · obtain ⟨n5, rfl, k7, f7, gg7, hvline7⟩ := hP
              rw [List.length_map, List.take_length] at k7
              refine ⟨k, B7, s2, Nat.lt_succ_self k, _, found, _, _, _, rfl, k7, f7, gg7, hg', ?_, hnf, by omega⟩
              rw [List.length_append, List.length_map]
              omega
      · have hb := of_decide_eq_false hb
        have hw0 : wl = [] := List.eq_nil_of_length_eq_zero (by omega)
        subst hw0
        rw [chGo] at hg
        simp only [List.getLast?_nil, Option.some.injEq] at hg
        subst hg
        obtain ⟨B5, g5, s5, h5⟩ := (f3.m g4).pub (gg3.trans g4) hdf
        have h5 := oI_ty h5
        exact st_ret (T := yDI (mF found)) g5.in_ (gv_var (i := 1) rfl h5 (Same.refl _)) fun v B6 H6 g6 hv => q v B6 H6 (g5.trans g6) hv
end
end LD
set_option maxRecDepth 100000
set_option maxHeartbeats 400000
/-! LdHeavy: heaviest.Drawing.__init__, heaviest_of -/

namespace LD
open PySem PyProof.Rows L2
theorem subs_mem : ∀ {l : List Int} {L : Lot}, L ∈ subsOf l → ∀ x ∈ L, x ∈ l
  | [], L, h, x, hx => by
    simp [subsOf] at h
    subst h; cases hx
  | a :: l, L, h, x, hx => by
    rw [subsOf] at h
    rcases List.mem_append.mp h with h | h
    · obtain ⟨M, hM, rfl⟩ := List.mem_map.mp h
      rcases List.mem_cons.mp hx with rfl | hx
      · exact List.mem_cons_self
      · exact List.mem_cons_of_mem _ (subs_mem hM x hx)
    · exact List.mem_cons_of_mem _ (subs_mem h x hx)
theorem lots_mem {n : Nat} {L : Lot} (h : L ∈ lotsOf n) : L ≠ [] ∧ ∀ x ∈ L, 0 ≤ x ∧ x < (n : Int) := by
  refine ⟨lots_ne h, fun x hx => ?_⟩
  have := subs_mem (List.mem_filter.mp h).1 x hx
  obtain ⟨i, hi, rfl⟩ := List.mem_map.mp this
  have := List.mem_range.mp hi
  omega
theorem steps_ok {c : Int} {D : Dl} {rank : Nat → Nat} (o : WebOk c D rank) : StepsOk D.length (doorF D) (steps D) := by
  refine ⟨o.h1, o.sm.hl, fun st hst => ?_, fun L hL => ?_⟩
  · obtain ⟨h, s, n, p, rfl, e⟩ := steps_mem.mp hst
    obtain ⟨d, ps, e1, e2, e3⟩ := pairAt_some e
    have ib := o.inb d (List.mem_of_getElem? e1) ps (List.mem_of_getElem? e2) p (List.mem_of_getElem? e3)
    have l1 := (List.getElem?_eq_some_iff.mp e1).1
    have := o.c3
    rw [doorF_eq e]
    show 0 ≤ (h : Int) ∧ (h : Int) < (D.length : Int) ∧ _
    omega
  · obtain ⟨ne, inb⟩ := lots_mem hL
    have key : ∀ (r : Nat) (x : Int), x ∈ L → rank x.toNat ≤ r → ∃ st ∈ steps D, lv (lineOf (doorF D) st) L = true := by
      intro r
      induction r using Nat.strongRecOn with
      | ind r ih =>
        intro x hx hr
        obtain ⟨x0, x1⟩ := inb x hx
        have hlt : x.toNat < D.length := by omega
        have hd := List.getElem?_eq_getElem hlt
        obtain ⟨n, p, e, _, e3⟩ := o.low x.toNat 0 _ hd (o.d1 _ (List.getElem_mem _))
        by_cases hp : clip p.1 ∈ L
        · have b := inb _ hp
          have hc : clip p.1 = p.1 := by unfold clip at b ⊢; omega
          rw [hc] at hp b
          rcases e3 with e3 | e3
          · omega
          · exact ih (rank p.1.toNat) (by omega) p.1 hp (Nat.le_refl _)
        · refine ⟨stp x.toNat 0 n, steps_mem.mpr ⟨_, _, _, p, rfl, e⟩, lv_iff.mpr ⟨?_, ?_⟩⟩
          · show ((x.toNat : Nat) : Int) ∈ L
            rw [Int.toNat_of_nonneg x0]
            exact hx
          · show clip (doorF D (stp x.toNat 0 n)) ∉ L
            rw [doorF_eq e]
            exact hp
    obtain ⟨x, hx⟩ : ∃ x, x ∈ L := by
      cases L with
      | nil => exact absurd rfl ne
      | cons x l => exact ⟨x, List.mem_cons_self⟩
    exact key _ x hx (Nat.le_refl _)
theorem nodup_snoc {l : List Addr} {y : Addr} (n : l.Nodup) (h : y ∉ l) : (l ++ [y]).Nodup := nd_snoc n h
theorem Gr.pubs {B0 H0 B H : Hp} {ds : List Addr} (g : Gr B0 H0 B H) (n : ∀ d ∈ ds, H0 d = none) : Gr B0 H0 (LD.ext B H ds) H :=
  ⟨g.bs.trans (ext_same g.in_), g.hs, ext_heap g.in_, fun a h => by
    by_cases z : a ∈ ds
    · exact .inr (.inl (n a z))
    · rw [ext_out z] at h
      exact g.nw a h⟩
section
variable {P : Program} {w : World} {K : PySem.W.Frag} {mg : Str → Option Value} {base : Heap} {CD CL CW : Addr}
theorem hq_flin {σ : L2.St} {B H : Hp} {C a : Addr} {fs : Fs} {ns : List Str} {f : Str} {Ta : TE} {t : TA} {c : Int} {D0 : Dl} {W : List Int → Int} {D : Ends} {tz : TS} (ht : Is Ta σ B H a) (w : Ow a (oO C fs) B H) (s : Same B H) (cl : ClsF K C ns) (hf : f ∈ ns) (n : f ∉ fs.map (·.1)) (hl : fs.length < 100) (h : GvA t σ B [yW CW c D0, yWts W (steps D0)]) (o : Small D0)
    (k : ∀ al db dr B1 H1 o1, Gr B H B1 H1 → LinO CL al db dr (bestRest (doorF D0) W (steps D0)).1 (bestRest (doorF D0) W (steps D0)).2 B1 (upd H1 a o1) → Ow a (oO C (fs ++ [(f, yX (.ref al))])) B1 (upd H1 a o1) → H al = none → H db = none → H dr = none → tz D σ (upd H1 a o1)) : tSeq (sFld K Ta (tMk CL (spLin CL CW) t) f) tz D σ H := by
  refine h H s _ fun vs B1 H1 g1 hvs => fun al dx2 hal hdx2 ne2 => ⟨al, dx2, vs, H1, B1, c, D0, W, rfl, hal, hdx2, ne2, rfl, g1.in_, hvs, o, fun B2 H2 db dr g2 l2 hdb hdr => ⟨rfl, ?_⟩⟩
  have g12 := g1.trans g2
  have w1 := w.m g1
  exact ht_fnew (D := { D with nx := tz D }) (Ta := Ta) (te := tC (.ref al)) (σ := σ) (H := H2) (B := B2) (fun B1 H1 g1 Q q => ht B1 H1 (g12.trans g1) Q q) (w.m g12) cl hf n hl ((gv_c (v := .ref al)).h g12.in_) (fun B3 H3 o1 g3 w3 => k al db dr B3 H3 o1 (g12.trans g3) ((l2.m g3).else (w1.ne hal).symm (w1.ne hdb).symm (w1.ne hdr).symm) w3 (g1.hs.free hal) (g1.hs.free hdb) (g1.hs.free hdr))
theorem ok_dinit (D : DefI K mg CD "Drawing" "Drawing.__init__" s_Drawing___init__ ["self", "web", "weights"]) (bl : Blt mg) (cW : ClsF K CW nsW) (cD : ClsF K CD nsD) (k_Lines : CalI P w K mg base CL "Lines" 2 ["self", "web", "weights"] (spLin CL CW)) : CalI P w K mg base CD "Drawing" 4 ["self", "web", "weights"] (spDin CD CL CW) := by
  have sc := sc_Drawing___init__
  refine D.ok sc (fun vs H Q E h => ?_) (fun f cdv A outer s H vs Q E hr h => ?_)
  · obtain ⟨x, dx, rest, H1, B, c, D, W, rfl, hx, hdx, ne, e, sb, a, _⟩ := h
    rw [List.length_cons, a.len]
    rfl
  · obtain ⟨x, dx, rest, H0, B, c, D, W, rfl, hx, hdx, ne, rfl, sb, a, o, q⟩ := h
    refine ⟨_, (pss_cons (ps_fld (pv 0) (pe_mk k_Lines (hr.mono (by decide)) (pa_cons (pv 1) (pa_cons (pv 2) pa_nil))) rfl)
(pss_cons (ps_fld (pv 0) (pe_lc (own := [("house", 3)]) (g := (gName 3)) (tt := _) (by rfl) sc.nd (pi_range1 (by rfl) bl.range_ (pa_cons (pb_lenK K rfl bl.len_ (pa_cons (pe_fldK K rfl (pv 1) rfl) pa_nil)) pa_nil)) (blkOk_by (by kernel_rfl)) (fun _ _ _ _ _ => (pg_name (i := 3) sc.nd rfl (.inl rfl))) (fun _ _ _ _ _ => pts_nil) (fun _ _ _ _ _ => (pe_tup (pa_cons (pv 3) pa_nil)))) rfl)
(pss_cons (ps_fld (pv 0) pe_dnewT rfl)
(pss_cons (ps_fld (pv 0) pe_dnewT rfl)
(pss_one (ps_fld (pv 0) (pe_lst pa_nil) rfl)))))), ?_⟩
    obtain ⟨v1, v2, rfl, h1, h2⟩ := all2 a
    obtain ⟨g0, w0⟩ := init_start (C := CD) hx hdx ne sb
    generalize upd (upd H0 dx (HO.own x)) x (HO.ins CD dx []) = Hs at g0 w0
    have n3 := o.hl
    refine hq_flin (c := c) (D0 := D) (W := W) (is_var rfl) w0 g0.in_ cD (by decide) (by decide) (by decide) (ga_2 (gv_var (i := 1) rfl h1 (Same.refl _)) (gv_var (i := 2) rfl h2 (Same.refl _))) o fun al db dr B1 H1 o1 g1 l1 w1 hal hdb hdr => ?_
    have gg1 : Gr B H0 B1 (upd H1 x o1) := (g0.trans g1).put (w0.m g1) hx
    have nd1 : [x, al, db, dr].Nodup := by
      have a1 := w0.ne hal
      have a2 := w0.ne hdb
      have a3 := w0.ne hdr
      have b1 := l1.n1
      have b2 := l1.n2
      have b3 := l1.n3
      simp only [List.nodup_cons, List.mem_cons, List.not_mem_nil, or_false, not_or, List.nodup_nil, and_true, not_false_eq_true]
      exact ⟨⟨a1, a2, a3⟩, ⟨b1, b2⟩, b3⟩
    generalize upd H1 x o1 = H2 at l1 w1 gg1
    -- tops
    refine hq_fnew (T := yTops (start0 D.length).tops) (is_var rfl) w1 cD (by decide) (by walk_at "nm") (by simp) (Gv.h (Gv.cast (A := yL ((List.range D.length).map fun (h : Nat) => yIs [(h : Int)])) (gv_lc1 (F := fun (h : Nat) => yI (h : Int)) (gi_rng1 (n := ((D.map yHs).length : Nat)) (gv_lenT (gv_fld (f := "dealers") (ns := nsW) (gv_var (i := 1) rfl h1 gg1.bs) cW (by decide) rfl) isTu_t) (by rw [List.length_map]; omega) (by omega)) (by rw [List.length_map, List.length_range]; simp) hT_rng (by rw [List.length_range]; omega) (fun _ => rfl) fun j h y B3 hj s1 hy => gv_tup1 (gv_var (i := 3) rfl hy (Same.refl _))) (by show _ = yL (((List.range D.length).map fun (h : Nat) => [(h : Int)]).map yIs); rw [List.map_map]; rfl)) gg1.in_) fun B3 H3 o3 g3 w3 => ?_
    have l3 := (l1.m g3).else (o := o3) (ne_of_nd nd1 (i := 1) (j := 0) rfl rfl (by decide)) (ne_of_nd nd1 (i := 2) (j := 0) rfl rfl (by decide)) (ne_of_nd nd1 (i := 3) (j := 0) rfl rfl (by decide))
    have gg3 : Gr B H0 B3 (upd H3 x o3) := (gg1.trans g3).put (w1.m g3) hx
    generalize upd H3 x o3 = H4 at l3 w3 gg3
    -- line_of
    refine hq_fdict (is_var rfl) w3 gg3.in_ cD (by decide) (by walk_at "nm") (by simp) fun dl B5 H5 o5 hdl nbl g5 w5 wl5 => ?_
    have nd2 : [x, al, db, dr, dl].Nodup := nodup_snoc nd1 (fun hm => by
      simp only [List.mem_cons, List.not_mem_nil, or_false] at hm
      rcases hm with e | e | e | e
      · exact w3.ne hdl e.symm
      · exact l3.o.ne hdl e.symm
      · exact l3.b.ne hdl e.symm
      · exact l3.r.ne hdl e.symm)
    have l5 := (l3.m g5).else (o := o5) (ne_of_nd nd1 (i := 1) (j := 0) rfl rfl (by decide)) (ne_of_nd nd1 (i := 2) (j := 0) rfl rfl (by decide)) (ne_of_nd nd1 (i := 3) (j := 0) rfl rfl (by decide))
    have gg5 : Gr B H0 B5 (upd H5 x o5) := (gg3.trans g5).put (w3.m g5) hx
    have hdl0 : H0 dl = none := gg3.hs.free hdl
    generalize upd H5 x o5 = H6 at l5 w5 wl5 gg5
    -- made_of
    refine hq_fdict (is_var rfl) w5 gg5.in_ cD (by decide) (by walk_at "nm") (by simp) fun dm B7 H7 o7 hdm nbm g7 w7 wm7 => ?_
    have nd3 : [x, al, db, dr, dl, dm].Nodup := nodup_snoc nd2 (fun hm => by
      simp only [List.mem_cons, List.not_mem_nil, or_false] at hm
      rcases hm with e | e | e | e | e
      · exact w5.ne hdm e.symm
      · exact l5.o.ne hdm e.symm
      · exact l5.b.ne hdm e.symm
      · exact l5.r.ne hdm e.symm
      · exact wl5.ne hdm e.symm)
    have l7 := (l5.m g7).else (o := o7) (ne_of_nd nd1 (i := 1) (j := 0) rfl rfl (by decide)) (ne_of_nd nd1 (i := 2) (j := 0) rfl rfl (by decide)) (ne_of_nd nd1 (i := 3) (j := 0) rfl rfl (by decide))
    have wl7 := (wl5.m g7).else (o := o7) nbl
    have gg7 : Gr B H0 B7 (upd H7 x o7) := (gg5.trans g7).put (w5.m g7) hx
    have hdm0 : H0 dm = none := gg5.hs.free hdm
    generalize upd H7 x o7 = H8 at l7 w7 wl7 wm7 gg7
    -- costs
    refine hq_flist (is_var rfl) w7 gg7.in_ cD (by decide) (by walk_at "nm") (by simp) fun dc B9 H9 o9 hdc nbc g9 w9 wc9 => ?_
    have nd4 : [x, al, db, dr, dl, dm, dc].Nodup := nodup_snoc nd3 (fun hm => by
      simp only [List.mem_cons, List.not_mem_nil, or_false] at hm
      rcases hm with e | e | e | e | e | e
      · exact w7.ne hdc e.symm
      · exact l7.o.ne hdc e.symm
      · exact l7.b.ne hdc e.symm
      · exact l7.r.ne hdc e.symm
      · exact wl7.ne hdc e.symm
      · exact wm7.ne hdc e.symm)
    have l9 := (l7.m g9).else (o := o9) (ne_of_nd nd1 (i := 1) (j := 0) rfl rfl (by decide)) (ne_of_nd nd1 (i := 2) (j := 0) rfl rfl (by decide)) (ne_of_nd nd1 (i := 3) (j := 0) rfl rfl (by decide))
    have wl9 := (wl7.m g9).else (o := o9) nbl
    have wm9 := (wm7.m g9).else (o := o9) nbm
    have gg9 : Gr B H0 B9 (upd H9 x o9) := (gg7.trans g9).put (w7.m g9) hx
    have hdc0 : H0 dc = none := gg7.hs.free hdc
    refine q B9 _ ⟨x, al, db, dr, dl, dm, dc⟩ gg9 rfl ⟨w9, l9, wl9, wm9, wc9, nd4⟩ fun d hd => ?_
    simp only [DAd.ds, List.mem_cons, List.not_mem_nil, or_false] at hd
    rcases hd with rfl | rfl | rfl | rfl | rfl | rfl | rfl
    · exact hx
    · exact g0.hs.free hal
    · exact g0.hs.free hdb
    · exact g0.hs.free hdr
    · exact hdl0
    · exact hdm0
    · exact hdc0
end
end LD
set_option maxRecDepth 100000
set_option maxHeartbeats 400000
/-! LdHeavy2: heaviest_of -/

namespace LD
open PySem PyProof.Rows L2
abbrev s_heaviest_of : Stmt := topS 60
theorem sc_heaviest_of : FnScope ["web", "weights", "drawing", "lines", "forest", "house", "step"] ["web", "weights"] (defScope s_heaviest_of) :=
  ⟨rfl, rfl, rfl, by decide +kernel, rfl, by decide +kernel, by decide +kernel⟩
/-- the heaviest forest of weights -/
def heavyF (D : Dl) (W : List Int → Int) : List (List Int) := heavyOf D.length (doorF D) W (steps D)
inductive Rheavy (CW : Addr) : List Ty → Ty → Prop
  | mk (c : Int) (D : Dl) (rank : Nat → Nat) (W : List Int → Int) (o : WebOk c D rank) : Rheavy CW [yW CW c D, yWts W (steps D)] (yT [yI ((heavyF D W).map W).sum, yT ((heavyF D W).map yIs), yAny])
abbrev fU (CL : Addr) (bst : Bst) (R : Rst) (S : DS) (cs : List (Lot × Int)) : Fs := [("lines", yO CL (fL bst R)), ("tops", yTops S.tops), ("line_of", yDT (mL S.lo)), ("made_of", yDT (mM S.mo)), ("costs", yL (cs.map yCost))]
theorem oL_at {d : Addr} {ts : List Ty} {B H : Hp} {ds : List Addr} (w : Ow d (oL ts) B H) (h : d ∈ ds) (s : Same B H) : (yL ts).p (.ref d) (ext B H ds) := oL_ty (w.ext h s)
section
variable {CD CL : Addr} {A : DAd} {bst : Bst} {R R' : Rst} {S : DS} {cs cs' : List (Lot × Int)} {B H B1 H1 : Hp} {o : HO}
/-- given away for good -/
theorem DraO.last (w : DraO CD CL A bst R S cs B H) (s : Same B H) : (yO CD (fU CL bst R S cs)).p (.ref A.a) (ext B H A.ds) := by
  obtain ⟨o, k1, dx, xs, rfl, fa⟩ := w.o.ex
  refine ⟨A.a, _, rfl, by rw [ext_in (by simp)]; exact k1, dx, xs, rfl, fs_at5 fa (fun v hv => ?_) (fun v hv => (yTops _).m (ext_same s) hv) (fun v hv => ?_) (fun v hv => ?_) (fun v hv => ?_)⟩
  · obtain rfl : v = .ref A.al := hv
    exact w.l.view s (by simp) (by simp) (by simp)
  · obtain rfl : v = .ref A.dl := hv
    exact oT_ty (w.lo.ext (by simp) s)
  · obtain rfl : v = .ref A.dm := hv
    exact oT_ty (w.mo.ext (by simp) s)
  · obtain rfl : v = .ref A.dc := hv
    exact oL_at w.co (by simp) s
theorem fU_fV {v : V} (h : (yO CD (fU CL bst R S cs)).p v B) : (yO CD (fV CL bst R S)).p v B := yO_imp h fun xs fa => fs_at5 fa (fun _ h => h) (fun _ h => h) (fun _ h => h) (fun _ h => h) fun _ _ => trivial
end
section
variable {P : Program} {w : World} {K : PySem.W.Frag} {mg : Str → Option Value} {base : Heap} {CD CL CW : Addr}
theorem me_drw {σ : L2.St} {B H : Hp} {ta : TE} {A : DAd} {bst : Bst} {R0 : Rst} {n : Nat} {Q : VK} (hi : Is ta σ B H A.a) (w0 : DraO CD CL A bst R0 (start0 n) [] B H) (s : Same B H) (ro : RstOk n R0) (h1 : 1 ≤ n) (h3 : n ≤ 3) (hl : R0.length ≤ 1000)
    (q : ∀ B' H' R' S' cs', Gr B (cut H A.ds) B' H' → runGo 6 R0 (start0 n) = some (R', S') → cs'.length ≤ 100 → S'.tops.length ≤ 100 → DraO CD CL A bst R' S' cs' B' H' → Q .non H') : tMe CD "draw" (spDrw CD CL) ta tNil σ H Q := by
  obtain ⟨o, k1, dx, xs, rfl, fa⟩ := w0.o.ex
  exact hi B H (Gr.refl s) _ ⟨A.a, dx, xs, rfl, k1, fa.no (by walk_at "nm"), B, A, bst, R0, n, rfl, s, w0, ro, h1, h3, hl, q⟩
theorem hq_din {σ : L2.St} {B H : Hp} {i : Nat} {t : TA} {c : Int} {D0 : Dl} {W : List Int → Int} {D : Ends} {tz : TS} (s : Same B H) (h : GvA t σ B [yW CW c D0, yWts W (steps D0)]) (o : Small D0)
    (k : ∀ A B1 H1, Gr B H B1 H1 → DraO CD CL A (bestRest (doorF D0) W (steps D0)).1 (bestRest (doorF D0) W (steps D0)).2 (start0 D0.length) [] B1 H1 → (∀ d ∈ A.ds, H d = none) → tz D (σ.set i (some (.ref A.a))) H1) : tSeq (tAsg (tMk CD (spDin CD CL CW) t) (gName i)) tz D σ H := by
  refine h H s _ fun vs B1 H1 g1 hvs => fun x dx hx hdx ne => ⟨x, dx, vs, H1, B1, c, D0, W, rfl, hx, hdx, ne, rfl, g1.in_, hvs, o, fun B2 H2 A g2 hA w2 hno => ⟨rfl, ?_⟩⟩
  subst hA
  exact k A B2 H2 (g1.trans g2) w2 fun d hd => g1.hs.free (hno d hd)
theorem hq_drw {σ : L2.St} {B H : Hp} {ta : TE} {A : DAd} {bst : Bst} {R0 : Rst} {n : Nat} {D : Ends} {tz : TS} (hi : Is ta σ B H A.a) (w0 : DraO CD CL A bst R0 (start0 n) [] B H) (s : Same B H) (ro : RstOk n R0) (h1 : 1 ≤ n) (h3 : n ≤ 3) (hl : R0.length ≤ 1000)
    (q : ∀ B' H' R' S' cs', Gr B (cut H A.ds) B' H' → runGo 6 R0 (start0 n) = some (R', S') → cs'.length ≤ 100 → S'.tops.length ≤ 100 → DraO CD CL A bst R' S' cs' B' H' → tz D σ H') : tSeq (tDrop (tMe CD "draw" (spDrw CD CL) ta tNil)) tz D σ H := me_drw hi w0 s ro h1 h3 hl q
theorem ok_heavy (D : Def K mg "heaviest_of" s_heaviest_of ["web", "weights"]) (bl : Blt mg) (cW : ClsF K CW nsW) (cD : ClsF K CD nsD) (cL : ClsF K CL nsL) (k_Drawing : CalI P w K mg base CD "Drawing" 4 ["self", "web", "weights"] (spDin CD CL CW)) (m_draw : CalM P w K mg base CD "draw" 4 ["self"] (spDrw CD CL))
    (m_lines_chosen : CalM P w K mg base CD "lines_chosen" 1 ["self"] (spG (Rchosen CD CL))) : Cal P w K mg base "heaviest_of" 6 ["web", "weights"] (spG (Rheavy CW)) := by
  have sc := sc_heaviest_of
  refine D.ok sc (fun Ts T r => by cases r; rfl) (fun f cdv A outer s H vs E B Ts T r sb a hr => ?_)
  refine ⟨_, (pss_cons (ps_set (i := 2) sc.nd rfl (.inr rfl) (pe_mk k_Drawing (hr.mono (by decide)) (pa_cons (pv 0) (pa_cons (pv 1) pa_nil))))
(pss_cons (ps_expr (pe_me0 m_draw (hr.mono (by decide)) (pv 2)))
(pss_cons (ps_set (i := 3) sc.nd rfl (.inr rfl) (pe_me0 m_lines_chosen (hr.mono (by decide)) (pv 2)))
(pss_cons (ps_set (i := 4) sc.nd rfl (.inl rfl) (pb_tuple bl.tuple_ (pa_cons (pe_lc (own := [("house", 5)]) (g := (gName 5)) (tt := _) (by rfl) sc.nd (pi_range1 (by rfl) bl.range_ (pa_cons (pb_lenK K rfl bl.len_ (pa_cons (pe_fldK K rfl (pv 0) rfl) pa_nil)) pa_nil)) (blkOk_by (by kernel_rfl)) (fun _ _ _ _ _ => (pg_name (i := 5) sc.nd rfl (.inl rfl))) (fun _ _ _ _ _ => pts_nil) (fun _ _ _ _ _ => (pe_dget (hu_of hr) (pe_fldK K rfl (pe_fldK K rfl (pv 2) rfl) rfl) (pe_dget (hu_of hr) (pv 3) (pv 5) (fun _ _ => rfl)) (fun _ _ => rfl)))) pa_nil)))
(pss_one (ps_ret (pe_tup (pa_cons (pb_sum bl.sum_ (pa_cons (pe_lc (own := [("step", 6)]) (g := (gName 6)) (tt := _) (by rfl) sc.nd (pi_tupK K rfl (pv 4)) (blkOk_by (by kernel_rfl)) (fun _ _ _ _ _ => (pg_name (i := 6) sc.nd rfl (.inl rfl))) (fun _ _ _ _ _ => pts_nil) (fun _ _ _ _ _ => (pe_dget2 (hu_of hr) (pv 1) (pv 6) pe_int ⟨rfl, rfl, rfl, rfl⟩))) pa_nil)) (pa_cons (pv 4) (pa_cons (pb_tuple bl.tuple_ (pa_cons (pe_fldK K rfl (pv 2) rfl) pa_nil)) pa_nil)))))))))), fun Q q => ?_⟩
  cases r with
  | mk c D rank W o =>
  obtain ⟨v1, v2, rfl, h1, h2⟩ := all2 a
  have so := steps_ok o
  have ro := rst_ok (W := W) so
  have inv := ln_inv (door := doorF D) (W := W) (steps D)
  obtain ⟨found, ef, hv⟩ := run_found (W := W) so
  have len : (steps D).length ≤ 27 := o.sm.all D.length o.sm.hl
  have hD3 := o.sm.hl
  obtain ⟨ch, _⟩ := heavy_forest (W := W) so
  have eF : heavyF D W = forestOf D.length (bestRest (doorF D) W (steps D)).1 found := by unfold heavyF heavyOf; rw [ef]; rfl
  have ch : Choice D.length (steps D) (heavyF D W) := ch
  generalize hbr : bestRest (doorF D) W (steps D) = br at *
  refine hq_din (c := c) (D0 := D) (W := W) sb (ga_2 (gv_var (i := 0) rfl h1 (Same.refl _)) (gv_var (i := 1) rfl h2 (Same.refl _))) o.sm fun A B2 H2 gg2 w2 hno0 => ?_
  rw [hbr] at w2
  refine hq_drw (is_var (i := 2) rfl) w2 gg2.in_ ro o.h1 hD3 (by have := inv.len; omega) fun B3 H3 R' S' cs' g3 hrun hcs htl w3 => ?_
  have gg3 : Gr B H B3 H3 := gg2.over hno0 g3
  have hch : chosenOf S' = some found := by
    unfold endOf at ef
    rw [hrun] at ef
    exact ef
  -- all of it is given away
  have gg4 := gg3.pubs hno0
  have hd4 := w3.last gg3.in_
  have sB4 : Same B (ext B3 H3 A.ds) := gg4.bs
  generalize ext B3 H3 A.ds = B4 at gg4 hd4 sB4
  have hst : ∀ σ : L2.St, σ[2]? = some (some (.ref A.a)) → ∀ B', Same B4 B' → Gv (tVar 2) σ B' (yO CD (fU CL br.1 R' S' cs')) := fun σ k B' s' => gv_var k hd4 s'
  refine sq_set (i := 3) (T := yDI (mF found)) gg4.in_ (gv_me (Gv.imp (hst _ rfl _ (Same.refl _)) fun v B' _ h => fU_fV h) (by walk_at "nm") ga_nil (gives_G (R := Rchosen CD CL) (.mk br.1 R' S' found hch htl))) fun v3 B5 H5 g5 hv3 => ?_
  have gg5 := gg4.trans g5
  refine sq_set (i := 4) (T := yT ((heavyF D W).map yIs)) g5.in_ (gv_tupL (Gv.cast (A := yL ((List.range D.length).map fun (h : Nat) => yIs ((look br.1 ((look found (h : Int)).getD (0, 0))).getD []))) (gv_lc1 (F := fun (h : Nat) => yI (h : Int)) (gi_rng1 (n := ((D.map yHs).length : Nat)) (gv_lenT (gv_fld (f := "dealers") (ns := nsW) (gv_var (i := 0) rfl h1 gg5.bs) cW (by decide) rfl) isTu_t) (by rw [List.length_map]; omega) (by omega)) (by rw [List.length_map, List.length_range]; simp) hT_rng (by rw [List.length_range]; omega) (fun _ => rfl) fun j h y B6 hj s1 hy => ?_) ?_)) fun v4 B6 H6 g6 hv4 => ?_
  · have hh := List.mem_range.mp (List.mem_of_getElem? hj)
    obtain ⟨g, k1, k2⟩ := hv.ln h hh
    obtain ⟨vv, k3⟩ := look_some_of k2
    obtain ⟨s, s1', s2', s3', s4'⟩ := inv.best _ vv k3
    rw [k1]
    simp only [Option.getD_some]
    rw [s2']
    simp only [Option.getD_some]
    refine gv_dget (k := lk ((h : Int), g)) (gv_fld (f := "best") (ns := nsL) (gv_fld (f := "lines") (ns := nsD) (hst _ rfl _ (g5.bs.trans s1)) cD (by decide) rfl) cL (by decide) rfl) (gv_dgetI (i := (h : Int)) (T := yLn ((h : Int), g)) (gv_var (i := 3) rfl hv3 s1) (gv_var (i := 5) rfl hy (Same.refl _)) isDI_s ?_) isDT_s ?_
    · have e : ∀ m : List (Int × Ln), look (mF m) (h : Int) = (look m (h : Int)).map yLn := fun m => by
        induction m with
        | nil => rfl
        | cons p m ih =>
          show look ((p.1, yLn p.2) :: mF m) _ = _
          rw [look, look]
          split
          · rfl
          · exact ih
      rw [e, k1]; rfl
    · rw [mG_look lk_inj, s2']; rfl
  · rw [eF]
    unfold forestOf
    rw [List.map_map]
    rfl
  · have gg6 := gg5.trans g6
    refine st_ret (T := yT [yI ((heavyF D W).map W).sum, yT ((heavyF D W).map yIs), yAny]) g6.in_ (gv_tup3 (gv_sum (Gv.cast (A := yL ((heavyF D W).map fun st => yI (W st))) (gv_lc1 (F := yIs) (gi_tup (gv_var (i := 4) rfl hv4 (Same.refl _)) isTu_t) (by rw [List.length_map]) hT_map (by rw [ch.len]; omega) (fun _ => rfl) fun j st y B7 hj s1 hy => gv_dget2 (k := st) (gv_var (i := 1) rfl h2 (gg6.bs.trans s1)) (gv_var (i := 6) rfl hy (Same.refl _)) gv_c isDT_s (by rw [mW_look (ch.mem st (List.mem_of_getElem? hj)) (steps_nodup D)]; rfl)) (by rw [List.map_map]; rfl))) (gv_var (i := 4) rfl hv4 (Same.refl _)) (Gv.imp (gv_tupL (gv_fld (f := "costs") (ns := nsD) (hst _ rfl _ (g5.bs.trans g6.bs)) cD (by decide) rfl)) fun _ _ _ _ => trivial)) fun v B7 H7 g7 hv7 => q v B7 H7 (gg6.trans g7) hv7
end
end LD
set_option maxRecDepth 100000
set_option maxHeartbeats 400000
/-! LdMost: most_by, least_by, most, least -/

namespace LD
open PySem PyProof.Rows L2
abbrev s_most_by : Stmt := topS 62
theorem sc_most_by : FnScope ["web", "told", "weights", "bottom", "number", "forest", "costs"] ["web", "told"] (defScope s_most_by) :=
  ⟨rfl, rfl, rfl, by decide +kernel, rfl, by decide +kernel, by decide +kernel⟩
abbrev s_least_by : Stmt := topS 63
theorem sc_least_by : FnScope ["web", "told", "weights", "bottom", "number", "forest", "costs", "step"] ["web", "told"] (defScope s_least_by) :=
  ⟨rfl, rfl, rfl, by decide +kernel, rfl, by decide +kernel, by decide +kernel⟩
abbrev s_most : Stmt := topS 65
theorem sc_most : FnScope ["web", "prices"] ["web", "prices"] (defScope s_most) :=
  ⟨rfl, rfl, rfl, by decide +kernel, rfl, by decide +kernel, by decide +kernel⟩
abbrev s_least : Stmt := topS 66
theorem sc_least : FnScope ["web", "prices"] ["web", "prices"] (defScope s_least) :=
  ⟨rfl, rfl, rfl, by decide +kernel, rfl, by decide +kernel, by decide +kernel⟩
def mostF (D : Dl) (x : Nm → Rat) : List (List Int) := heavyF D (leadW D x)
def mostN (D : Dl) (x : Nm → Rat) : Int := ((mostF D x).map (leadW D x)).sum
def leadM (D : Dl) (x : Nm → Rat) (st : List Int) : Int := -(leadW D x st)
def leastF (D : Dl) (x : Nm → Rat) : List (List Int) := heavyF D (leadM D x)
def leastN (D : Dl) (x : Nm → Rat) : Int := ((leastF D x).map (leadM D x)).sum
abbrev yEnd (r : Rat) (F : List (List Int)) : Ty := yT [yFs r, yT (F.map yIs)]
def mostR (D : Dl) (x : Nm → Rat) : Rat := Rat.divInt (mostN D x) (botAll D x : Int)
def leastR (D : Dl) (x : Nm → Rat) : Rat := Rat.divInt (-(leastN D x)) (botAll D x : Int)
inductive Rmostby (K : PySem.W.Frag) (CW : Addr) : List Ty → Ty → Prop
  | mk (c : Int) (D : Dl) (rank : Nat → Nat) (x : Nm → Rat) (o : WebOk c D rank) (tw : Twelfth x) : Rmostby K CW [yW CW c D, yTab K D x] (yEnd (mostR D x) (mostF D x))
inductive Rleastby (K : PySem.W.Frag) (CW : Addr) : List Ty → Ty → Prop
  | mk (c : Int) (D : Dl) (rank : Nat → Nat) (x : Nm → Rat) (o : WebOk c D rank) (tw : Twelfth x) : Rleastby K CW [yW CW c D, yTab K D x] (yEnd (leastR D x) (leastF D x))
inductive Rmost (K : PySem.W.Frag) (CW : Addr) : List Ty → Ty → Prop
  | mk (c : Int) (D : Dl) (rank : Nat → Nat) (x : Nm → Rat) (m : Row) (o : WebOk c D rank) (h : Planted D x m) (h2 : PricesOk D m) : Rmost K CW [yW CW c D, yPrices m] (yEnd (mostR D x) (mostF D x))
inductive Rleast (K : PySem.W.Frag) (CW : Addr) : List Ty → Ty → Prop
  | mk (c : Int) (D : Dl) (rank : Nat → Nat) (x : Nm → Rat) (m : Row) (o : WebOk c D rank) (h : Planted D x m) (h2 : PricesOk D m) : Rleast K CW [yW CW c D, yPrices m] (yEnd (leastR D x) (leastF D x))
theorem leadW_small {c : Int} {D : Dl} {rank : Nat → Nat} {x : Nm → Rat} (o : WebOk c D rank) (tw : Twelfth x) (st : List Int) : (leadW D x st).natAbs ≤ 72 * 12 := by
  obtain ⟨la, lb, lc⟩ := leadsAll_ok o.sm tw
  obtain ⟨ba, bb, bc⟩ := bot_ok la
  have h12 : botAll D x ≤ 12 := Nat.le_of_dvd (by decide) bb
  have twl := tw_den (tw_lead tw (st.getD 0 0).toNat (nextF D st).toNat)
  unfold leadW
  rw [Int.natAbs_mul]
  refine Nat.mul_le_mul twl.2 ?_
  rw [Int.fdiv_eq_ediv_of_nonneg _ (by omega), ← Int.natCast_ediv, Int.natAbs_natCast]
  exact Nat.le_trans (Nat.div_le_self _ _) h12
theorem sum_small {α : Type} {f : α → Int} {M : Nat} : ∀ l : List α, (∀ a, (f a).natAbs ≤ M) → ((l.map f).sum).natAbs ≤ l.length * M
  | [], _ => by simp
  | a :: l, h => by
    rw [List.map_cons, List.sum_cons, List.length_cons, Nat.add_mul]
    have := h a
    have := sum_small l h
    omega
section
variable {P : Program} {w : World} {K : PySem.W.Frag} {mg : Str → Option Value} {base : Heap} {CW : Addr}
theorem ok_mostby (D : Def K mg "most_by" s_most_by ["web", "told"]) (c_leads_by_step : Cal P w K mg base "leads_by_step" 3 ["web", "told"] (spG (Rleads K CW))) (c_heaviest_of : Cal P w K mg base "heaviest_of" 6 ["web", "weights"] (spG (Rheavy CW))) (c_made : Cal P w K mg base "made" 2 ["top", "bottom"] (spG (Rmade K))) : Cal P w K mg base "most_by" 7 ["web", "told"] (spG (Rmostby K CW)) := by
  have sc := sc_most_by
  refine D.ok sc (fun Ts T r => by cases r; rfl) (fun f cdv A outer s H vs E B Ts T r sb a hr => ?_)
  refine ⟨_, (pss_cons (ps_asg (pe_cl c_leads_by_step (hr.mono (by decide)) (pa_cons (pv 0) (pa_cons (pv 1) pa_nil))) (pg_tup (by rfl) (pgs_cons (pg_name (i := 2) sc.nd rfl (.inl rfl)) (pgs_cons (pg_name (i := 3) sc.nd rfl (.inl rfl)) pgs_nil))))
(pss_cons (ps_asg (pe_cl c_heaviest_of (hr.mono (by decide)) (pa_cons (pv 0) (pa_cons (pv 2) pa_nil))) (pg_tup (by rfl) (pgs_cons (pg_name (i := 4) sc.nd rfl (.inl rfl)) (pgs_cons (pg_name (i := 5) sc.nd rfl (.inl rfl)) (pgs_cons (pg_name (i := 6) sc.nd rfl (.inl rfl)) pgs_nil)))))
(pss_one (ps_ret (pe_tup (pa_cons (pe_cl c_made (hr.mono (by decide)) (pa_cons (pv 4) (pa_cons (pv 3) pa_nil))) (pa_cons (pv 5) pa_nil))))))), fun Q q => ?_⟩
  cases r with
  | mk c D rank x o tw =>
  obtain ⟨v1, v2, rfl, h1, h2⟩ := all2 a
  obtain ⟨la, lb, lc⟩ := leadsAll_ok o.sm tw
  obtain ⟨ba, bb, bc⟩ := bot_ok la
  have ch : Choice D.length (steps D) (mostF D x) := (heavy_forest (W := leadW D x) (steps_ok o)).1
  refine sq_asg sb (gv_cl (ga_2 (gv_var (i := 0) rfl h1 (Same.refl _)) (gv_var (i := 1) rfl h2 (Same.refl _))) (gives_G (R := Rleads K CW) (.mk c D rank x o tw))) fun v B1 H1 g1 hv => g_tup2 hv g1.in_ fun vw vb hvw hvb => ?_
  obtain rfl : vb = .int (botAll D x : Int) := hvb
  refine sq_asg g1.in_ (gv_cl (ga_2 (gv_var (i := 0) rfl h1 g1.bs) (gv_var (i := 2) rfl hvw (Same.refl _))) (gives_G (R := Rheavy CW) (.mk c D rank (leadW D x) o))) fun v B2 H2 g2 hv => g_tup3 hv g2.in_ fun vn vf vc hvn hvf hvc => ?_
  obtain rfl : vn = .int (mostN D x) := hvn
  have gg := g1.trans g2
  have h12 : botAll D x ≤ 12 := Nat.le_of_dvd (by decide) bb
  have hb0 : ((botAll D x : Nat) : Int) ≠ 0 := by
    have : 0 < botAll D x := ba
    omega
  have hbs : (((botAll D x : Nat) : Int)).natAbs < 2 ^ 9000 := Nat.lt_of_lt_of_le (show _ < 2 ^ 4 by rw [Int.natAbs_natCast]; omega) (Nat.pow_le_pow_right (by decide) (by decide))
  refine st_ret (T := yEnd (mostR D x) (mostF D x)) g2.in_ (gv_tup2 (gv_cl (ga_2 (gv_v (i := 4) rfl) (gv_v (i := 3) rfl)) (gives_G (R := Rmade K) (.mk (mostN D x) _ hb0 hbs))) (gv_var (i := 5) rfl hvf (Same.refl _))) fun v B' H' g hv => q v B' H' (gg.trans g) hv
theorem ok_leastby (D : Def K mg "least_by" s_least_by ["web", "told"]) (c_leads_by_step : Cal P w K mg base "leads_by_step" 3 ["web", "told"] (spG (Rleads K CW))) (c_heaviest_of : Cal P w K mg base "heaviest_of" 6 ["web", "weights"] (spG (Rheavy CW))) (c_made : Cal P w K mg base "made" 2 ["top", "bottom"] (spG (Rmade K))) : Cal P w K mg base "least_by" 7 ["web", "told"] (spG (Rleastby K CW)) := by
  have sc := sc_least_by
  refine D.ok sc (fun Ts T r => by cases r; rfl) (fun f cdv A outer s H vs E B Ts T r sb a hr => ?_)
  refine ⟨_, (pss_cons (ps_asg (pe_cl c_leads_by_step (hr.mono (by decide)) (pa_cons (pv 0) (pa_cons (pv 1) pa_nil))) (pg_tup (by rfl) (pgs_cons (pg_name (i := 2) sc.nd rfl (.inr rfl)) (pgs_cons (pg_name (i := 3) sc.nd rfl (.inl rfl)) pgs_nil))))
(pss_cons (ps_asg (pe_cl c_heaviest_of (hr.mono (by decide)) (pa_cons (pv 0) (pa_cons (pe_lock (pe_dg (o := .dT []) (.inr rfl) (hu_of hr) (own := [("step", 7)]) (g := (gName 7)) (tt := _) (by rfl) sc.nd (pi_keys (pv 2)) (blkOk_by (by kernel_rfl)) (fun _ _ _ _ _ => (pg_name (i := 7) sc.nd rfl (.inl rfl))) (fun _ _ _ _ _ => pts_nil) (fun _ _ _ _ _ => (pv 7)) (fun _ _ _ _ _ => (pe_un un_neg (pe_dget (hu_of hr) (pv 2) (pv 7) (fun _ _ => rfl)))))) pa_nil))) (pg_tup (by rfl) (pgs_cons (pg_name (i := 4) sc.nd rfl (.inl rfl)) (pgs_cons (pg_name (i := 5) sc.nd rfl (.inl rfl)) (pgs_cons (pg_name (i := 6) sc.nd rfl (.inl rfl)) pgs_nil)))))
(pss_one (ps_ret (pe_tup (pa_cons (pe_cl c_made (hr.mono (by decide)) (pa_cons (pe_un un_neg (pv 4)) (pa_cons (pv 3) pa_nil))) (pa_cons (pv 5) pa_nil))))))), fun Q q => ?_⟩
  cases r with
  | mk c D rank x o tw =>
  obtain ⟨v1, v2, rfl, h1, h2⟩ := all2 a
  obtain ⟨la, lb, lc⟩ := leadsAll_ok o.sm tw
  obtain ⟨ba, bb, bc⟩ := bot_ok la
  have len : (steps D).length ≤ 27 := o.sm.all D.length o.sm.hl
  refine sq_asg sb (gv_cl (ga_2 (gv_var (i := 0) rfl h1 (Same.refl _)) (gv_var (i := 1) rfl h2 (Same.refl _))) (gives_G (R := Rleads K CW) (.mk c D rank x o tw))) fun v B1 H1 g1 hv => g_tup2 hv g1.in_ fun vw vb hvw hvb => ?_
  obtain rfl : vb = .int (botAll D x : Int) := hvb
  obtain ⟨d, kvs, rfl, hd, hk⟩ := id hvw
  refine sq_asg g1.in_ (gv_cl (Ts := [yW CW c D, yWts (leadM D x) (steps D)]) (ga_2 (gv_var (i := 0) rfl h1 g1.bs) (gv_lock (d := d) hd trivial (unf_d (m := mW (leadM D x) (steps D)) fun p hp => by
    obtain ⟨p0, _, rfl⟩ := List.mem_map.mp hp
    exact unf_x) fun od => ?_)) (gives_G (R := Rheavy CW) (.mk c D rank (leadM D x) o))) fun v B2 H2 g2 hv => g_tup3 hv g2.in_ fun vn vf vc hvn hvf hvc => ?_
  · have hd2 : upd B1 d (.frz od (.dT kvs)) d = some (.frz od (.dT kvs)) := upd_same
    have hk2 := frz_dall (od := od) hd (u := .dT kvs) trivial (fun p hp => by
      obtain ⟨p0, _, rfl⟩ := List.mem_map.mp hp
      exact frz_x) hk
    refine Gv.imp (A := (oT (mW (leadM D x) ((steps D).take (mW (leadW D x) (steps D)).length))).ty) (gv_dg (RR := fun i => oT (mW (leadM D x) ((steps D).take i))) (fun _ => ⟨[], rfl, trivial⟩) (gi_keys (m := mW (leadW D x) (steps D)) (gv_v rfl) hd2 hk2) fun i k B2 H2 hi s1 s2 hx R r => ?_) fun v B1 _ h => ?_
    · rw [List.length_map] at hi
      obtain ⟨st, hst⟩ : ∃ r, (steps D)[i]? = some r := ⟨_, List.getElem?_eq_getElem hi⟩
      have e : ((mW (leadW D x) (steps D)).map (·.1)).getD i [] = st := by
        rw [mW_keys, List.getD_eq_getElem?_getD, hst]
        rfl
      rw [e] at hx
      have hr2 : (yDr (mW (leadW D x) (steps D))).p (.ref d) B2 := ⟨d, kvs, rfl, .inr ⟨od, s1 _ _ hd2⟩, hk2.m s1⟩
      refine r _ rfl true gt_yes (fun _ => ?_) (fun z => nomatch z)
      have no := nodup_take_no (steps_nodup D) hst
      have hWt : (mW (leadM D x) ((steps D).take (i + 1))) = put (mW (leadM D x) ((steps D).take i)) st (yI (leadM D x st)) := by
        rw [put_new (by rw [mW_keys]; exact no), List.take_add_one, hst]
        unfold mW
        rw [Option.toList_some, List.map_append]
        rfl
      show RbO _ _ _ (oT (mW (leadM D x) ((steps D).take i))) (oT (mW (leadM D x) ((steps D).take (i + 1))))
      rw [hWt]
      refine rb_putT (gv_var (i := 7) rfl hx (Same.refl _)) (gv_neg (gv_dget (k := st) (T := yI (leadW D x st)) (gv_var (i := 2) rfl hr2 (Same.refl _)) (gv_var (i := 7) rfl hx (Same.refl _)) isDT_r (mW_look (List.mem_of_getElem? hst) (steps_nodup D)))) (by rw [mW_keys]; exact List.Nodup.sublist (List.take_sublist _ _) (steps_nodup D)) (by rw [List.length_map, List.length_take]; omega)
    · rw [List.length_map, List.take_length] at h
      exact oT_ty h
  · obtain rfl : vn = .int (leastN D x) := hvn
    have gg := g1.trans g2
    have h12 : botAll D x ≤ 12 := Nat.le_of_dvd (by decide) bb
    have hb0 : ((botAll D x : Nat) : Int) ≠ 0 := by
      have : 0 < botAll D x := ba
      omega
    have hbs : (((botAll D x : Nat) : Int)).natAbs < 2 ^ 9000 := Nat.lt_of_lt_of_le (show _ < 2 ^ 4 by rw [Int.natAbs_natCast]; omega) (Nat.pow_le_pow_right (by decide) (by decide))
    refine st_ret (T := yEnd (leastR D x) (leastF D x)) g2.in_ (gv_tup2 (gv_cl (ga_2 (gv_neg (gv_v (i := 4) rfl)) (gv_v (i := 3) rfl)) (gives_G (R := Rmade K) (.mk (-(leastN D x)) _ hb0 hbs))) (gv_var (i := 5) rfl hvf (Same.refl _))) fun v B' H' g hv => q v B' H' (gg.trans g) hv
theorem ok_most (D : Def K mg "most" s_most ["web", "prices"]) (c_table_for : Cal P w K mg base "table_for" 9 ["web", "prices"] (spG (Rtabfor K CW))) (c_most_by : Cal P w K mg base "most_by" 7 ["web", "told"] (spG (Rmostby K CW))) : Cal P w K mg base "most" 10 ["web", "prices"] (spG (Rmost K CW)) := by
  have sc := sc_most
  refine D.ok sc (fun Ts T r => by cases r; rfl) (fun f cdv A outer s H vs E B Ts T r sb a hr => ?_)
  refine ⟨_, (pss_one (ps_ret (pe_cl c_most_by (hr.mono (by decide)) (pa_cons (pv 0) (pa_cons (pe_cl c_table_for (hr.mono (by decide)) (pa_cons (pv 0) (pa_cons (pv 1) pa_nil))) pa_nil))))), fun Q q => ?_⟩
  cases r with
  | mk c D rank x m o pl po =>
  obtain ⟨v1, v2, rfl, h1, h2⟩ := all2 a
  exact st_ret sb (gv_cl (ga_2 (gv_var (i := 0) rfl h1 (Same.refl _)) (gv_cl (ga_2 (gv_var (i := 0) rfl h1 (Same.refl _)) (gv_var (i := 1) rfl h2 (Same.refl _))) (gives_G (R := Rtabfor K CW) (.mk c D rank x m o pl po)))) (gives_G (R := Rmostby K CW) (.mk c D rank x o pl.tw))) q
theorem ok_least (D : Def K mg "least" s_least ["web", "prices"]) (c_table_for : Cal P w K mg base "table_for" 9 ["web", "prices"] (spG (Rtabfor K CW))) (c_least_by : Cal P w K mg base "least_by" 7 ["web", "told"] (spG (Rleastby K CW))) : Cal P w K mg base "least" 10 ["web", "prices"] (spG (Rleast K CW)) := by
  have sc := sc_least
  refine D.ok sc (fun Ts T r => by cases r; rfl) (fun f cdv A outer s H vs E B Ts T r sb a hr => ?_)
  refine ⟨_, (pss_one (ps_ret (pe_cl c_least_by (hr.mono (by decide)) (pa_cons (pv 0) (pa_cons (pe_cl c_table_for (hr.mono (by decide)) (pa_cons (pv 0) (pa_cons (pv 1) pa_nil))) pa_nil))))), fun Q q => ?_⟩
  cases r with
  | mk c D rank x m o pl po =>
  obtain ⟨v1, v2, rfl, h1, h2⟩ := all2 a
  exact st_ret sb (gv_cl (ga_2 (gv_var (i := 0) rfl h1 (Same.refl _)) (gv_cl (ga_2 (gv_var (i := 0) rfl h1 (Same.refl _)) (gv_var (i := 1) rfl h2 (Same.refl _))) (gives_G (R := Rtabfor K CW) (.mk c D rank x m o pl po)))) (gives_G (R := Rleastby K CW) (.mk c D rank x o pl.tw))) q
end
end LD
set_option maxRecDepth 100000
set_option maxHeartbeats 400000
/-! LdMet: webs.met_from -/

namespace LD
open PySem PyProof.Rows L2
abbrev s_met_from : Stmt := topS 42
theorem sc_met_from : FnScope ["begin", "goals", "found", "waiting", "goal"] ["begin", "goals"] (defScope s_met_from) :=
  ⟨rfl, rfl, rfl, by decide +kernel, rfl, by decide +kernel, by decide +kernel⟩
abbrev Goals := List (Int × List Int)
def gl (G : Goals) (x : Int) : List Int := (look G x).getD []
inductive Reach (G : Goals) (b : Int) : Int → Prop
  | one {x : Int} (h : x ∈ gl G b) : Reach G b x
  | more {y x : Int} (r : Reach G b y) (h : x ∈ gl G y) : Reach G b x
/-- the steps that are left -/
def wsum (fk : List Int) : Goals → Nat
  | [] => 0
  | p :: G => (if p.1 ∈ fk then 0 else p.2.length) + wsum fk G
theorem wsum_le {fk : List Int} {g : Int} : ∀ G : Goals, wsum (fk ++ [g]) G ≤ wsum fk G
  | [] => Nat.le_refl _
  | p :: G => by
    have ih := wsum_le (fk := fk) (g := g) G
    unfold wsum
    by_cases h : p.1 ∈ fk
    · rw [if_pos (List.mem_append_left _ h), if_pos h]; omega
    · rw [if_neg h]
      split <;> omega
theorem wsum_sub {fk : List Int} {g : Int} (hg : g ∉ fk) : ∀ {G : Goals} {l : List Int}, look G g = some l → wsum (fk ++ [g]) G + l.length ≤ wsum fk G
  | [], l, h => by simp [look] at h
  | p :: G, l, h => by
    unfold wsum
    by_cases z : p.1 = g
    · rw [look, if_pos z] at h
      cases h
      have := wsum_le (fk := fk) (g := g) G
      rw [if_pos (by rw [z]; simp), if_neg (by rw [z]; exact hg)]
      omega
    · rw [look, if_neg z] at h
      have ih := wsum_sub hg h
      by_cases h2 : p.1 ∈ fk
      · rw [if_pos (List.mem_append_left _ h2), if_pos h2]; omega
      · rw [if_neg h2, if_neg (fun q => by
          rcases List.mem_append.mp q with q | q
          · exact h2 q
          · exact z (List.mem_singleton.mp q))]
        omega
abbrev mGl (G : Goals) : List (Int × Ty) := G.map fun p => (p.1, yL (p.2.map fun i => yI i))
abbrev yGl (G : Goals) : Ty := yDI (mGl G)
theorem mGl_look {G : Goals} {x : Int} : look (mGl G) x = (look G x).map fun l => yL (l.map fun i => yI i) := by
  induction G with
  | nil => rfl
  | cons p G ih =>
    show look ((p.1, yL (p.2.map fun i => yI i)) :: mGl G) x = _
    rw [look, look]
    split
    · rfl
    · exact ih
abbrev yGlr (G : Goals) : Ty := yDIr (mGl G)
abbrev mTr (fk : List Int) : List (Int × Ty) := fk.map fun k => (k, yB true)
theorem mTr_keys {fk : List Int} : (mTr fk).map (·.1) = fk := by
  unfold mTr
  rw [List.map_map]
  show fk.map (fun k => k) = fk
  simp
theorem mTr_look {fk : List Int} {x : Int} : (look (mTr fk) x).isSome = decide (x ∈ fk) := by
  cases e : look (mTr fk) x with
  | none =>
    have := look_none.mp e
    rw [mTr_keys] at this
    simp [this]
  | some v =>
    have := look_key e
    rw [mTr_keys] at this
    simp [this]
/-- all that one leads on to -/
def yMet (G : Goals) (b : Int) : Ty := yEx (fun ns : List Int => ns.Nodup ∧ ∀ x, x ∈ ns ↔ Reach G b x) (fun ns => yL (ns.map fun i => yI i))
inductive Rmet : List Ty → Ty → Prop
  | mk (G : Goals) (b : Int) (l0 : List Int) (hb : look G b = some l0) (hs : l0.length + wsum [] G ≤ 1000) : Rmet [yI b, yGlr G] (yMet G b)
section
variable {σ : L2.St} {B : Hp} {td ty : TE} {A : Ty} {mi : List (Int × Ty)} {i : Int}
theorem gv_dnotinI (hy : Gv ty σ B (yI i)) (hd : Gv td σ B A) (ht : IsDI A mi) : Gv (tDNotIn ty td) σ B (yB (!(look mi i).isSome)) := fun H s Q q =>
  hy H s _ fun y B1 H1 g1 hk => (hd.m g1.bs) H1 g1.in_ _ fun x B2 H2 g2 hx => by
    obtain ⟨a, kvs, rfl, hr, ka⟩ := ht x B2 hx
    obtain rfl : y = .int i := hk
    exact ⟨a, _, rfl, .inl ⟨kvs, .inl i, same_rd g2.in_ hr, rfl, rfl⟩, by rw [din_someI ka]; exact q _ B2 H2 (g1.trans g2) rfl⟩
end
section
variable {P : Program} {w : World} {K : PySem.W.Frag} {mg : Str → Option Value} {base : Heap}
theorem ok_met (D : Def K mg "met_from" s_met_from ["begin", "goals"]) (bl : Blt mg) : Cal P w K mg base "met_from" 1 ["begin", "goals"] (spG Rmet) := by
  have sc := sc_met_from
  refine D.ok sc (fun Ts T r => by cases r; rfl) (fun f cdv A outer s H vs E B Ts T r sb a hr => ?_)
  refine ⟨_, (pss_cons (ps_set (i := 2) sc.nd rfl (.inl rfl) pe_dnewK)
(pss_cons (ps_set (i := 3) sc.nd rfl (.inl rfl) (pb_list bl.list_ (pa_cons (pe_dget (hu_of hr) (pv 1) (pv 0) (fun _ _ => rfl)) pa_nil)))
(pss_cons (ps_while PassesOwn.never (pt_cmpR op_gt (pb_lenK K rfl bl.len_ (pa_cons (pv 3) pa_nil)) pe_int (nomark _))
  (pss_cons (ps_set (i := 4) sc.nd rfl (.inl rfl) (pe_bm0 PySem.F.plainAttrs_list PySem.F.slot_list_pop PySem.F.type_list_pop mt_pop (pv 3)))
(pss_one (ps_if (pt_cmp (pc_dnotin (hu_of hr) (pv 4) (pv 2)))
  (pss_cons (ps_dput (hu_of hr) (pv 2) (pv 4) pe_bl rfl)
(pss_one (ps_if (pt_cmp (pc_din (hu_of hr) (pv 4) (pv 1)))
  (pss_one (ps_expr (pe_bm PySem.F.plainAttrs_list PySem.F.slot_list_extend PySem.F.type_list_extend mt_extend (pv 3) (pa_cons (pb_list bl.list_ (pa_cons (pe_dget (hu_of hr) (pv 1) (pv 4) (fun _ _ => rfl)) pa_nil)) pa_nil))))
  pss_nil)))
  pss_nil))))
(pss_one (ps_ret (pb_sortI bl.sorted_ (pa_cons (pb_listI bl.list_ (pa_cons (pv 2) pa_nil)) pa_nil))))))), fun Q q => ?_⟩
  cases r with
  | mk G b l0 hb hs =>
  obtain ⟨v1, v2, rfl, rfl, h2⟩ := all2 a
  refine hq_newI sb fun df H1 g1 hdf wf => ?_
  refine hq_lstO g1.in_ (gv_dgetI (i := b) (T := yL (l0.map fun i => yI i)) (gv_var (i := 1) rfl h2 g1.bs) (gv_v (i := 0) rfl) isDI_r (by rw [mGl_look, hb]; rfl)) isLs_l fun dw B2 H2 g2 hdw w2 => ?_
  have hdw0 : H dw = none := g1.hs.free hdw
  have hne : df ≠ dw := wf.ne hdw
  have gg2 := g1.trans g2
  have hgl : gl G b = l0 := by unfold gl; rw [hb]; rfl
  refine hq_while (fun m σ B' H' => ∃ (fk wl : List Int) (n4 : Option V), σ = [some (.int b), some v2, some (.ref df), some (.ref dw), n4] ∧ Ow df (oI (mTr fk)) B' H' ∧ Ow dw (oL (wl.map fun i => yI i)) B' H' ∧ Gr B H B' H' ∧ fk.Nodup ∧ (∀ x ∈ fk, Reach G b x) ∧ (∀ x ∈ wl, Reach G b x) ∧ (∀ x ∈ gl G b, x ∈ fk ∨ x ∈ wl) ∧ (∀ y ∈ fk, ∀ x ∈ gl G y, x ∈ fk ∨ x ∈ wl) ∧ wl.length + wsum fk G ≤ m ∧ fk.length + m ≤ 1000) gg2.in_ (l0.length + wsum [] G) ⟨[], l0, _, rfl, wf.m g2, w2, gg2, List.nodup_nil, fun x hx => (by cases hx), fun x hx => .one (by rw [hgl]; exact hx), fun x hx => .inr (by rw [hgl] at hx; exact hx), fun y hy => (by cases hy), Nat.le_refl _, by simpa using hs⟩ fun m σ B3 H3 s3 hW => ?_
  obtain ⟨fk, wl, n4, rfl, f3, w3, gg3, ndf, rf, rw_, c1, c2, hm, hfm⟩ := hW
  refine ⟨decide ((0 : Int) < ((wl.length : Nat) : Int)), GhT.own w3 s3 fun B4 s4 s5 ty => GvT.cast (b := decide (((((wl.map fun i => yI i).length : Nat) : Int)) > 0)) (gt_test (gv_I0 (gv_lenL (gv_var (i := 3) rfl ty (Same.refl _)) isLs_o) gv_c)) (by rw [List.length_map]), fun hb2 B4 H4 g4 => ?_, fun hb2 B4 H4 g4 => ?_⟩
  · have hb2 := of_decide_eq_true hb2
    obtain ⟨g, hlast⟩ : ∃ x, wl.getLast? = some x := by
      cases z : wl.getLast? with
      | none => rw [List.getLast?_eq_none_iff] at z; subst z; simp at hb2
      | some x => exact ⟨x, rfl⟩
    have hwl := last_of hlast
    have hgm : g ∈ wl := by rw [hwl]; simp
    have hdl : wl.dropLast.length + 1 = wl.length := by rw [List.length_dropLast]; omega
    have hmem : ∀ x, x ∈ wl → x ∈ wl.dropLast ∨ x = g := fun x hx => by
      rw [hwl] at hx
      rcases List.mem_append.mp hx with h | h
      · exact .inl h
      · exact .inr (List.mem_singleton.mp h)
    have hsub : ∀ x, x ∈ wl.dropLast → x ∈ wl := fun x hx => List.dropLast_subset _ hx
    have w4 := w3.m g4
    have f4 := f3.m g4
    have gg4 := gg3.trans g4
    have w4' : Ow dw (oL ((wl.dropLast.map fun i => yI i) ++ [yI g])) B4 H4 := by
      have e : (wl.map fun i => yI i) = (wl.dropLast.map fun i => yI i) ++ [yI g] := by
        conv => lhs; rw [hwl, List.map_append]
        rfl
      rw [← e]; exact w4
    refine hq_pop (is_var rfl) w4' g4.in_ fun v o hv k5 => ?_
    obtain rfl : v = .int g := hv
    have gg5 : Gr B H B4 (upd H4 dw o) := gg4.put w4 hdw0
    have f5 : Ow df (oI (mTr fk)) B4 (upd H4 dw o) := f4.else hne
    generalize upd H4 dw o = H5 at k5 gg5 f5
    refine ht_if (b := !decide (g ∈ fk)) (GhT.own f5 gg5.in_ fun B6 s6 s7 ty => gt_B (Gv.cast (A := yB (!(look (mTr fk) g).isSome)) (gv_dnotinI (gv_v (i := 4) rfl) (gv_var (i := 2) rfl ty (Same.refl _)) isDI_o) (by rw [mTr_look]))) (fun hb3 B6 H6 g6 => ?_) (fun hb3 B6 H6 g6 => ?_)
    · have hb3 : g ∉ fk := by simpa using hb3
      have f6 := f5.m g6
      refine hq_dputI (ki := g) (T := yB true) (is_var rfl) f6 g6.in_ (by rw [mTr_keys]; exact ndf) (by rw [List.length_map]; omega) (gv_c.h g6.in_) (gv_v (i := 4) rfl) fun B7 H7 o7 g7 k7 => ?_
      have f7 : Ow df (oI (mTr (fk ++ [g]))) B7 (upd H7 df o7) := by
        have e : mTr (fk ++ [g]) = put (mTr fk) g (yB true) := by
          rw [put_new (by rw [mTr_keys]; exact hb3)]
          unfold mTr
          rw [List.map_append]
          rfl
        rw [e]; exact k7
      have w7 : Ow dw (oL (wl.dropLast.map fun i => yI i)) B7 (upd H7 df o7) := ((k5.m g6).m g7).else (Ne.symm hne)
      have gg7 : Gr B H B7 (upd H7 df o7) := ((gg5.trans g6).trans g7).put (f6.m g7) hdf
      generalize upd H7 df o7 = H8 at f7 w7 gg7
      have ndf' : (fk ++ [g]).Nodup := nd_snoc ndf hb3
      have hwle := wsum_le (fk := fk) (g := g) G
      have rg : Reach G b g := rw_ g hgm
      refine st_if (b := (look G g).isSome) gg7.in_ (gt_B (Gv.cast (A := yB (look (mGl G) g).isSome) (gv_dinI (gv_v (i := 4) rfl) (gv_var (i := 1) rfl h2 gg7.bs) isDI_r) (by rw [mGl_look]; cases look G g <;> rfl))) (fun hb4 B9 H9 g9 => ?_) (fun hb4 B9 H9 g9 => ?_)
      · obtain ⟨l, hl⟩ : ∃ l, look G g = some l := by
          cases z : look G g with
          | none => rw [z] at hb4; cases hb4
          | some l => exact ⟨l, rfl⟩
        have hsb := wsum_sub hb3 hl
        have hglg : gl G g = l := by unfold gl; rw [hl]; rfl
        have w9 := w7.m g9
        have gg9 := gg7.trans g9
        refine ht_ext (us := l.map fun i => yI i) (is_var rfl) w9 g9.in_ (by rw [List.length_map, List.length_map]; omega) (Gv.h (gv_lstL (gv_dgetI (i := g) (gv_var (i := 1) rfl h2 gg9.bs) (gv_v (i := 4) rfl) isDI_r (by rw [mGl_look, hl]; rfl))) g9.in_) fun B10 H10 o10 g10 k10 => ?_
        refine ⟨m - 1, B10, (w9.m g10).same g10.in_, by omega, fk ++ [g], wl.dropLast ++ l, _, rfl, ((f7.m g9).m g10).else hne, ?_, (gg9.trans g10).put (w9.m g10) hdw0, ndf', fun x hx => ?_, fun x hx => ?_, fun x hx => ?_, fun y hy x hx => ?_, ?_, ?_⟩
        · rw [List.map_append]; exact k10
        · rcases List.mem_append.mp hx with h | h
          · exact rf x h
          · rw [List.mem_singleton.mp h]; exact rg
        · rcases List.mem_append.mp hx with h | h
          · exact rw_ x (hsub x h)
          · exact .more rg (by rw [hglg]; exact h)
        · rcases c1 x hx with h | h
          · exact .inl (List.mem_append_left _ h)
          · rcases hmem x h with h | h
            · exact .inr (List.mem_append_left _ h)
            · exact .inl (by rw [h]; simp)
        · rcases List.mem_append.mp hy with hy | hy
          · rcases c2 y hy x hx with h | h
            · exact .inl (List.mem_append_left _ h)
            · rcases hmem x h with h | h
              · exact .inr (List.mem_append_left _ h)
              · exact .inl (by rw [h]; simp)
          · rw [List.mem_singleton.mp hy, hglg] at hx
            exact .inr (List.mem_append_right _ hx)
        · rw [List.length_append]; omega
        · rw [List.length_append]; simp; omega
      · have hl : look G g = none := by
          cases z : look G g with
          | none => rfl
          | some l => rw [z] at hb4; cases hb4
        have hglg : gl G g = [] := by unfold gl; rw [hl]; rfl
        refine ⟨m - 1, B9, g9.in_, by omega, fk ++ [g], wl.dropLast, _, rfl, f7.m g9, w7.m g9, gg7.trans g9, ndf', fun x hx => ?_, fun x hx => rw_ x (hsub x hx), fun x hx => ?_, fun y hy x hx => ?_, by omega, by rw [List.length_append]; simp; omega⟩
        · rcases List.mem_append.mp hx with h | h
          · exact rf x h
          · rw [List.mem_singleton.mp h]; exact rg
        · rcases c1 x hx with h | h
          · exact .inl (List.mem_append_left _ h)
          · rcases hmem x h with h | h
            · exact .inr h
            · exact .inl (by rw [h]; simp)
        · rcases List.mem_append.mp hy with hy | hy
          · rcases c2 y hy x hx with h | h
            · exact .inl (List.mem_append_left _ h)
            · rcases hmem x h with h | h
              · exact .inr h
              · exact .inl (by rw [h]; simp)
          · rw [List.mem_singleton.mp hy, hglg] at hx
            cases hx
    · have hb3 : g ∈ fk := by simpa using hb3
      refine ⟨m - 1, B6, g6.in_, by omega, fk, wl.dropLast, _, rfl, f5.m g6, k5.m g6, gg5.trans g6, ndf, rf, fun x hx => rw_ x (hsub x hx), fun x hx => ?_, fun y hy x hx => ?_, by omega, by omega⟩
      · rcases c1 x hx with h | h
        · exact .inl h
        · rcases hmem x h with h | h
          · exact .inr h
          · exact .inl (by rw [h]; exact hb3)
      · rcases c2 y hy x hx with h | h
        · exact .inl h
        · rcases hmem x h with h | h
          · exact .inr h
          · exact .inl (by rw [h]; exact hb3)
  · have hb2 := of_decide_eq_false hb2
    have hw0 : wl = [] := List.eq_nil_of_length_eq_zero (by omega)
    subst hw0
    obtain ⟨B5, g5, s5, h5⟩ := (f3.m g4).pub (gg3.trans g4) hdf
    have h5 := oI_ty h5
    have hfin : ∀ x, x ∈ sortI fk ↔ Reach G b x := fun x => by
      rw [(sortI_perm fk).mem_iff]
      refine ⟨rf x, fun r => ?_⟩
      induction r with
      | one h =>
        rcases c1 _ h with h | h
        · exact h
        · cases h
      | more r h ih =>
        rcases c2 _ ih _ h with h | h
        · exact h
        · cases h
    refine st_ret (T := yL ((sortI fk).map fun i => yI i)) g5.in_ (gv_sortIs (Gv.cast (gv_listD (gv_var (i := 2) rfl h5 (Same.refl _)) isDI_s) (by rw [mTr_keys]))) fun v B6 H6 g6 hv => q v B6 H6 (g5.trans g6) ⟨sortI fk, ⟨(sortI_perm fk).nodup_iff.mpr ndf, hfin⟩, hv⟩
end
end LD
set_option maxRecDepth 100000
set_option maxHeartbeats 400000
/-! LdCheck: is_standing, is_dealer, is_joined -/

namespace LD
open PySem PyProof.Rows L2
abbrev s_is_standing : Stmt := topS 40
theorem sc_is_standing : FnScope ["thing", "cups", "houses", "standings", "pair"] ["thing", "cups", "houses", "standings"] (defScope s_is_standing) :=
  ⟨rfl, rfl, rfl, by decide +kernel, rfl, by decide +kernel, by decide +kernel⟩
abbrev s_is_dealer : Stmt := topS 41
theorem sc_is_dealer : FnScope ["thing", "cups", "houses", "part"] ["thing", "cups", "houses"] (defScope s_is_dealer) :=
  ⟨rfl, rfl, rfl, by decide +kernel, rfl, by decide +kernel, by decide +kernel⟩
abbrev s_is_joined : Stmt := topS 43
theorem sc_is_joined : FnScope ["dealer", "goals", "at", "part", "pair", "begin"] ["dealer"] (defScope s_is_joined) :=
  ⟨rfl, rfl, rfl, by decide +kernel, rfl, by decide +kernel, by decide +kernel⟩
/-- pairs as the checks want them -/
structure StandOk (c n m : Int) (ps : List (Int × Int)) : Prop where
  l1 : 1 ≤ ps.length
  l3 : ps.length ≤ 3
  inb : ∀ p ∈ ps, -c ≤ p.1 ∧ p.1 ≤ n - 1 ∧ 0 ≤ p.2 ∧ p.2 ≤ m - 1
  asc : ∀ (i : Nat) p q, ps[i]? = some p → ps[i + 1]? = some q → p.1 < q.1 ∨ p.1 = q.1 ∧ p.2 < q.2
inductive Rstand : List Ty → Ty → Prop
  | mk (ps : List (Int × Int)) (c n m : Int) (h : StandOk c n m ps) : Rstand [ySt ps, yI c, yI n, yI m] (yB true)
structure HouseOk (c n : Int) (d : List (List (Int × Int))) : Prop where
  l1 : 1 ≤ d.length
  l3 : d.length ≤ 3
  st : ∀ ps ∈ d, StandOk c n d.length ps
  nx : ∀ s, s < d.length → ∃ ps, d[s]? = some ps ∧ ∃ p ∈ ps, p.2 = (((s + 1) % d.length : Nat) : Int)
inductive Rdealer : List Ty → Ty → Prop
  | mk (d : List (List (Int × Int))) (c n : Int) (h : HouseOk c n d) : Rdealer [yHs d, yI c, yI n] (yB true)
inductive Rjoined : List Ty → Ty → Prop
  | mk (d : List (List (Int × Int))) (c n : Int) (h : HouseOk c n d) : Rjoined [yHs d] (yB true)
theorem house_ok {c : Int} {D : Dl} {rank : Nat → Nat} (o : WebOk c D rank) {h : Nat} {d : List (List (Int × Int))} (e : D[h]? = some d) : HouseOk c D.length d := by
  have hm := List.mem_of_getElem? e
  refine ⟨o.d1 d hm, o.sm.dl d hm, fun ps hps => ⟨o.p1 d hm ps hps, o.sm.pl d hm ps hps, fun p hp => ?_, o.asc d hm ps hps⟩, fun s hs => ?_⟩
  · have := o.inb d hm ps hps p hp
    omega
  · obtain ⟨n, p, e1, e2, _⟩ := o.low h s d e hs
    obtain ⟨d', ps, k1, k2, k3⟩ := pairAt_some e1
    rw [e] at k1
    cases k1
    exact ⟨ps, k2, p, List.mem_of_getElem? k3, e2⟩
theorem lexLt2 {a b c d : Int} (h : a < c ∨ a = c ∧ b < d) : HT.lexLt [a, b] [c, d] = true := by
  unfold HT.lexLt
  by_cases z : a = c
  · rw [if_pos z]
    unfold HT.lexLt
    rw [if_neg (by omega)]
    exact decide_eq_true (by omega)
  · rw [if_neg z]
    exact decide_eq_true (by omega)
/-- the goals of standings -/
def goalsD (d : List (List (Int × Int))) (i : Nat) : Goals := (List.range i).map fun (s : Nat) => ((s : Int), ((d[s]?).getD []).map (·.2))
theorem goalsD_look {d : List (List (Int × Int))} {s i : Nat} (h : s < i) : look (goalsD d i) (s : Int) = some (((d[s]?).getD []).map (·.2)) := by
  refine look_of_mem ?_ (List.mem_map.mpr ⟨s, List.mem_range.mpr h, rfl⟩)
  unfold goalsD
  rw [List.map_map]
  exact nodup_map_on (fun a _ b _ e => by have e : (a : Int) = (b : Int) := e; omega) List.nodup_range
theorem reach_all {c n : Int} {d : List (List (Int × Int))} (o : HouseOk c n d) {b : Nat} (hb : b < d.length) : ∀ k : Nat, Reach (goalsD d d.length) (b : Int) (((b + k + 1) % d.length : Nat) : Int)
  | 0 => by
    obtain ⟨ps, e, p, hp, e2⟩ := o.nx b hb
    refine .one ?_
    unfold gl
    rw [goalsD_look hb, e]
    simp only [Option.getD_some, Nat.add_zero]
    exact List.mem_map.mpr ⟨p, hp, e2⟩
  | k + 1 => by
    have hm : (b + k + 1) % d.length < d.length := Nat.mod_lt _ (by omega)
    obtain ⟨ps, e, p, hp, e2⟩ := o.nx _ hm
    refine .more (reach_all o hb k) ?_
    unfold gl
    rw [goalsD_look hm, e]
    simp only [Option.getD_some]
    refine List.mem_map.mpr ⟨p, hp, ?_⟩
    rw [e2]
    congr 1
    rw [Nat.mod_add_mod]
    congr 1
theorem reach_in {c n : Int} {d : List (List (Int × Int))} (o : HouseOk c n d) {b x : Int} (r : Reach (goalsD d d.length) b x) : 0 ≤ x ∧ x < d.length := by
  have key : ∀ y x, x ∈ gl (goalsD d d.length) y → 0 ≤ x ∧ x < d.length := fun y x h => by
    unfold gl at h
    cases e : look (goalsD d d.length) y with
    | none => rw [e] at h; cases h
    | some l =>
      rw [e] at h
      obtain ⟨s, hs, e2⟩ := List.mem_map.mp (look_mem e)
      cases e2
      simp only [Option.getD_some] at h
      obtain ⟨p, hp, rfl⟩ := List.mem_map.mp h
      have hs := List.mem_range.mp hs
      rw [List.getElem?_eq_getElem hs] at hp
      simp only [Option.getD_some] at hp
      have := (o.st _ (List.getElem_mem hs)).inb p hp
      omega
  cases r with
  | one h => exact key _ _ h
  | more _ h => exact key _ _ h
theorem reach_iff {c n : Int} {d : List (List (Int × Int))} (o : HouseOk c n d) {b : Nat} (hb : b < d.length) {x : Int} : Reach (goalsD d d.length) (b : Int) x ↔ 0 ≤ x ∧ x < d.length := by
  refine ⟨reach_in o, fun ⟨h0, h1⟩ => ?_⟩
  have := reach_all o hb (x.toNat + d.length - b - 1 + d.length)
  have e : (b + (x.toNat + d.length - b - 1 + d.length) + 1) % d.length = x.toNat := by
    have e2 : b + (x.toNat + d.length - b - 1 + d.length) + 1 = x.toNat + d.length + d.length := by omega
    rw [e2, Nat.add_mod_right, Nat.add_mod_right, Nat.mod_eq_of_lt (by omega)]
  rw [e, Int.toNat_of_nonneg h0] at this
  exact this
/-- as many as there are, but one -/
theorem met_len {m : Nat} {b : Nat} (hb : b < m) {ns : List Int} (nd : ns.Nodup) (h : ∀ x, x ∈ ns ↔ 0 ≤ x ∧ x < (m : Int)) : (ns.filter fun x => !decide (x = (b : Int))).length = m - 1 := by
  have p : ns.Perm ((List.range m).map fun (i : Nat) => (i : Int)) := by
    rw [List.perm_ext_iff_of_nodup nd (nodup_map_on (fun a _ b _ e => by have e : (a : Int) = (b : Int) := e; omega) List.nodup_range)]
    intro x
    rw [h x, List.mem_map]
    constructor
    · rintro ⟨h0, h1⟩
      exact ⟨x.toNat, List.mem_range.mpr (by omega), by omega⟩
    · rintro ⟨i, hi, rfl⟩
      have := List.mem_range.mp hi
      omega
  rw [(p.filter _).length_eq, List.filter_map, List.length_map]
  have key : ∀ m b : Nat, ((List.range m).filter ((fun x : Int => !decide (x = (b : Int))) ∘ fun (i : Nat) => (i : Int))).length = if b < m then m - 1 else m := by
    intro m b
    induction m with
    | zero => rfl
    | succ m ih =>
      rw [List.range_succ, List.filter_append, List.length_append, ih]
      by_cases z : m = b
      · subst z
        rw [if_neg (Nat.lt_irrefl _), if_pos (Nat.lt_succ_self _)]
        simp
      · have z' : ¬ (m : Int) = (b : Int) := by omega
        have : ([m].filter ((fun x : Int => !decide (x = (b : Int))) ∘ fun (i : Nat) => (i : Int))).length = 1 := by
          rw [List.filter_cons, if_pos (by show (!decide ((m : Int) = (b : Int))) = true; rw [decide_eq_false z']; rfl)]
          rfl
        rw [this]
        split <;> split <;> omega
  rw [key, if_pos hb]
section
variable {P : Program} {w : World} {K : PySem.W.Frag} {mg : Str → Option Value} {base : Heap}
theorem ok_stand (D : Def K mg "is_standing" s_is_standing ["thing", "cups", "houses", "standings"]) (bl : Blt mg) (gMOST_STEPS : Gc mg "MOST_STEPS" (.int 6)) (c_is_pair : Cal P w K mg base "is_pair" 1 ["thing"] (spG Rpair)) (c_is_within : Cal P w K mg base "is_within" 2 ["thing", "least", "most"] (spG Rwithin)) (c_is_rising : Cal P w K mg base "is_rising" 1 ["items"] (spG Rrising)) : Cal P w K mg base "is_standing" 3 ["thing", "cups", "houses", "standings"] (spG Rstand) := by
  have sc := sc_is_standing
  refine D.ok sc (fun Ts T r => by cases r; rfl) (fun f cdv A outer s H vs E B Ts T r sb a hr => ?_)
  refine ⟨_, (pss_cons (ps_if (PW.pt (pw_or (pt_not (pt_val (pb_isi bl.isinstance_ (pa_cons (pv 0) (pa_cons (pe_bltn (v := .ty "tuple") (by rfl) bl.tuple_ (by decide +kernel) rfl) pa_nil))))) (pw_or1 (pt_not (pt_chain op_le op_le pe_int (pb_lenK K rfl bl.len_ (pa_cons (pv 0) pa_nil)) (pe_gc gMOST_STEPS))))))
  (pss_one (ps_ret pe_bl))
  pss_nil)
(pss_cons (ps_for PassesOwn.never rfl (pi_tupK K rfl (pv 0)) (pg_name (i := 4) sc.nd rfl (.inl rfl))
  (pss_one (ps_if (PW.pt (pw_or (pt_not (pt_val (pe_cl c_is_pair (hr.mono (by decide)) (pa_cons (pv 4) pa_nil)))) (pw_or (pt_not (pt_val (pe_cl c_is_within (hr.mono (by decide)) (pa_cons (pe_ix (ix_tupK K rfl) (pv 4) pe_int (fun _ _ => rfl)) (pa_cons (pe_un un_neg (pv 1)) (pa_cons (pe_op op_sub (pv 2) pe_int) pa_nil)))))) (pw_or1 (pt_not (pt_val (pe_cl c_is_within (hr.mono (by decide)) (pa_cons (pe_ix (ix_tupK K rfl) (pv 4) pe_int (fun _ _ => rfl)) (pa_cons pe_int (pa_cons (pe_op op_sub (pv 3) pe_int) pa_nil))))))))))
  (pss_one (ps_ret pe_bl))
  pss_nil)))
(pss_one (ps_ret (pe_cl c_is_rising (hr.mono (by decide)) (pa_cons (pv 0) pa_nil)))))), fun Q q => ?_⟩
  cases r with
  | mk ps c n m o =>
  obtain ⟨v1, v2, v3, v4, rfl, h1, rfl, rfl, rfl⟩ := all4 a
  have l1 := o.l1
  have l3 := o.l3
  refine sq_if0 sb (GvT.cast (b := !true || !(decide ((1 : Int) ≤ (((ps.map yPr).length : Nat) : Int)) && decide ((((ps.map yPr).length : Nat) : Int) ≤ 6))) (gt_or (gt_not (gt_test (gv_isi (gv_var (i := 0) rfl h1 (Same.refl _)) gv_c isa_tup kit_tt))) fun _ => gt_not ?_) ?_) fun B1 H1 g1 => ?_
  · exact gt_test (gv_chainI (i := 1) (k := 6) gv_c (gv_lenT (gv_var (i := 0) rfl h1 (Same.refl _)) isTu_t) gv_c)
  · rw [List.length_map]
    have e1 : decide ((1 : Int) ≤ (((ps.length : Nat)) : Int)) = true := decide_eq_true (by omega)
    have e2 : decide ((((ps.length : Nat)) : Int) ≤ 6) = true := decide_eq_true (by omega)
    rw [e1, e2]; rfl
  · refine sq_for g1.in_ (gi_tup (gv_var (i := 0) rfl h1 g1.bs) isTu_t) (fun i σ B2 H2 => ∃ n4, σ = [some v1, some (.int c), some (.int n), some (.int m), n4] ∧ Gr B H B2 H2)
      (fun B2 H2 g2 => ⟨_, rfl, g1.trans g2⟩) (fun Bs i z σ B2 H2 B3 H3 hi s1 s2 s3 hP g3 hz => ?_) (fun σ B2 H2 s1 s2 hP => ?_)
    · obtain ⟨n4, rfl, gg⟩ := hP
      rw [List.length_map] at hi
      obtain ⟨p, hp⟩ : ∃ r, ps[i]? = some r := ⟨_, List.getElem?_eq_getElem hi⟩
      rw [hT_map i p hp] at hz
      have ib := o.inb p (List.mem_of_getElem? hp)
      have hR1 := Rwithin.mk p.1 (-c) (n - 1)
      have hR2 := Rwithin.mk p.2 0 (m - 1)
      have k1 : (decide (-c ≤ p.1) && decide (p.1 ≤ n - 1)) = true := by
        rw [decide_eq_true ib.1, decide_eq_true ib.2.1]; rfl
      have k2 : (decide (0 ≤ p.2) && decide (p.2 ≤ m - 1)) = true := by
        rw [decide_eq_true ib.2.2.1, decide_eq_true ib.2.2.2]; rfl
      rw [k1] at hR1
      rw [k2] at hR2
      have pz : ∀ σ : L2.St, σ[4]? = some (some z) → Gv (tVar 4) σ B3 (yT [yI p.1, yI p.2]) := fun σ k => gv_var k hz (Same.refl _)
      refine st_if0 (B := B3) g3.in_ (GvT.cast (b := !true || (!true || !true)) (gt_or (gt_not (gt_test (gv_cl (ga_1 (pz _ rfl)) (gives_G (R := Rpair) (.mk _ _))))) fun _ => gt_or (gt_not (gt_test (gv_cl (ga_3 (gv_ixT (i := 0) (j := 0) (pz _ rfl) gv_c isTu_t rfl rfl) (gv_neg (gv_v (i := 1) rfl)) (gv_I0 (gv_v (i := 2) rfl) gv_c)) (gives_G (R := Rwithin) hR1)))) fun _ => gt_not (gt_test (gv_cl (ga_3 (gv_ixT (i := 1) (j := 1) (pz _ rfl) gv_c isTu_t rfl rfl) gv_c (gv_I0 (gv_v (i := 3) rfl) gv_c)) (gives_G (R := Rwithin) hR2)))) rfl) fun B4 H4 g4 => ?_
      exact ⟨B4, s2.trans (g3.bs.trans g4.bs), g4.in_, _, rfl, (gg.trans g3).trans g4⟩
    · obtain ⟨n4, rfl, gg⟩ := hP
      refine st_ret (T := yB true) s2 (gv_cl (Ts := [yT ((ps.map lk).map yIs)]) (ga_1 (gv_var (i := 0) rfl (T := yT ((ps.map lk).map yIs)) (by rw [List.map_map]; exact h1) gg.bs)) (gives_G (R := Rrising) (.mk (ps.map lk) (by rw [List.length_map]; omega) fun i a b e1 e2 => ?_))) fun v B' H' g hv => q v B' H' (gg.trans g) hv
      rw [List.getElem?_map] at e1 e2
      cases k1 : ps[i]? with
      | none => rw [k1] at e1; cases e1
      | some p =>
      cases k2 : ps[i + 1]? with
      | none => rw [k2] at e2; cases e2
      | some p2 =>
      rw [k1] at e1
      rw [k2] at e2
      cases e1
      cases e2
      exact lexLt2 (o.asc i p p2 k1 k2)
theorem ok_dealer (D : Def K mg "is_dealer" s_is_dealer ["thing", "cups", "houses"]) (bl : Blt mg) (gMOST_STANDINGS : Gc mg "MOST_STANDINGS" (.int 8)) (c_is_standing : Cal P w K mg base "is_standing" 3 ["thing", "cups", "houses", "standings"] (spG Rstand)) : Cal P w K mg base "is_dealer" 4 ["thing", "cups", "houses"] (spG Rdealer) := by
  have sc := sc_is_dealer
  refine D.ok sc (fun Ts T r => by cases r; rfl) (fun f cdv A outer s H vs E B Ts T r sb a hr => ?_)
  refine ⟨_, (pss_cons (ps_if (PW.pt (pw_or (pt_not (pt_val (pb_isi bl.isinstance_ (pa_cons (pv 0) (pa_cons (pe_bltn (v := .ty "tuple") (by rfl) bl.tuple_ (by decide +kernel) rfl) pa_nil))))) (pw_or1 (pt_not (pt_chain op_le op_le pe_int (pb_lenK K rfl bl.len_ (pa_cons (pv 0) pa_nil)) (pe_gc gMOST_STANDINGS))))))
  (pss_one (ps_ret pe_bl))
  pss_nil)
(pss_one (ps_ret (pb_all bl.all_ (pa_cons (pe_lc (own := [("part", 3)]) (g := (gName 3)) (tt := _) (by rfl) sc.nd (pi_tupK K rfl (pv 0)) (blkOk_by (by kernel_rfl)) (fun _ _ _ _ _ => (pg_name (i := 3) sc.nd rfl (.inl rfl))) (fun _ _ _ _ _ => pts_nil) (fun _ _ _ _ _ => (pe_cl c_is_standing (hr.mono (by decide)) (pa_cons (pv 3) (pa_cons (pv 1) (pa_cons (pv 2) (pa_cons (pb_lenK K rfl bl.len_ (pa_cons (pv 0) pa_nil)) pa_nil))))))) pa_nil))))), fun Q q => ?_⟩
  cases r with
  | mk d c n o =>
  obtain ⟨v1, v2, v3, rfl, h1, rfl, rfl⟩ := all3 a
  have l1 := o.l1
  have l3 := o.l3
  refine sq_if0 sb (GvT.cast (b := !true || !(decide ((1 : Int) ≤ (((d.map ySt).length : Nat) : Int)) && decide ((((d.map ySt).length : Nat) : Int) ≤ 8))) (gt_or (gt_not (gt_test (gv_isi (gv_var (i := 0) rfl h1 (Same.refl _)) gv_c isa_tup kit_tt))) fun _ => gt_not (gt_test (gv_chainI (i := 1) (k := 8) gv_c (gv_lenT (gv_var (i := 0) rfl h1 (Same.refl _)) isTu_t) gv_c))) (by
    rw [List.length_map]
    have e1 : decide ((1 : Int) ≤ (((d.length : Nat)) : Int)) = true := decide_eq_true (by omega)
    have e2 : decide ((((d.length : Nat)) : Int) ≤ 8) = true := decide_eq_true (by omega)
    rw [e1, e2]; rfl)) fun B1 H1 g1 => ?_
  refine st_ret (T := yB ((d.map fun _ => true).all id)) g1.in_ (gv_all (Gv.cast (A := yL (d.map fun _ => yB true)) (gv_lc1 (F := ySt) (gi_tup (gv_var (i := 0) rfl h1 g1.bs) isTu_t) (by rw [List.length_map]) hT_map (by omega) (fun _ => rfl) fun j ps x B2 hj s1 hx => gv_cl (ga_4 (gv_var (i := 3) rfl hx (Same.refl _)) (gv_v (i := 1) rfl) (gv_v (i := 2) rfl) (gv_lenT (gv_var (i := 0) rfl h1 (g1.bs.trans s1)) isTu_t)) (gives_G (R := Rstand) (.mk ps c n _ (by rw [List.length_map]; exact o.st ps (List.mem_of_getElem? hj))))) (by rw [List.map_map]; rfl))) fun v B' H' g hv => q v B' H' (g1.trans g) ?_
  have e : (d.map fun _ => true).all id = true := by simp
  rw [e] at hv
  exact hv
theorem goalsD_succ {d : List (List (Int × Int))} {i : Nat} {ps : List (Int × Int)} (e : d[i]? = some ps) : goalsD d (i + 1) = goalsD d i ++ [((i : Int), ps.map (·.2))] := by
  unfold goalsD
  rw [List.range_succ, List.map_append]
  simp [e]
theorem goalsD_keys {d : List (List (Int × Int))} {i : Nat} : (goalsD d i).map (·.1) = (List.range i).map fun (s : Nat) => (s : Int) := by
  unfold goalsD
  rw [List.map_map]
  rfl
theorem mGl_keys {G : Goals} : (mGl G).map (·.1) = G.map (·.1) := by
  unfold mGl
  rw [List.map_map]
  rfl
theorem frz_hs {d : List (List (Int × Int))} : Frz (yHs d) := frz_t fun t ht => by
  obtain ⟨ps, _, rfl⟩ := List.mem_map.mp ht
  refine frz_t fun t ht => ?_
  obtain ⟨p, _, rfl⟩ := List.mem_map.mp ht
  exact frz_pr
/-- a reading that begins with one whose type is open -/
theorem gv_ex {α : Type} {te : TE} {σ : L2.St} {B : Hp} {T : Ty} {p : α → Prop} {F : α → Ty} (C : TE → TE) (hC : ∀ te σ H Q, C te σ H Q = te σ H (fun v H1 => C (tC v) σ H1 Q)) (h : Gv te σ B (yEx p F)) (k : ∀ a v B1, p a → Same B B1 → (F a).p v B1 → Gv (C (tC v)) σ B1 T) : Gv (C te) σ B T := fun H s Q q => by
  rw [hC]
  exact h H s _ fun v B1 H1 g ⟨a, pa, fv⟩ => k a v B1 pa g.bs fv H1 g.in_ Q (q.go g)
theorem met_small {c n : Int} {d : List (List (Int × Int))} (o : HouseOk c n d) : (∀ (s : Nat) (ps : List (Int × Int)), d[s]? = some ps → ps.length ≤ 3) ∧ wsum [] (goalsD d d.length) ≤ 9 := by
  have h3 : ∀ (s : Nat) (ps : List (Int × Int)), d[s]? = some ps → ps.length ≤ 3 := fun s ps e => (o.st ps (List.mem_of_getElem? e)).l3
  refine ⟨h3, ?_⟩
  have key : ∀ i, i ≤ d.length → wsum [] (goalsD d i) ≤ 3 * i := by
    have app : ∀ (G : Goals) (p : Int × List Int), wsum [] (G ++ [p]) = wsum [] G + p.2.length := by
      intro G p
      induction G with
      | nil => simp [wsum]
      | cons q G ih =>
        show wsum [] (q :: (G ++ [p])) = _
        unfold wsum
        rw [ih]
        simp
        omega
    intro i
    induction i with
    | zero => intro _; exact Nat.le_refl _
    | succ i ih =>
      intro hi
      have e : d[i]? = some d[i] := List.getElem?_eq_getElem (by omega)
      rw [goalsD_succ e, app]
      have := ih (by omega)
      have := h3 _ _ e
      simp only [List.length_map]
      omega
  have := key d.length (Nat.le_refl _)
  have := o.l3
  omega
theorem ok_joined (D : Def K mg "is_joined" s_is_joined ["dealer"]) (bl : Blt mg) (c_met_from : Cal P w K mg base "met_from" 1 ["begin", "goals"] (spG Rmet)) : Cal P w K mg base "is_joined" 2 ["dealer"] (spG Rjoined) := by
  have sc := sc_is_joined
  refine D.ok sc (fun Ts T r => by cases r; rfl) (fun f cdv A outer s H vs E B Ts T r sb a hr => ?_)
  refine ⟨_, (pss_cons (ps_set (i := 1) sc.nd rfl (.inr rfl) (pe_dg (o := .dK []) (.inl rfl) (hu_of hr) (own := [("at", 2), ("part", 3)]) (g := (gTup K 2 (gCons (gName 2) (gCons (gName 3) gNil)))) (tt := _) (by rfl) sc.nd (pi_enumT (by rfl) bl.enumerate_ (pa_cons (pv 0) pa_nil)) (blkOk_by (by kernel_rfl)) (fun _ _ _ _ _ => (pg_tupK K rfl (by rfl) (pgs_cons (pg_name (i := 2) sc.nd rfl (.inl rfl)) (pgs_cons (pg_name (i := 3) sc.nd rfl (.inl rfl)) pgs_nil)))) (fun _ _ _ _ _ => pts_nil) (fun _ _ _ _ _ => (pv 2)) (fun _ _ _ _ _ => (pe_lc (own := [("pair", 4)]) (g := (gName 4)) (tt := _) (by rfl) sc.nd (pi_tupK K rfl (pv 3)) (blkOk_by (by kernel_rfl)) (fun _ _ _ _ _ => (pg_name (i := 4) sc.nd rfl (.inl rfl))) (fun _ _ _ _ _ => pts_nil) (fun _ _ _ _ _ => (pe_ix (ix_tupK K rfl) (pv 4) pe_int (fun _ _ => rfl)))))))
(pss_one (ps_ret (pb_all bl.all_ (pa_cons (pe_lock (pe_lc (own := [("begin", 5)]) (g := (gName 5)) (tt := _) (by rfl) sc.nd (pi_keys (pv 1)) (blkOk_by (by kernel_rfl)) (fun _ _ _ _ _ => (pg_name (i := 5) sc.nd rfl (.inr rfl))) (fun _ _ _ _ _ => pts_nil) (fun _ _ _ _ _ => (pe_cmpR op_eq (pb_lenK K rfl bl.len_ (pa_cons (pe_lc (own := [("at", 2)]) (g := (gName 2)) (tt := _) (by rfl) sc.nd (pi_listK K rfl (pe_cl c_met_from (hr.mono (by decide)) (pa_cons (pv 5) (pa_cons (pv 1) pa_nil)))) (blkOk_by (by kernel_rfl)) (fun _ _ _ _ _ => (pg_name (i := 2) sc.nd rfl (.inl rfl))) (fun _ _ _ _ _ => (pts_one (pt_cmpR op_ne (pv 2) (pv 5) (nomark _)))) (fun _ _ _ _ _ => (pv 2))) pa_nil)) (pe_op op_sub (pb_lenK K rfl bl.len_ (pa_cons (pv 0) pa_nil)) pe_int) (nomark _))))) pa_nil))))), fun Q q => ?_⟩
  cases r with
  | mk d c n o =>
  obtain ⟨v1, rfl, h1⟩ := all1 a
  obtain ⟨ms1, ms2⟩ := met_small o
  have l3 := o.l3
  have gnd : ∀ i, ((mGl (goalsD d i)).map (·.1)).Nodup := fun i => by
    rw [mGl_keys, goalsD_keys]
    exact nodup_map_on (fun a _ b _ e => by have e : (a : Int) = (b : Int) := e; omega) List.nodup_range
  refine sq_set (i := 1) (T := yGl (goalsD d d.length)) sb (Gv.imp (A := (oI (mGl (goalsD d ((d.map ySt).length)))).ty) (gv_dg (RR := fun i => oI (mGl (goalsD d i))) (fun _ => ⟨[], rfl, trivial⟩) (gi_enumT (gv_var (i := 0) rfl h1 (Same.refl _)) isTu_t) fun i x B2 H2 hi s1 s2 hx R r => ?_) fun v B' _ h => ?_) fun v2 B1 H1 g1 hv2 => ?_
  · rw [List.length_map] at hi
    have e : d[i]? = some d[i] := List.getElem?_eq_getElem hi
    rw [hT_map i _ e] at hx
    refine g_tup2 hx s2 fun vx vy hvx hvy => r _ rfl true gt_yes (fun _ => ?_) (fun z => nomatch z)
    obtain rfl : vx = .int (i : Int) := hvx
    show RbO _ _ _ (oI (mGl (goalsD d i))) (oI (mGl (goalsD d (i + 1))))
    have hput : mGl (goalsD d (i + 1)) = put (mGl (goalsD d i)) (i : Int) (yL ((d[i].map (·.2)).map fun i => yI i)) := by
      rw [goalsD_succ e, put_new (by
        rw [mGl_keys, goalsD_keys]
        intro hm
        obtain ⟨j, hj, e2⟩ := List.mem_map.mp hm
        have := List.mem_range.mp hj
        omega)]
      unfold mGl
      rw [List.map_append]
      rfl
    rw [hput]
    refine rb_putI (gv_v (i := 2) rfl) (Gv.cast (A := yL (d[i].map fun p => yI p.2)) (gv_lc1 (F := yPr) (gi_tup (gv_var (i := 3) rfl hvy (Same.refl _)) isTu_t) (by rw [List.length_map]) hT_map (by have := ms1 i _ e; omega) (fun _ => rfl) fun j p y B3 hj s3 hy => gv_ixT (i := 1) (j := 1) (gv_var (i := 4) rfl hy (Same.refl _)) gv_c isTu_t rfl rfl) (by rw [List.map_map]; rfl)) (gnd i) (by
      unfold mGl goalsD
      rw [List.length_map, List.length_map, List.length_range]
      omega)
  · rw [List.length_map] at h
    exact oI_ty h
  · obtain ⟨dd, kvs, rfl, hd, hk⟩ := id hv2
    refine st_ret (T := yB (((List.range d.length).map fun _ => true).all id)) g1.in_ (gv_all (gv_lock (d := dd) hd trivial unf_lb fun od => ?_)) fun v B' H' g hv => q v B' H' (g1.trans g) ?_
    · have hd2 : upd B1 dd (.frz od (.dK kvs)) dd = some (.frz od (.dK kvs)) := upd_same
      have hk2 := frz_dallI (od := od) hd (u := .dK kvs) trivial (fun p hp => by
        obtain ⟨p0, _, rfl⟩ := List.mem_map.mp hp
        exact frz_li) hk
      have hw2 := frz_hs v1 B1 dd od (.dK kvs) hd trivial ((yHs d).m g1.bs h1)
      refine Gv.cast (A := yL ((List.range d.length).map fun _ => yB true)) (gv_lc1 (F := fun (b : Nat) => yI (b : Int)) (gi_keysI (gv_v rfl) hd2 hk2) (by
        unfold mGl goalsD
        rw [List.length_map, List.length_map]) (fun j b e => ?_) (by rw [List.length_range]; omega) (fun _ => rfl) fun j b y B2 hj s1 hy => ?_) (by rw [List.map_map]; rfl)
      · have e2 : ((mGl (goalsD d d.length)).map (·.1))[j]? = some (b : Int) := by
          rw [mGl_keys, goalsD_keys, List.getElem?_map, e]
          rfl
        show yI (((mGl (goalsD d d.length)).map (·.1)).getD j 0) = yI (b : Int)
        rw [List.getD_eq_getElem?_getD, e2]
        rfl
      · have hb := List.mem_range.mp (List.mem_of_getElem? hj)
        obtain rfl : y = .int (b : Int) := hy
        have hr2 : (yGlr (goalsD d d.length)).p (.ref dd) B2 := ⟨dd, kvs, rfl, .inr ⟨od, s1 _ _ hd2⟩, hk2.m s1⟩
        have lg := goalsD_look (d := d) hb
        refine Gv.cast (A := yB (decide (V.int ((d.length - 1 : Nat) : Int) = V.int ((((d.map ySt).length : Nat) : Int) - 1)))) (gv_eq (gv_ex (fun te => tCB (rLenSeq K) (tCons (tLc (iList K te) (gName 2) (tTest (tOp rNe (tVar 2) (tVar 5))) (tVar 2) [2]) tNil)) (fun _ _ _ _ => rfl) (gv_cl (ga_2 (gv_v (i := 5) rfl) (gv_var (i := 1) rfl hr2 (Same.refl _))) (gives_G (R := Rmet) (.mk (goalsD d d.length) (b : Int) _ lg (by
            have e : d[b]? = some d[b] := List.getElem?_eq_getElem hb
            have := ms1 b _ e
            rw [e, List.length_map]
            simp only [Option.getD_some]
            omega)))) fun ns v B3 ⟨nd, hns⟩ s3 hv3 => ?_) (gv_I0 (gv_lenT (gv_var (i := 0) rfl hw2 s1) isTu_t) gv_c) rfl) (by
          rw [List.length_map]
          have l1 := o.l1
          have : ((d.length - 1 : Nat) : Int) = ((d.length : Nat) : Int) - 1 := by omega
          rw [this]
          simp)
        have hml := met_len hb nd fun x => (hns x).trans (reach_iff o hb)
        have hnl : ns.length ≤ d.length := by
          have h1 := List.length_filter_le (fun x => !decide (x = (b : Int))) ns
          have : ns.Perm ((List.range d.length).map fun (i : Nat) => (i : Int)) := by
            rw [List.perm_ext_iff_of_nodup nd (nodup_map_on (fun a _ b _ e => by have e : (a : Int) = (b : Int) := e; omega) List.nodup_range)]
            intro x
            rw [hns x, reach_iff o hb, List.mem_map]
            constructor
            · rintro ⟨h0, h1⟩
              exact ⟨x.toNat, List.mem_range.mpr (by omega), by omega⟩
            · rintro ⟨i, hi, rfl⟩
              have := List.mem_range.mp hi
              omega
          have := this.length_eq
          rw [List.length_map, List.length_range] at this
          omega
        refine Gv.cast (gv_lenL (ts := (ns.filter fun x => !decide (x = (b : Int))).map fun i => yI i) (gv_lc1f (F := fun i => yI i) (E := fun i => yI i) (p := fun x => !decide (x = (b : Int))) (gi_list (gv_ct hv3 (Same.refl _)) isLs_l) (by rw [List.length_map]) hT_map (by omega) (fun _ => rfl) (fun k x z B4 hk4 s4 hz => ?_) fun k x z B4 hk4 hp s4 hz => gv_var (i := 2) rfl hz (Same.refl _)) isLs_l) (by rw [List.length_map, hml])
        obtain rfl : z = .int x := hz
        exact GvT.cast (b := !decide (V.int x = V.int (b : Int))) (gt_test (gv_ne (gv_v (i := 2) rfl) (gv_v (i := 5) rfl) rfl)) (by simp)
    · have e : ((List.range d.length).map fun _ => true).all id = true := by simp
      rw [e] at hv
      exact hv
end
end LD
set_option maxRecDepth 100000
set_option maxHeartbeats 400000
/-! LdCheck2: doors_of, check_web, Web.__init__ -/

namespace LD
open PySem PyProof.Rows L2
abbrev s_doors_of : Stmt := topS 44
theorem sc_doors_of : FnScope ["dealers", "found", "house", "dealer", "part", "pair"] ["dealers"] (defScope s_doors_of) :=
  ⟨rfl, rfl, rfl, by decide +kernel, rfl, by decide +kernel, by decide +kernel⟩
abbrev s_check_web : Stmt := topS 45
theorem sc_check_web : FnScope ["cups", "dealers", "house", "dealer", "goals"] ["cups", "dealers"] (defScope s_check_web) :=
  ⟨rfl, rfl, rfl, by decide +kernel, rfl, by decide +kernel, by decide +kernel⟩
abbrev s_Web___init__ : Stmt := inClass (topS 46) 0
theorem sc_Web___init__ : FnScope ["self", "cups", "dealers"] ["self", "cups", "dealers"] (defScope s_Web___init__) :=
  ⟨rfl, rfl, rfl, by decide +kernel, rfl, by decide +kernel, by decide +kernel⟩
def addK (ks : List Int) (x : Int) : List Int := if x ∈ ks then ks else ks ++ [x]
def doorFold (ks : List Int) (ps : List (Int × Int)) : List Int := ps.foldl (fun ks p => addK ks p.1) ks
def doorKs (d : List (List (Int × Int))) : List Int := d.foldl doorFold []
theorem addK_mem {ks : List Int} {x y : Int} : y ∈ addK ks x ↔ y ∈ ks ∨ y = x := by
  unfold addK
  split
  · rename_i h
    constructor
    · exact .inl
    · rintro (h2 | rfl)
      · exact h2
      · exact h
  · simp
theorem addK_nd {ks : List Int} {x : Int} (h : ks.Nodup) : (addK ks x).Nodup := by
  unfold addK
  split
  · exact h
  · rename_i z; exact nd_snoc h z
theorem addK_len {ks : List Int} {x : Int} : (addK ks x).length ≤ ks.length + 1 := by
  unfold addK
  split
  · omega
  · simp
theorem doorFold_ok : ∀ (ps : List (Int × Int)) (ks : List Int), (ks.Nodup → (doorFold ks ps).Nodup) ∧ (doorFold ks ps).length ≤ ks.length + ps.length ∧ ∀ y, y ∈ doorFold ks ps ↔ y ∈ ks ∨ ∃ p ∈ ps, p.1 = y
  | [], ks => ⟨fun h => h, Nat.le_refl _, fun y => by simp [doorFold]⟩
  | p :: ps, ks => by
    obtain ⟨a, b, c⟩ := doorFold_ok ps (addK ks p.1)
    have := addK_len (ks := ks) (x := p.1)
    refine ⟨fun h => a (addK_nd h), ?_, fun y => ?_⟩
    · show (doorFold (addK ks p.1) ps).length ≤ _
      rw [List.length_cons]; omega
    · show y ∈ doorFold (addK ks p.1) ps ↔ _
      rw [c y, addK_mem]
      constructor
      · rintro ((h | rfl) | ⟨q, q1, q2⟩)
        · exact .inl h
        · exact .inr ⟨p, List.mem_cons_self, rfl⟩
        · exact .inr ⟨q, List.mem_cons_of_mem _ q1, q2⟩
      · rintro (h | ⟨q, q1, q2⟩)
        · exact .inl (.inl h)
        · rcases List.mem_cons.mp q1 with rfl | q1
          · exact .inl (.inr q2.symm)
          · exact .inr ⟨q, q1, q2⟩
theorem doorKs_ok {M : Nat} {d : List (List (Int × Int))} (h : ∀ ps ∈ d, ps.length ≤ M) : (doorKs d).Nodup ∧ (doorKs d).length ≤ d.length * M ∧ ∀ y, y ∈ doorKs d ↔ ∃ ps ∈ d, ∃ p ∈ ps, p.1 = y := by
  have key : ∀ (d : List (List (Int × Int))) (ks : List Int), (∀ ps ∈ d, ps.length ≤ M) → (ks.Nodup → (d.foldl doorFold ks).Nodup) ∧ (d.foldl doorFold ks).length ≤ ks.length + d.length * M ∧ ∀ y, y ∈ d.foldl doorFold ks ↔ y ∈ ks ∨ ∃ ps ∈ d, ∃ p ∈ ps, p.1 = y := by
    intro d
    induction d with
    | nil => intro ks _; exact ⟨fun h => h, by simp, fun y => by simp⟩
    | cons ps d ih =>
      intro ks h
      obtain ⟨a1, b1, c1⟩ := doorFold_ok ps ks
      obtain ⟨a, b, c⟩ := ih (doorFold ks ps) fun q hq => h q (List.mem_cons_of_mem _ hq)
      have hM := h ps List.mem_cons_self
      refine ⟨fun n => a (a1 n), ?_, fun y => ?_⟩
      · rw [List.foldl_cons, List.length_cons, Nat.add_mul]; omega
      · rw [List.foldl_cons, c y, c1 y]
        constructor
        · rintro ((h | ⟨p, p1, p2⟩) | ⟨qs, q1, q2⟩)
          · exact .inl h
          · exact .inr ⟨ps, List.mem_cons_self, p, p1, p2⟩
          · exact .inr ⟨qs, List.mem_cons_of_mem _ q1, q2⟩
        · rintro (h | ⟨qs, q1, q2⟩)
          · exact .inl (.inl h)
          · rcases List.mem_cons.mp q1 with rfl | q1
            · exact .inl (.inr q2)
            · exact .inr ⟨qs, q1, q2⟩
  obtain ⟨a, b, c⟩ := key d [] h
  refine ⟨a List.nodup_nil, by have b : (doorKs d).length ≤ 0 + d.length * M := b; omega, fun y => ?_⟩
  show y ∈ d.foldl doorFold [] ↔ _
  rw [c y]; simp
def doorsG (D : Dl) (i : Nat) : Goals := (List.range i).map fun (h : Nat) => ((h : Int), sortI (doorKs ((D[h]?).getD [])))
theorem doorsG_keys {D : Dl} {i : Nat} : (doorsG D i).map (·.1) = (List.range i).map fun (s : Nat) => (s : Int) := by
  unfold doorsG
  rw [List.map_map]
  rfl
theorem nat_nd {i : Nat} : ((List.range i).map fun (s : Nat) => (s : Int)).Nodup := nodup_map_on (fun a _ b _ e => by have e : (a : Int) = (b : Int) := e; omega) List.nodup_range
theorem doorsG_look {D : Dl} {h i : Nat} (hh : h < i) : look (doorsG D i) (h : Int) = some (sortI (doorKs ((D[h]?).getD []))) := look_of_mem (by rw [doorsG_keys]; exact nat_nd) (List.mem_map.mpr ⟨h, List.mem_range.mpr hh, rfl⟩)
theorem doorsG_succ {D : Dl} {i : Nat} {d : List (List (Int × Int))} (e : D[i]? = some d) : doorsG D (i + 1) = doorsG D i ++ [((i : Int), sortI (doorKs d))] := by
  unfold doorsG
  rw [List.range_succ, List.map_append]
  simp [e]
theorem mTr_put {ks : List Int} {x : Int} : put (mTr ks) x (yB true) = mTr (addK ks x) := by
  unfold addK
  split
  · rename_i h
    induction ks with
    | nil => cases h
    | cons k ks ih =>
      show put ((k, yB true) :: mTr ks) x _ = (k, yB true) :: mTr ks
      rw [put]
      by_cases z : k = x
      · rw [if_pos z]
      · rw [if_neg z, ih (by
          rcases List.mem_cons.mp h with h | h
          · exact absurd h.symm z
          · exact h)]
  · rename_i h
    rw [put_new (by rw [mTr_keys]; exact h)]
    unfold mTr
    rw [List.map_append]
    rfl
/-- from each house doors lead on to a cup -/
theorem reach_cup {c : Int} {D : Dl} {rank : Nat → Nat} (o : WebOk c D rank) : ∀ (r h : Nat), h < D.length → rank h ≤ r → ∃ x : Int, x < 0 ∧ Reach (doorsG D D.length) (h : Int) x := by
  intro r
  induction r using Nat.strongRecOn with
  | ind r ih =>
    intro h hh hr
    have hd := List.getElem?_eq_getElem hh
    have hm := List.getElem_mem hh
    obtain ⟨n, p, e, _, e3⟩ := o.low h 0 _ hd (o.d1 _ hm)
    obtain ⟨d', ps, k1, k2, k3⟩ := pairAt_some e
    rw [hd] at k1
    cases k1
    have hg : p.1 ∈ gl (doorsG D D.length) (h : Int) := by
      unfold gl
      rw [doorsG_look hh, hd]
      simp only [Option.getD_some]
      rw [(sortI_perm _).mem_iff, (doorKs_ok (o.sm.pl _ hm)).2.2]
      exact ⟨ps, List.mem_of_getElem? k2, p, List.mem_of_getElem? k3, rfl⟩
    by_cases z : p.1 < 0
    · exact ⟨p.1, z, .one hg⟩
    · have ib := o.inb _ hm ps (List.mem_of_getElem? k2) p (List.mem_of_getElem? k3)
      rcases e3 with e3 | e3
      · exact absurd e3 z
      · obtain ⟨x, x0, rx⟩ := ih (rank p.1.toNat) (by omega) p.1.toNat (by omega) (Nat.le_refl _)
        rw [Int.toNat_of_nonneg (by omega)] at rx
        refine ⟨x, x0, ?_⟩
        have tr : ∀ {y}, Reach (doorsG D D.length) p.1 y → Reach (doorsG D D.length) (h : Int) y := fun {y} r => by
          induction r with
          | one h2 => exact .more (.one hg) h2
          | more _ h2 ih2 => exact .more ih2 h2
        exact tr rx
inductive Rdoors (c : Int) (rank : Nat → Nat) : List Ty → Ty → Prop
  | mk (D : Dl) (o : WebOk c D rank) : Rdoors c rank [yDl D] (yGl (doorsG D D.length))
inductive Rdoorsof : List Ty → Ty → Prop
  | mk (c : Int) (D : Dl) (rank : Nat → Nat) (o : WebOk c D rank) : Rdoorsof [yDl D] (yGl (doorsG D D.length))
inductive Rcheck : List Ty → Ty → Prop
  | mk (c : Int) (D : Dl) (rank : Nat → Nat) (o : WebOk c D rank) : Rcheck [yI c, yDl D] yN
inductive Rwebinit : List Ty → Fs → Prop
  | mk (c : Int) (D : Dl) (rank : Nat → Nat) (o : WebOk c D rank) : Rwebinit [yI c, yDl D] (fW c D)
section
variable {P : Program} {w : World} {K : PySem.W.Frag} {mg : Str → Option Value} {base : Heap} {CW : Addr}
theorem ok_doors (D : Def K mg "doors_of" s_doors_of ["dealers"]) (bl : Blt mg) : Cal P w K mg base "doors_of" 1 ["dealers"] (spG Rdoorsof) := by
  have sc := sc_doors_of
  refine D.ok sc (fun Ts T r => by cases r; rfl) (fun f cdv A outer s H vs E B Ts T r sb a hr => ?_)
  refine ⟨_, (pss_cons (ps_set (i := 1) sc.nd rfl (.inl rfl) pe_dnewK)
(pss_cons (ps_for PassesOwn.never rfl (pi_enumT (by rfl) bl.enumerate_ (pa_cons (pv 0) pa_nil)) (pg_tup (by rfl) (pgs_cons (pg_name (i := 2) sc.nd rfl (.inl rfl)) (pgs_cons (pg_name (i := 3) sc.nd rfl (.inl rfl)) pgs_nil)))
  (pss_one (ps_dput (hu_of hr) (pv 1) (pv 2) (pb_sortD bl.sorted_ (pa_cons (pe_dg2 (o := .dK []) (.inl rfl) (hu_of hr) (vs1 := [5]) (own := [("part", 4), ("pair", 5)]) (g := (gName 4)) (tt := _) (by rfl) sc.nd (pi_tupK K rfl (pv 3)) (blkOk_by (by kernel_rfl)) (by decide) (fun _ _ _ _ _ => (pg_name (i := 4) sc.nd rfl (.inl rfl))) (fun _ _ _ _ _ => pts_nil) (fun _ _ _ _ _ => (pi_tupK K rfl (pv 4))) (fun _ _ _ _ _ => (pg_name (i := 5) sc.nd rfl (.inl rfl))) (fun _ _ _ _ _ => pts_nil) (fun _ _ _ _ _ => (pe_ix (ix_tupK K rfl) (pv 5) pe_int (fun _ _ => rfl))) (fun _ _ _ _ _ => pe_bl)) pa_nil)) rfl)))
(pss_one (ps_ret (pv 1))))), fun Q q => ?_⟩
  cases r with
  | mk c D rank o =>
  obtain ⟨v1, rfl, h1⟩ := all1 a
  have hD3 := o.sm.hl
  refine hq_newI sb fun d H1 g1 hd w1 => ?_
  refine sq_for g1.in_ (gi_enumT (gv_var (i := 0) rfl h1 g1.bs) isTu_t) (fun i σ B2 H2 => ∃ n2 n3 n4 n5, σ = [some v1, some (.ref d), n2, n3, n4, n5] ∧ Ow d (oI (mGl (doorsG D i))) B2 H2 ∧ Gr B H B2 H2)
    (fun B2 H2 g2 => ⟨_, _, _, _, rfl, w1.m g2, g1.trans g2⟩) (fun Bs i z σ B2 H2 B3 H3 hi s1 s2 s3 hP g3 hz => ?_) (fun σ B2 H2 s1 s2 hP => ?_)
  · obtain ⟨n2, n3, n4, n5, rfl, w2, gg⟩ := hP
    rw [List.length_map] at hi
    obtain ⟨dl, hdl⟩ : ∃ r, D[i]? = some r := ⟨_, List.getElem?_eq_getElem hi⟩
    rw [hT_map i dl hdl] at hz
    have memd := List.mem_of_getElem? hdl
    have d3 := o.sm.dl dl memd
    have p3 := o.sm.pl dl memd
    refine g_tup2 hz g3.in_ fun vh vd hvh hvd => ?_
    obtain rfl : vh = .int (i : Int) := hvh
    have w3 := w2.m g3
    obtain ⟨k1, k2, k3⟩ := doorKs_ok p3
    have tk : ∀ j ps, dl[j]? = some ps → doorKs (dl.take (j + 1)) = doorFold (doorKs (dl.take j)) ps := fun j ps e => by
      unfold doorKs
      rw [List.take_add_one, e, Option.toList_some, List.foldl_append]
      rfl
    have tk2 : ∀ (ks : List Int) (ps : List (Int × Int)) k p, ps[k]? = some p → doorFold ks (ps.take (k + 1)) = addK (doorFold ks (ps.take k)) p.1 := fun ks ps k p e => by
      unfold doorFold
      rw [List.take_add_one, e, Option.toList_some, List.foldl_append]
      rfl
    refine ht_dputI (ki := (i : Int)) (T := yL ((sortI (doorKs dl)).map fun i => yI i)) (is_var rfl) w3 g3.in_ (by rw [mGl_keys, doorsG_keys]; exact nat_nd) (by
      unfold mGl doorsG
      rw [List.length_map, List.length_map, List.length_range]
      omega) (Gv.h (Gv.imp (gv_sortD (A := (oI (mTr (doorKs (dl.take (dl.map ySt).length)))).ty) (mi := mTr (doorKs (dl.take (dl.map ySt).length))) (gv_dg (RR := fun j => oI (mTr (doorKs (dl.take j)))) (fun _ => ⟨[], rfl, trivial⟩) (gi_tup (gv_var (i := 3) rfl hvd (Same.refl _)) isTu_t) fun j x B4 H4 hj s4 s5 hx R r => ?_) isDI_o ?_) fun v B' _ hv => ?_) g3.in_) (gv_v (i := 2) rfl) fun B5 H5 o5 g5 w5 => ?_
    · rw [List.length_map] at hj
      have e : dl[j]? = some dl[j] := List.getElem?_eq_getElem hj
      rw [hT_map j _ e] at hx
      refine r _ rfl true gt_yes (fun _ => ?_) (fun z => nomatch z)
      have key := rb_for (wi := iTup K (tVar 4)) (rb := rPut (tOp (rIxT K) (tVar 5) (tC (.int 0))) (tC (.bl true))) (RR := fun k => oI (mTr (doorFold (doorKs (dl.take j)) (dl[j].take k)))) (σ := [some v1, some (.ref d), some (.int (i : Int)), some vd, some x, none]) (g := gName 5) (tt := tYes) (vs := [5]) (gi_tup (gv_var (i := 4) rfl hx (Same.refl _)) isTu_t) fun k y B6 H6 hk s6 s7 hy Rq r => ?_
      · rw [List.length_map, List.take_length, ← tk j _ e] at key
        exact key
      · rw [List.length_map] at hk
        have e2 : (dl[j])[k]? = some (dl[j])[k] := List.getElem?_eq_getElem hk
        rw [hT_map k _ e2] at hy
        refine r _ rfl true gt_yes (fun _ => ?_) (fun z => nomatch z)
        show RbO _ _ _ (oI (mTr (doorFold (doorKs (dl.take j)) (dl[j].take k)))) (oI (mTr (doorFold (doorKs (dl.take j)) (dl[j].take (k + 1)))))
        rw [tk2 _ _ _ _ e2, ← mTr_put]
        obtain ⟨b1, b2, b3⟩ := doorKs_ok (M := 3) (d := dl.take j) fun ps hps => p3 ps (List.take_subset _ _ hps)
        obtain ⟨f1, f2, f3⟩ := doorFold_ok (dl[j].take k) (doorKs (dl.take j))
        have hp3 := p3 _ (List.mem_of_getElem? e)
        refine rb_putI (gv_ixT (i := 0) (j := 0) (gv_var (i := 5) rfl hy (Same.refl _)) gv_c isTu_t rfl rfl) gv_c (by rw [mTr_keys]; exact f1 b1) ?_
        rw [List.length_map]
        rw [List.length_take] at b2 f2
        have : min j dl.length * 3 ≤ 9 := by
          have : min j dl.length ≤ 3 := by omega
          omega
        omega
    · rw [List.length_map, List.length_map, List.take_length]
      have : dl.length * 3 ≤ 9 := by omega
      omega
    · rw [List.length_map, List.take_length, mTr_keys] at hv
      exact srt_imp hv
    · refine ⟨B5, s2.trans (g3.bs.trans g5.bs), (w3.m g5).same g5.in_, _, _, _, _, rfl, ?_, ((gg.trans g3).trans g5).put (w3.m g5) hd⟩
      have e : mGl (doorsG D (i + 1)) = put (mGl (doorsG D i)) (i : Int) (yL ((sortI (doorKs dl)).map fun i => yI i)) := by
        rw [doorsG_succ hdl, put_new (by
          rw [mGl_keys, doorsG_keys]
          intro hm
          obtain ⟨j, hj, e2⟩ := List.mem_map.mp hm
          have := List.mem_range.mp hj
          omega)]
        unfold mGl
        rw [List.map_append]
        rfl
      rw [e]
      exact w5
  · obtain ⟨n2, n3, n4, n5, rfl, w2, gg⟩ := hP
    rw [List.length_map] at w2
    obtain ⟨B3, g3, s3, h3⟩ := w2.pub gg hd
    exact st_ret g3.in_ (gv_var (i := 1) rfl (oI_ty h3) (Same.refl _)) fun v B' H' g hv => q v B' H' (g3.trans g) hv
theorem met_sm {c : Int} {D : Dl} {rank : Nat → Nat} (o : WebOk c D rank) : (∀ (h : Nat) d, D[h]? = some d → (sortI (doorKs d)).length ≤ 9) ∧ wsum [] (doorsG D D.length) ≤ 27 := by
  have h3 : ∀ (h : Nat) d, D[h]? = some d → (sortI (doorKs d)).length ≤ 9 := fun h d e => by
    have hm := List.mem_of_getElem? e
    have := (doorKs_ok (o.sm.pl d hm)).2.1
    have := o.sm.dl d hm
    rw [(sortI_perm _).length_eq]
    omega
  refine ⟨h3, ?_⟩
  have key : ∀ i, i ≤ D.length → wsum [] (doorsG D i) ≤ 9 * i := by
    have app : ∀ (G : Goals) (p : Int × List Int), wsum [] (G ++ [p]) = wsum [] G + p.2.length := by
      intro G p
      induction G with
      | nil => simp [wsum]
      | cons q G ih =>
        show wsum [] (q :: (G ++ [p])) = _
        unfold wsum
        rw [ih]
        simp
        omega
    intro i
    induction i with
    | zero => intro _; exact Nat.le_refl _
    | succ i ih =>
      intro hi
      have e : D[i]? = some D[i] := List.getElem?_eq_getElem (by omega)
      rw [doorsG_succ e, app]
      have := ih (by omega)
      have := h3 _ _ e
      simp only
      omega
  have := key D.length (Nat.le_refl _)
  have := o.sm.hl
  omega
theorem ok_check (D : Def K mg "check_web" s_check_web ["cups", "dealers"]) (bl : Blt mg) (gMOST_CUPS : Gc mg "MOST_CUPS" (.int 6)) (gMOST_HOUSES : Gc mg "MOST_HOUSES" (.int 8)) (c_is_within : Cal P w K mg base "is_within" 2 ["thing", "least", "most"] (spG Rwithin)) (c_is_dealer : Cal P w K mg base "is_dealer" 4 ["thing", "cups", "houses"] (spG Rdealer)) (c_is_joined : Cal P w K mg base "is_joined" 2 ["dealer"] (spG Rjoined))
    (c_doors_of : Cal P w K mg base "doors_of" 1 ["dealers"] (spG Rdoorsof)) (c_met_from : Cal P w K mg base "met_from" 1 ["begin", "goals"] (spG Rmet)) : Cal P w K mg base "check_web" 5 ["cups", "dealers"] (spG Rcheck) := by
  have sc := sc_check_web
  refine D.ok sc (fun Ts T r => by cases r; rfl) (fun f cdv A outer s H vs E B Ts T r sb a hr => ?_)
  refine ⟨_, (pss_cons (ps_if (pt_not (pt_val (pe_cl c_is_within (hr.mono (by decide)) (pa_cons (pv 0) (pa_cons pe_int (pa_cons (pe_gc gMOST_CUPS) pa_nil))))))
  (pss_one ps_never)
  pss_nil)
(pss_cons (ps_if (PW.pt (pw_or (pt_not (pt_val (pb_isi bl.isinstance_ (pa_cons (pv 1) (pa_cons (pe_bltn (v := .ty "tuple") (by rfl) bl.tuple_ (by decide +kernel) rfl) pa_nil))))) (pw_or1 (pt_not (pt_chain op_le op_le pe_int (pb_lenK K rfl bl.len_ (pa_cons (pv 1) pa_nil)) (pe_gc gMOST_HOUSES))))))
  (pss_one ps_never)
  pss_nil)
(pss_cons (ps_for PassesOwn.never rfl (pi_enumT (by rfl) bl.enumerate_ (pa_cons (pv 1) pa_nil)) (pg_tup (by rfl) (pgs_cons (pg_name (i := 2) sc.nd rfl (.inl rfl)) (pgs_cons (pg_name (i := 3) sc.nd rfl (.inl rfl)) pgs_nil)))
  (pss_one (ps_if (pt_not (pt_val (pe_cl c_is_dealer (hr.mono (by decide)) (pa_cons (pv 3) (pa_cons (pv 0) (pa_cons (pb_lenK K rfl bl.len_ (pa_cons (pv 1) pa_nil)) pa_nil))))))
  (pss_one ps_never)
  pss_nil)))
(pss_cons (ps_for PassesOwn.never rfl (pi_enumT (by rfl) bl.enumerate_ (pa_cons (pv 1) pa_nil)) (pg_tup (by rfl) (pgs_cons (pg_name (i := 2) sc.nd rfl (.inl rfl)) (pgs_cons (pg_name (i := 3) sc.nd rfl (.inl rfl)) pgs_nil)))
  (pss_one (ps_if (pt_not (pt_val (pe_cl c_is_joined (hr.mono (by decide)) (pa_cons (pv 3) pa_nil))))
  (pss_one ps_never)
  pss_nil)))
(pss_cons (ps_set (i := 4) sc.nd rfl (.inl rfl) (pe_cl c_doors_of (hr.mono (by decide)) (pa_cons (pv 1) pa_nil)))
(pss_one (ps_for PassesOwn.never rfl (pi_range1 (by rfl) bl.range_ (pa_cons (pb_lenK K rfl bl.len_ (pa_cons (pv 1) pa_nil)) pa_nil)) (pg_name (i := 2) sc.nd rfl (.inl rfl))
  (pss_one (ps_if (pt_cmpR op_ge (pb_min bl.min_ (pa_cons (pe_cl c_met_from (hr.mono (by decide)) (pa_cons (pv 2) (pa_cons (pv 4) pa_nil))) pa_nil)) pe_int (nomark _))
  (pss_one ps_never)
  pss_nil))))))))), fun Q q => ?_⟩
  cases r with
  | mk c D rank o =>
  obtain ⟨v1, v2, rfl, rfl, h2⟩ := all2 a
  have hD3 := o.sm.hl
  have hD1 := o.h1
  have c1 := o.c1
  have c3 := o.c3
  obtain ⟨ms1, ms2⟩ := met_sm o
  have hR1 := Rwithin.mk c 1 6
  have k1 : (decide (1 ≤ c) && decide (c ≤ 6)) = true := by rw [decide_eq_true c1, decide_eq_true (by omega)]; rfl
  rw [k1] at hR1
  refine sq_if0 sb (GvT.cast (b := !true) (gt_not (gt_test (gv_cl (ga_3 (gv_v (i := 0) rfl) gv_c gv_c) (gives_G (R := Rwithin) hR1)))) rfl) fun B1 H1 g1 => ?_
  refine sq_if0 g1.in_ (GvT.cast (b := !true || !(decide ((1 : Int) ≤ (((D.map yHs).length : Nat) : Int)) && decide ((((D.map yHs).length : Nat) : Int) ≤ 8))) (gt_or (gt_not (gt_test (gv_isi (gv_var (i := 1) rfl h2 g1.bs) gv_c isa_tup kit_tt))) fun _ => gt_not (gt_test (gv_chainI (i := 1) (k := 8) gv_c (gv_lenT (gv_var (i := 1) rfl h2 g1.bs) isTu_t) gv_c))) (by
    rw [List.length_map]
    have e1 : decide ((1 : Int) ≤ (((D.length : Nat)) : Int)) = true := decide_eq_true (by omega)
    have e2 : decide ((((D.length : Nat)) : Int) ≤ 8) = true := decide_eq_true (by omega)
    rw [e1, e2]; rfl)) fun B2 H2 g2 => ?_
  have gg2 := g1.trans g2
  refine sq_for g2.in_ (gi_enumT (gv_var (i := 1) rfl h2 gg2.bs) isTu_t) (fun i σ B3 H3 => ∃ n2 n3 n4, σ = [some (.int c), some v2, n2, n3, n4] ∧ Gr B H B3 H3)
    (fun B3 H3 g3 => ⟨_, _, _, rfl, gg2.trans g3⟩) (fun Bs i z σ B3 H3 B4 H4 hi s1 s2 s3 hP g4 hz => ?_) (fun σ B3 H3 s1 s2 hP => ?_)
  · obtain ⟨n2, n3, n4, rfl, gg⟩ := hP
    rw [List.length_map] at hi
    obtain ⟨dl, hdl⟩ : ∃ r, D[i]? = some r := ⟨_, List.getElem?_eq_getElem hi⟩
    rw [hT_map i dl hdl] at hz
    refine g_tup2 hz g4.in_ fun vh vd hvh hvd => ?_
    refine st_if0 (B := B4) g4.in_ (GvT.cast (b := !true) (gt_not (gt_test (gv_cl (ga_3 (gv_var (i := 3) rfl hvd (Same.refl _)) (gv_v (i := 0) rfl) (gv_lenT (gv_var (i := 1) rfl h2 (gg.bs.trans g4.bs)) isTu_t)) (gives_G (R := Rdealer) (.mk dl c _ (by rw [List.length_map]; exact house_ok o hdl)))))) rfl) fun B5 H5 g5 => ?_
    exact ⟨B5, s2.trans (g4.bs.trans g5.bs), g5.in_, _, _, _, rfl, (gg.trans g4).trans g5⟩
  · obtain ⟨n2, n3, n4, rfl, gg⟩ := hP
    refine sq_for s2 (gi_enumT (gv_var (i := 1) rfl h2 gg.bs) isTu_t) (fun i σ B3 H3 => ∃ n2 n3 n4, σ = [some (.int c), some v2, n2, n3, n4] ∧ Gr B H B3 H3)
      (fun B3 H3 g3 => ⟨_, _, _, rfl, gg.trans g3⟩) (fun Bs i z σ B3 H3 B4 H4 hi s1 s2 s3 hP g4 hz => ?_) (fun σ B5 H5 s1 s5 hP => ?_)
    · obtain ⟨n2, n3, n4, rfl, gg⟩ := hP
      rw [List.length_map] at hi
      obtain ⟨dl, hdl⟩ : ∃ r, D[i]? = some r := ⟨_, List.getElem?_eq_getElem hi⟩
      rw [hT_map i dl hdl] at hz
      refine g_tup2 hz g4.in_ fun vh vd hvh hvd => ?_
      refine st_if0 (B := B4) g4.in_ (GvT.cast (b := !true) (gt_not (gt_test (gv_cl (ga_1 (gv_var (i := 3) rfl hvd (Same.refl _))) (gives_G (R := Rjoined) (.mk dl c _ (house_ok o hdl)))))) rfl) fun B5 H5 g5 => ?_
      exact ⟨B5, s2.trans (g4.bs.trans g5.bs), g5.in_, _, _, _, rfl, (gg.trans g4).trans g5⟩
    · obtain ⟨n2, n3, n4, rfl, gg⟩ := hP
      refine sq_set (i := 4) (T := yGl (doorsG D D.length)) s5 (gv_cl (ga_1 (gv_var (i := 1) rfl h2 gg.bs)) (gives_G (R := Rdoorsof) (.mk c D rank o))) fun v4 B6 H6 g6 hv4 => ?_
      have gg6 := gg.trans g6
      refine st_for g6.in_ (gi_rng1 (n := ((D.map yHs).length : Nat)) (gv_lenT (gv_var (i := 1) rfl h2 gg6.bs) isTu_t) (by rw [List.length_map]; omega) (by omega)) (fun i σ B3 H3 => ∃ n2 n3, σ = [some (.int c), some v2, n2, n3, some v4] ∧ Gr B H B3 H3 ∧ (yGl (doorsG D D.length)).p v4 B3)
        (fun B3 H3 g3 => ⟨_, _, rfl, gg6.trans g3, (yGl _).m g3.bs hv4⟩) (fun Bs i z σ B3 H3 B4 H4 hi s1 s2 s3 hP g4 hz => ?_) (fun σ B7 H7 s1 s7 hP => ?_)
      · obtain ⟨n2, n3, rfl, gg, hv43⟩ := hP
        rw [List.length_map] at hi
        have hi : i < D.length := by simpa using hi
        obtain rfl : z = .int (i : Int) := hz
        have hv44 := (yGl _).m g4.bs hv43
        obtain ⟨x, x0, rx⟩ := reach_cup o (rank i) i hi (Nat.le_refl _)
        refine st_if0 (B := B4) g4.in_ (gt_test (gv_ex (fun te => tOp (rI0 fun i j => .bl (decide (i ≥ j))) (tCB (rMin K) (tCons te tNil)) (tC (.int 0))) (fun _ _ _ _ => rfl) (gv_cl (ga_2 (gv_v (i := 2) rfl) (Gv.imp (gv_var (i := 4) rfl hv44 (Same.refl _)) fun v B' _ h => isDI_s v B' h)) (gives_G (R := Rmet) (.mk (doorsG D D.length) (i : Int) _ (doorsG_look hi) (by
          have e : D[i]? = some D[i] := List.getElem?_eq_getElem hi
          have := ms1 i _ e
          rw [e]
          simp only [Option.getD_some]
          omega)))) fun ns v B5 ⟨nd, hns⟩ s5 hv5 => ?_)) fun B5 H5 g5 => ?_
        · have hx : x ∈ ns := (hns x).mpr rx
          refine gv_op (gv_min (ns := ns) (gv_ct hv5 (Same.refl _)) (List.length_pos_of_mem hx)) gv_c fun a b B6 H6 _ s6 ⟨m, e, _, m2⟩ hb Q q => ?_
          obtain rfl : b = .int 0 := hb
          refine ⟨m, 0, e, rfl, q _ B6 H6 (Gr.refl s6) ?_⟩
          show V.bl (decide (m ≥ 0)) = V.bl false
          rw [decide_eq_false (by have := m2 x hx; omega)]
        · exact ⟨B5, s2.trans (g4.bs.trans g5.bs), g5.in_, _, _, rfl, (gg.trans g4).trans g5, (yGl _).m g5.bs hv44⟩
      · obtain ⟨n2, n3, rfl, gg, _⟩ := hP
        exact q .non B7 H7 gg rfl
theorem ok_webinit (D : DefI K mg CW "Web" "Web.__init__" s_Web___init__ ["self", "cups", "dealers"]) (cW : ClsF K CW nsW) (c_check_web : Cal P w K mg base "check_web" 5 ["cups", "dealers"] (spG Rcheck)) : CalI P w K mg base CW "Web" 6 ["self", "cups", "dealers"] (spN CW Rwebinit) := by
  have sc := sc_Web___init__
  refine D.ok sc (fun vs H Q E h => ?_) (fun f cdv A outer s H vs Q E hr h => ?_)
  · obtain ⟨x, dx, rest, H1, B, Ts, fs, rfl, r, hx, hdx, ne, e, sb, a, q⟩ := h
    cases r
    rw [List.length_cons, a.len]
    rfl
  · obtain ⟨x, dx, rest, H1, B, Ts, fs, rfl, r, hx, hdx, ne, rfl, sb, a, q⟩ := h
    refine ⟨_, (pss_cons (ps_expr (pe_cl c_check_web (hr.mono (by decide)) (pa_cons (pv 1) (pa_cons (pv 2) pa_nil))))
(pss_cons (ps_fld (pv 0) (pv 1) rfl)
(pss_one (ps_fld (pv 0) (pv 2) rfl)))), ?_⟩
    cases r with
    | mk c D rank o =>
    obtain ⟨v1, v2, rfl, h1, h2⟩ := all2 a
    obtain ⟨g0, w0⟩ := init_start (C := CW) hx hdx ne sb
    refine sq_drop (T := yN) g0.in_ (gv_cl (ga_2 (gv_var (i := 1) rfl h1 (Same.refl _)) (gv_var (i := 2) rfl h2 (Same.refl _))) (gives_G (R := Rcheck) (.mk c D rank o))) fun v B2 H2 g2 _ => ?_
    have w2 := w0.m g2
    have gg2 := g0.trans g2
    refine hq_fnew (is_var rfl) w2 cW (by decide) (by decide) (by decide) (Gv.h (T := yI c) (gv_var (i := 1) rfl h1 gg2.bs) gg2.in_) fun B3 H3 o3 g3 w3 => ?_
    have gg3 : Gr B H1 B3 (upd H3 x o3) := (gg2.trans g3).put (w2.m g3) hx
    refine ht_fnew (is_var rfl) w3 cW (by decide) (by walk_at "nm") (by simp) (Gv.h (T := yDl D) (gv_var (i := 2) rfl h2 gg3.bs) gg3.in_) fun B4 H4 o4 g4 w4 => ?_
    exact q B4 _ ((gg3.trans g4).put (w3.m g4) hx) w4
end
end LD
set_option maxRecDepth 100000
set_option maxHeartbeats 400000
/-! LdDice: the dice, an owned list that draws change. -/
namespace LD
open PySem PyProof.Rows L2
/-- cells, how far, the great cell, the seed, the count -/
def oDice : OT := ⟨fun o H => ∃ (cells : List Int) (i : Nat) (g a n : Int), i ≤ cells.length ∧ (oL [yL (cells.map fun c => yI c), yI (i : Int), yI g, yI a, yI n]).p o H, fun s ⟨cells, i, g, a, n, h0, h⟩ => ⟨cells, i, g, a, n, h0, (oL _).m s h⟩, fun ⟨_, _, _, _, _, _, h⟩ => (oL _).nt h⟩
/-- an int with a property -/
def yP (p : Int → Prop) : Ty := ⟨fun v _ => ∃ i, v = .int i ∧ p i, fun _ h => h⟩
theorem yP_I {p : Int → Prop} {i : Int} {v : V} {B : Hp} (h : (yI i).p v B) (hp : p i) : (yP p).p v B := ⟨i, h, hp⟩
structure GrD (d : Addr) (B H B' H' : Hp) : Prop where
  g : Gr B (cut H [d]) B' H'
  o : Ow d oDice B' H'
theorem GrD.refl {d : Addr} {B H : Hp} (s : Same B H) (o : Ow d oDice B H) : GrD d B H B H := ⟨Gr.cut0 s fun x hx => by rw [List.mem_singleton.mp hx]; exact o.nb, o⟩
theorem GrD.of {d : Addr} {B H B' H' : Hp} (o : Ow d oDice B H) (s : Same B H) (g : Gr B H B' H') : GrD d B H B' H' := ⟨(GrD.refl s o).g.trans g, o.m g⟩
theorem GrD.trans {d : Addr} {B H B1 H1 B2 H2 : Hp} (a : GrD d B H B1 H1) (b : GrD d B1 H1 B2 H2) : GrD d B H B2 H2 := ⟨a.g.cuts (fun x hx => hx) b.g, b.o⟩
theorem GrD.and {d : Addr} {B H B1 H1 B2 H2 : Hp} (a : GrD d B H B1 H1) (b : Gr B1 H1 B2 H2) : GrD d B H B2 H2 := ⟨a.g.trans b, a.o.m b⟩
/-- another owned one, over draws -/
theorem Ow.dice {d e : Addr} {R : OT} {B H B' H' : Hp} (w : Ow e R B H) (ne : e ≠ d) (k : GrD d B H B' H') : Ow e R B' H' := w.over (by simp [ne]) k.g
/-- it changes -/
theorem GrD.put {d e : Addr} {R : OT} {o : HO} {B H B' H' : Hp} (a : GrD d B H B' H') (w : Ow e R B' H') (ne : e ≠ d) (n : H e = none) : GrD d B H B' (upd H' e o) := ⟨a.g.put w (by rw [cut_out (by simp [ne])]; exact n), a.o.else (Ne.symm ne)⟩
/-- published at last -/
theorem GrD.pub {d e : Addr} {R : OT} {B H B' H' : Hp} (a : GrD d B H B' H') (w : Ow e R B' H') (ne : e ≠ d) (n : H e = none) : ∃ B1, GrD d B H B1 H' ∧ Same B' B1 ∧ R.ty.p (.ref e) B1 := by
  obtain ⟨o, h, k⟩ := w.ex
  refine ⟨_, ⟨a.g.pub h (by rw [cut_out (by simp [ne])]; exact n) w.nb, ?_⟩, same_new w.nb, e, o, rfl, upd_same, R.m (same_new w.nb) k⟩
  obtain ⟨o2, h2, k2⟩ := a.o.ex
  exact ⟨by rw [upd_ne (Ne.symm ne)]; exact a.o.nb, o2, h2, oDice.m (same_new w.nb) k2⟩
/-- readings that may draw -/
def Gd (d : Addr) (te : TE) (σ : L2.St) (B : Hp) (T : Ty) : Prop := ∀ B1 H, Same B B1 → Same B1 H → Ow d oDice B1 H → ∀ Q : VK, (∀ v B' H', GrD d B1 H B' H' → T.p v B' → Q v H') → te σ H Q
def GdA (d : Addr) (ta : TA) (σ : L2.St) (B : Hp) (Ts : List Ty) : Prop := ∀ B1 H, Same B B1 → Same B1 H → Ow d oDice B1 H → ∀ Q : List V → Hp → Prop, (∀ vs B' H', GrD d B1 H B' H' → All Ts vs B' → Q vs H') → ta σ H Q
def GdT (d : Addr) (tt : TT) (σ : L2.St) (B : Hp) (p : Bool → Prop) : Prop := ∀ B1 H, Same B B1 → Same B1 H → Ow d oDice B1 H → ∀ Q : Bool → Hp → Prop, (∀ b B' H', GrD d B1 H B' H' → p b → Q b H') → tt σ H Q
section
variable {d : Addr} {σ : L2.St} {B H B' : Hp} {T A C : Ty} {te ta tb : TE} {tt t u : TT} {Ts : List Ty} {D : Ends} {tu tw tz : TS}
theorem Gd.m (s : Same B B') (h : Gd d te σ B T) : Gd d te σ B' T := fun B1 H s1 => h B1 H (s.trans s1)
theorem GdT.m {p : Bool → Prop} (s : Same B B') (h : GdT d tt σ B p) : GdT d tt σ B' p := fun B1 H s1 => h B1 H (s.trans s1)
theorem gd_gv (h : Gv te σ B T) : Gd d te σ B T := fun B1 H s s1 o Q q => (h.m s) H s1 Q fun v B2 H2 g hv => q v B2 H2 (GrD.of o s1 g) hv
theorem gdt_gt {b : Bool} {p : Bool → Prop} (h : GvT tt σ B b) (hp : p b) : GdT d tt σ B p := fun B1 H s s1 o Q q => (h.m s) H s1 Q fun B2 H2 g => q b B2 H2 (GrD.of o s1 g) hp
theorem Gd.imp (h : Gd d te σ B A) (k : ∀ v B1, Same B B1 → A.p v B1 → C.p v B1) : Gd d te σ B C := fun B1 H s s1 o Q q => h B1 H s s1 o Q fun v B2 H2 g hv => q v B2 H2 g (k v B2 (s.trans g.g.bs) hv)
theorem gda_nil : GdA d tNil σ B [] := fun B1 H s s1 o Q q => q [] B1 H (GrD.refl s1 o) trivial
theorem gda_cons {tr : TA} (h : Gd d ta σ B A) (hr : GdA d tr σ B Ts) : GdA d (tCons ta tr) σ B (A :: Ts) := fun B1 H s s1 o Q q =>
  h B1 H s s1 o _ fun v B2 H2 g hv => hr B2 H2 (s.trans g.g.bs) g.g.in_ g.o _ fun vs B3 H3 g2 hvs => q _ B3 H3 (g.trans g2) ⟨A.m g2.g.bs hv, hvs⟩
theorem gda_1 (h : Gd d ta σ B A) : GdA d (tCons ta tNil) σ B [A] := gda_cons h gda_nil
theorem gda_2 (h : Gd d ta σ B A) (h2 : Gd d tb σ B C) : GdA d (tCons ta (tCons tb tNil)) σ B [A, C] := gda_cons h (gda_1 h2)
theorem gd_tup {tr : TA} (h : GdA d tr σ B Ts) (hl : Ts.length ≤ 100000) : Gd d (L2.tTup tr) σ B (yT Ts) := fun B1 H s s1 o Q q =>
  h B1 H s s1 o _ fun vs B2 H2 g hvs => ⟨size_1000 (by rw [hvs.len]; exact hl), fun p hp => q _ _ _ (g.and (Gr.new g.g.in_ hp)) ⟨p, vs, rfl, upd_same, hvs.m (same_new (g.g.in_.free hp))⟩⟩
/-- a call whose promise needs published arguments alone -/
theorem gd_cl {sp : Sp} {tr : TA} (h : GdA d tr σ B Ts) (g : Gives sp Ts T) : Gd d (tCl sp tr) σ B T := fun B1 H s s1 o Q q =>
  h B1 H s s1 o _ fun vs B2 H2 g2 hvs => g vs B2 H2 g2.g.in_ hvs Q E0 fun v B3 H3 g3 hv => q v B3 H3 (g2.and g3) hv
theorem gd_op {r : R2} (ha : Gd d ta σ B A) (hb : Gd d tb σ B C) (hr : ∀ x y B1 H1, Same B B1 → Same B1 H1 → A.p x B1 → C.p y B1 → ∀ Q : VK, Post B1 H1 T Q → r x y H1 Q) : Gd d (tOp r ta tb) σ B T :=
  fun B1 H s s1 o Q q => ha B1 H s s1 o _ fun x B2 H2 g hx => hb B2 H2 (s.trans g.g.bs) g.g.in_ g.o _ fun y B3 H3 g2 hy => hr x y B3 H3 (s.trans (g.g.bs.trans g2.g.bs)) g2.g.in_ (A.m g2.g.bs hx) hy Q fun v B4 H4 g4 hv => q v B4 H4 ((g.trans g2).and g4) hv
theorem gd_I0 {f : Int → Int → Int} {p q r : Int → Prop} (ha : Gd d ta σ B (yP p)) (hb : Gd d tb σ B (yP q)) (h : ∀ i j, p i → q j → r (f i j)) : Gd d (tOp (rI0 fun i j => .int (f i j)) ta tb) σ B (yP r) :=
  gd_op ha hb fun x y B1 H1 _ s ⟨i, ei, hi⟩ ⟨j, ej, hj⟩ Q k => ⟨i, j, ei, ej, k _ B1 H1 (Gr.refl s) ⟨_, rfl, h i j hi hj⟩⟩
theorem gd_i {i : Int} {p : Int → Prop} (h : Gv te σ B (yI i)) (hp : p i) : Gd d te σ B (yP p) := (gd_gv h).imp fun v B1 _ hv => yP_I hv hp
theorem gd_if {p : Bool → Prop} (h : GdT d t σ B p) (h1 : p true → Gd d ta σ B T) (h2 : p false → Gd d tb σ B T) : Gd d (tIf t ta tb) σ B T := fun B1 H s s1 o Q q =>
  h B1 H s s1 o _ fun b B2 H2 g hp => by
    cases b with
    | true =>
      show ta σ H2 Q
      exact h1 hp B2 H2 (s.trans g.g.bs) g.g.in_ g.o Q fun v B3 H3 g3 hv => q v B3 H3 (g.trans g3) hv
    | false =>
      show tb σ H2 Q
      exact h2 hp B2 H2 (s.trans g.g.bs) g.g.in_ g.o Q fun v B3 H3 g3 hv => q v B3 H3 (g.trans g3) hv
theorem gdt_and {p q : Bool → Prop} (h1 : GdT d t σ B p) (h2 : p true → GdT d u σ B q) (hf : p false → q false) : GdT d (tAnd t u) σ B q := fun B1 H s s1 o Q k =>
  h1 B1 H s s1 o _ fun b B2 H2 g hp => by
    cases b with
    | true =>
      show u σ H2 Q
      exact h2 hp B2 H2 (s.trans g.g.bs) g.g.in_ g.o Q fun b B3 H3 g3 hb => k b B3 H3 (g.trans g3) hb
    | false => exact k false B2 H2 g (hf hp)
theorem gdt_or {p q : Bool → Prop} (h1 : GdT d t σ B p) (h2 : p false → GdT d u σ B q) (hf : p true → q true) : GdT d (tOr t u) σ B q := fun B1 H s s1 o Q k =>
  h1 B1 H s s1 o _ fun b B2 H2 g hp => by
    cases b with
    | true => exact k true B2 H2 g (hf hp)
    | false =>
      show u σ H2 Q
      exact h2 hp B2 H2 (s.trans g.g.bs) g.g.in_ g.o Q fun b B3 H3 g3 hb => k b B3 H3 (g.trans g3) hb
theorem gdt_test {p : Bool → Prop} (h : Gd d te σ B ⟨fun v _ => ∃ b, v = .bl b ∧ p b, fun _ h => h⟩) : GdT d (tTest te) σ B p := fun B1 H s s1 o Q k =>
  h B1 H s s1 o _ fun v B2 H2 g ⟨b, e, hb⟩ => ⟨b, e, k b B2 H2 g hb⟩
theorem gdt_any {p : Bool → Prop} (h : GdT d tt σ B p) : GdT d tt σ B (fun _ => True) := fun B1 H s s1 o Q k => h B1 H s s1 o Q fun b B2 H2 g _ => k b B2 H2 g trivial
/-! statements -/
theorem dt_set {i : Nat} (s : Same B H) (o : Ow d oDice B H) (h : Gd d te σ B T) (k : ∀ v B1 H1, GrD d B H B1 H1 → T.p v B1 → D.nx (σ.set i (some v)) H1) : tAsg te (gName i) D σ H := h B H (Same.refl _) s o _ k
theorem dq_set {i : Nat} (s : Same B H) (o : Ow d oDice B H) (h : Gd d te σ B T) (k : ∀ v B1 H1, GrD d B H B1 H1 → T.p v B1 → tz D (σ.set i (some v)) H1) : tSeq (tAsg te (gName i)) tz D σ H := h B H (Same.refl _) s o _ k
theorem dq_asg {gt : TG} (s : Same B H) (o : Ow d oDice B H) (h : Gd d te σ B T) (k : ∀ v B1 H1, GrD d B H B1 H1 → T.p v B1 → gt v σ H1 (tz D)) : tSeq (tAsg te gt) tz D σ H := h B H (Same.refl _) s o _ k
theorem dt_ret (s : Same B H) (o : Ow d oDice B H) (h : Gd d te σ B T) (k : ∀ v B1 H1, GrD d B H B1 H1 → T.p v B1 → D.rt v H1) : tRet te D σ H := h B H (Same.refl _) s o _ k
theorem dt_if {p : Bool → Prop} (s : Same B H) (o : Ow d oDice B H) (h : GdT d t σ B p) (h1 : p true → ∀ B1 H1, GrD d B H B1 H1 → tu D σ H1) (h2 : p false → ∀ B1 H1, GrD d B H B1 H1 → tw D σ H1) : tIfS t tu tw D σ H := h B H (Same.refl _) s o _ fun b B1 H1 g hp => by
  cases b with
  | true =>
    show tu D σ H1
    exact h1 hp B1 H1 g
  | false =>
    show tw D σ H1
    exact h2 hp B1 H1 g
variable {K : PySem.W.Frag} {e : Addr} {ts : List Ty} {td : TE}
/-- what stands in an owned list of another place -/
theorem dt_app (hd : Is td σ B H e) (w : Ow e (oL ts) B H) (ne : e ≠ d) (o : Ow d oDice B H) (s : Same B H) (hl : ts.length < 100000) (h : Gd d te σ B T) (k : ∀ B1 H1 o, GrD d B H B1 H1 → Ow e (oL (ts ++ [T])) B1 (upd H1 e o) → D.nx σ (upd H1 e o)) : tDrop (tBM K "list" rAppend td (tCons te tNil)) D σ H := by
  refine hd B H (Gr.refl s) _ ⟨?_, h B H (Same.refl _) s o _ fun v B1 H1 g hv => ?_⟩
  · obtain ⟨o, h1, xs, rfl, h2⟩ := w.ex
    exact ty_lst h1
  · have w1 := w.dice ne g
    obtain ⟨o, h1, xs, rfl, h2⟩ := w1.ex
    refine ⟨e, xs, v, rfl, rfl, h1, ?_, k B1 H1 _ g (w1.put ⟨_, rfl, All.append (us := [T]) (ws := [v]) ⟨hv, trivial⟩ h2⟩)⟩
    rw [h2.len]
    exact size_lt hl
theorem dq_app (hd : Is td σ B H e) (w : Ow e (oL ts) B H) (ne : e ≠ d) (o : Ow d oDice B H) (s : Same B H) (hl : ts.length < 100000) (h : Gd d te σ B T) (k : ∀ B1 H1 o, GrD d B H B1 H1 → Ow e (oL (ts ++ [T])) B1 (upd H1 e o) → tz D σ (upd H1 e o)) : tSeq (tDrop (tBM K "list" rAppend td (tCons te tNil))) tz D σ H := dt_app (D := { D with nx := tz D }) hd w ne o s hl h k
theorem gdi_rng {p : Int → Prop} {R : It → Hp → Prop} (s : Same B H) (o : Ow d oDice B H) (h : Gd d te σ B (yP p)) (hp : ∀ i, p i → 0 ≤ i ∧ i < 2 ^ 62) (r : ∀ n B1 H1, p n → GrD d B H B1 H1 → R (Itr 0 n.toNat) H1) : iRng1 (tCons te tNil) σ H R :=
  (gda_1 h) B H (Same.refl _) s o _ fun vs B1 H1 g1 hvs => by
    obtain ⟨v, rfl, n, rfl, pn⟩ := all1 hvs
    obtain ⟨n0, n1⟩ := hp n pn
    exact ⟨n, rfl, by omega, n1, r n B1 H1 pn g1⟩
/-- for i in range(n), n drawn -/
theorem dq_forR {g : TG} {p : Int → Prop} (s : Same B H) (o : Ow d oDice B H) (h : Gd d te σ B (yP p)) (hp : ∀ i, p i → 0 ≤ i ∧ i < 2 ^ 62) (Pv : Nat → L2.St → Hp → Hp → Prop)
    (h0 : ∀ B1 H1, GrD d B H B1 H1 → Pv 0 σ B1 H1) (hm : ∀ i σ B1 H1 B2 H2, Gr B1 H1 B2 H2 → Pv i σ B1 H1 → Pv i σ B2 H2)
    (hs : ∀ (n : Int) (i : Nat) x σ' B1 H1, p n → (i : Int) < n → Same B1 H1 → Pv i σ' B1 H1 → x = .int (i : Int) → g x σ' H1 fun σ2 H3 => tu { D with nx := fun σ H => ∃ B, Same B H ∧ Pv (i + 1) σ B H, ct := fun σ H => ∃ B, Same B H ∧ Pv (i + 1) σ B H, bk := tz D } σ2 H3)
    (hd : ∀ (n : Int) σ' B1 H1, p n → Same B1 H1 → Pv n.toNat σ' B1 H1 → tz D σ' H1) : tSeq (tFor (iRng1 (tCons te tNil)) g tu) tz D σ H := by
  have key : ∀ wi : TI, (∀ R : It → Hp → Prop, (∀ n B1 H1, p n → GrD d B H B1 H1 → R (Itr 0 n.toNat) H1) → wi σ H R) → tSeq (tFor wi g tu) tz D σ H := by
    intro wi hw
    refine hw _ fun n B1 H1 pn g1 => ?_
    obtain ⟨n0, n1⟩ := hp n pn
    refine for_it (D := { D with nx := tz D }) (w := walk_range) (fun i σ' H' => ∃ B', Same B' H' ∧ Pv i σ' B' H') ⟨B1, g1.g.in_, h0 B1 H1 g1⟩ (fun i σ' H' _ h => trivial) (fun i x σ' H' H'' hlt h hy => ?_) (fun σ' H' h => ?_)
    · obtain ⟨B', s1, pv⟩ := h
      obtain ⟨e, hx⟩ := hy
      subst e
      refine hs n i x σ' B' H'' pn (by omega) s1 pv ?_
      rw [hx]
      show V.int _ = V.int _
      congr 1
      omega
    · obtain ⟨B', s1, pv⟩ := h
      exact hd n σ' B' H' pn s1 pv
  exact key _ fun R r => gdi_rng s o h hp r
end
/-- draws -/
def spDr : Sp := fun vs H Q _ => ∃ B d sides, vs = [.ref d, .int sides] ∧ Same B H ∧ Ow d oDice B H ∧ 1 ≤ sides ∧ sides < 1000000 ∧ ∀ r B' H', GrD d B H B' H' → 0 ≤ r → r < sides → Q (.int r) H'
theorem gd_draw {d : Addr} {σ : L2.St} {B : Hp} {td ts : TE} {n : Int} (hd : ∀ H Q, Q (.ref d) H → td σ H Q) (hs : Gv ts σ B (yI n)) (h1 : 1 ≤ n) (h2 : n < 1000000) : Gd d (tCl spDr (tCons td (tCons ts tNil))) σ B (yP fun i => 0 ≤ i ∧ i < n) := fun B1 H s s1 o Q q =>
  hd H _ ((hs.m s) H s1 _ fun v B2 H2 g hv => by
    obtain rfl : v = .int n := hv
    have gd := GrD.of o s1 g
    exact ⟨B2, d, n, rfl, g.in_, gd.o, h1, h2, fun r B' H' g' r0 r1 => q _ B' H' (gd.trans g') ⟨r, rfl, r0, r1⟩⟩)
section
variable {d : Addr} {σ : L2.St} {B H : Hp} {ts us : List Ty} {te ti : TE} {T T0 : Ty} {D : Ends} {tz : TS}
theorem all_set {H : Hp} {T : Ty} {v : V} (hv : T.p v H) : ∀ {ts : List Ty} {vs : List V} {j : Nat}, All ts vs H → j < ts.length → All (ts.set j T) (vs.set j v) H
  | t :: ts, w :: vs, 0, h, _ => ⟨hv, h.2⟩
  | t :: ts, w :: vs, j + 1, h, hj => ⟨h.1, all_set hv h.2 (by simpa using hj)⟩
  | [], [], _, _, hj => by simp at hj
  | [], _ :: _, _, h, _ => h.elim
  | _ :: _, [], _, h, _ => h.elim
/-- x[j] = e -/
theorem hq_lset {td : TE} {j : Nat} (hd : Is td σ B H d) (w : Ow d (oL ts) B H) (s : Same B H) (hj : j < ts.length) (h : Gh te σ B H T) (hi : Gv ti σ B (yI (j : Int))) (k : ∀ B1 H1 o, Gr B H B1 H1 → Ow d (oL (ts.set j T)) B1 (upd H1 d o) → tz D σ (upd H1 d o)) : tSeq (tAsg te (gSub td ti rSetL)) tz D σ H := by
  refine h _ fun v B1 H1 g hv => hd B1 H1 g _ ((hi.m g.bs) H1 g.in_ _ fun y B2 H2 g2 hy => ?_)
  obtain rfl : y = .int (j : Int) := hy
  have gg := g.trans g2
  obtain ⟨o, h1, xs, rfl, h2⟩ := (w.m gg).ex
  have hl := h2.len
  refine ⟨d, xs, (j : Int), j, rfl, rfl, h1, ?_, k B2 H2 _ gg ((w.m gg).put ⟨_, rfl, all_set (T.m g2.bs hv) h2 hj⟩)⟩
  unfold ixN
  rw [if_pos (by omega), if_pos (by omega)]
  simp
end
section
variable {σ : L2.St} {B H : Hp} {t : TT} {D : Ends} {tu tz : TS}
/-- an if without an else -/
theorem hq_ifN {b : Bool} (h : GhT t σ B H b) (h1 : b = true → ∀ B1 H1, Gr B H B1 H1 → tu { D with nx := tz D } σ H1) (h2 : b = false → ∀ B1 H1, Gr B H B1 H1 → tz D σ H1) : tSeq (tIfS t tu tNext) tz D σ H := hq_if h h1 h2
theorem sq_ifN {b : Bool} (s : Same B H) (h : GvT t σ B b) (h1 : b = true → ∀ B1 H1, Gr B H B1 H1 → tu { D with nx := tz D } σ H1) (h2 : b = false → ∀ B1 H1, Gr B H B1 H1 → tz D σ H1) : tSeq (tIfS t tu tNext) tz D σ H := sq_if s h h1 h2
theorem st_ifN {b : Bool} (s : Same B H) (h : GvT t σ B b) (h1 : b = true → ∀ B1 H1, Gr B H B1 H1 → tu D σ H1) (h2 : b = false → ∀ B1 H1, Gr B H B1 H1 → D.nx σ H1) : tIfS t tu tNext D σ H := st_if s h h1 h2
end
end LD
set_option maxRecDepth 100000
set_option maxHeartbeats 400000
/-! LdDraws: _law_draw -/

namespace LD
open PySem PyProof.Rows L2
abbrev s__law_draw : Stmt := topS 69
theorem sc__law_draw : FnScope ["_law_dice_here", "_law_sides", "_law_cell", "_law_digit", "_law_mixed"] ["_law_dice_here", "_law_sides"] (defScope s__law_draw) :=
  ⟨rfl, rfl, rfl, by decide +kernel, rfl, by decide +kernel, by decide +kernel⟩
abbrev tsD (cells : List Int) (i : Nat) (g a n : Int) : List Ty := [yL (cells.map fun c => yI c), yI (i : Int), yI g, yI a, yI n]
theorem ow_dice {d : Addr} {cells : List Int} {i : Nat} {g a n : Int} {B H : Hp} (h : i ≤ cells.length) (w : Ow d (oL (tsD cells i g a n)) B H) : Ow d oDice B H := by
  obtain ⟨o, h1, h2⟩ := w.ex
  exact ⟨w.nb, o, h1, cells, i, g, a, n, h, h2⟩
theorem dice_ow {d : Addr} {B H : Hp} (w : Ow d oDice B H) : ∃ cells i g a n, i ≤ cells.length ∧ Ow d (oL (tsD cells i g a n)) B H := by
  obtain ⟨o, h1, cells, i, g, a, n, h, h2⟩ := w.ex
  exact ⟨cells, i, g, a, n, h, w.nb, o, h1, h2⟩
section
variable {P : Program} {w : World} {K : PySem.W.Frag} {mg : Str → Option Value} {base : Heap}
theorem itm {ts : List Ty} {d : Addr} {σ : L2.St} {B : Hp} {j : Nat} {T : Ty} (h : (oL ts).ty.p (.ref d) B) (hσ : σ[0]? = some (some (.ref d))) (e : ts[j]? = some T) : Gv (tOp (rIxL K) (tVar 0) (tC (.int (j : Int)))) σ B T := gv_ixL (gv_var hσ h (Same.refl _)) gv_c isLs_o rfl e
theorem fm_nn {a b : Int} (h : 1 ≤ b) : 0 ≤ a.fmod b ∧ a.fmod b < b := ⟨Int.fmod_nonneg_of_pos _ (by omega), Int.fmod_lt_of_pos _ (by omega)⟩
theorem ok_draw1 (D : Def K mg "_law_draw" s__law_draw ["_law_dice_here", "_law_sides"]) (bl : Blt mg) : Cal P w K mg base "_law_draw" 1 ["_law_dice_here", "_law_sides"] spDr := by
  have sc := sc__law_draw
  refine D.okS sc (fun vs H Q E h => ?_) (fun f cdv A outer s H vs Q E hr h => ?_)
  · obtain ⟨B, d, sides, rfl, _⟩ := h
    rfl
  · obtain ⟨B, d, sides, rfl, sb, o0, hs1, hs2, q⟩ := h
    refine ⟨_, (pss_cons (ps_if (PW.pt (pw_and (pt_cmpR op_eq (pe_ix (ix_listK K rfl) (pv 0) pe_int (fun _ _ => rfl)) pe_int (nomark _)) (pw_and1 (pt_cmpR op_lt (pe_ix (ix_listK K rfl) (pv 0) pe_int (fun _ _ => rfl)) (pb_lenK K rfl bl.len_ (pa_cons (pe_ix (ix_listK K rfl) (pv 0) pe_int (fun _ _ => rfl)) pa_nil)) (nomark _)))))
  (pss_cons (ps_set (i := 2) sc.nd rfl (.inl rfl) (pe_ix (ix_listK K rfl) (pe_ix (ix_listK K rfl) (pv 0) pe_int (fun _ _ => rfl)) (pe_ix (ix_listK K rfl) (pv 0) pe_int (fun _ _ => rfl)) (fun _ _ => rfl)))
(pss_cons (ps_asg (pe_op op_add (pe_ix (ix_listK K rfl) (pv 0) pe_int (fun _ _ => rfl)) pe_int) (pg_sub (pv 0) pe_int set_list))
(pss_one (ps_if (pt_cmpR op_ge (pv 2) (pe_op op_pow pe_int pe_int) (nomark _))
  (pss_one (ps_asg (pv 2) (pg_sub (pv 0) pe_int set_list)))
  (pss_one (ps_asg (pe_op op_modN (pb_int bl.int_ (pa_cons (pe_op op_add (pe_op op_add (pe_op op_mul (pe_ix (ix_listK K rfl) (pv 0) pe_int (fun _ _ => rfl)) pe_int) (pe_op op_mul (pv 2) pe_int)) (pe_ix (ix_listK K rfl) (pv 0) pe_int (fun _ _ => rfl))) pa_nil)) pe_int) (pg_sub (pv 0) pe_int set_list)))))))
  pss_nil)
(pss_cons (ps_if (pt_cmpR op_gt (pe_ix (ix_listK K rfl) (pv 0) pe_int (fun _ _ => rfl)) pe_int (nomark _))
  (pss_cons (ps_set (i := 3) sc.nd rfl (.inl rfl) (pe_op op_modN (pb_int bl.int_ (pa_cons (pe_ix (ix_listK K rfl) (pv 0) pe_int (fun _ _ => rfl)) pa_nil)) (pv 1)))
(pss_cons (ps_asg (pe_op op_fdivN (pb_int bl.int_ (pa_cons (pe_ix (ix_listK K rfl) (pv 0) pe_int (fun _ _ => rfl)) pa_nil)) (pv 1)) (pg_sub (pv 0) pe_int set_list))
(pss_one (ps_ret (pv 3)))))
  pss_nil)
(pss_cons (ps_asg (pe_op op_add (pe_ix (ix_listK K rfl) (pv 0) pe_int (fun _ _ => rfl)) pe_int) (pg_sub (pv 0) pe_int set_list))
(pss_cons (ps_asg (pe_op op_modN (pb_int bl.int_ (pa_cons (pe_op op_add (pe_op op_add (pe_op op_mul (pe_ix (ix_listK K rfl) (pv 0) pe_int (fun _ _ => rfl)) pe_int) (pe_op op_mul (pe_ix (ix_listK K rfl) (pv 0) pe_int (fun _ _ => rfl)) pe_int)) pe_int) pa_nil)) pe_int) (pg_sub (pv 0) pe_int set_list))
(pss_cons (ps_set (i := 4) sc.nd rfl (.inl rfl) (pe_op op_modN (pb_int bl.int_ (pa_cons (pe_op op_mul (pe_ix (ix_listK K rfl) (pv 0) pe_int (fun _ _ => rfl)) (pe_op op_add (pe_op op_fdivN (pe_ix (ix_listK K rfl) (pv 0) pe_int (fun _ _ => rfl)) pe_int) pe_int)) pa_nil)) pe_int))
(pss_cons (ps_set (i := 4) sc.nd rfl (.inl rfl) (pe_op op_modN (pb_int bl.int_ (pa_cons (pe_op op_mul (pv 4) (pe_op op_add (pe_op op_fdivN (pv 4) pe_int) pe_int)) pa_nil)) pe_int))
(pss_one (ps_ret (pe_op op_modN (pb_int bl.int_ (pa_cons (pe_op op_fdivN (pv 4) pe_int) pa_nil)) (pv 1)))))))))), ?_⟩
    obtain ⟨cells, i, g, a, n, hi, w0⟩ := dice_ow o0
    have g0 : Gr B (cut H [d]) B H := Gr.cut0 sb fun x hx => by rw [List.mem_singleton.mp hx]; exact w0.nb
    have dd : d ∈ [d] := by simp
    refine seq_k (Pv := fun σ' B' H' => ∃ (cells : List Int) (i : Nat) (g a n : Int) (v2 v3 v4 : Option V), σ' = [some (.ref d), some (.int sides), v2, v3, v4] ∧ i ≤ cells.length ∧ Ow d (oL (tsD cells i g a n)) B' H' ∧ Gr B (cut H [d]) B' H') (fun σ' B1 H1 s1 hP => ?_) fun cont => ?_
    · obtain ⟨cells, i, g, a, n, v2, v3, v4, rfl, hi, w1, g1⟩ := hP
      refine hq_ifN (b := decide (g > 0)) (GhT.own w1 s1 fun B2 s2 s3 ty => gt_test (gv_I0 (itm (j := 2) ty rfl rfl) gv_c)) (fun hb B2 H2 g2 => ?_) (fun hb B2 H2 g2 => ?_)
      · have w2 := w1.m g2
        refine hq_set (i := 3) (T := yI (g.fmod sides)) (Gh.own w2 g2.in_ rk_x fun B3 s3 s4 ty => gv_IC (gv_int (itm (j := 2) ty rfl rfl)) (gv_v (i := 1) rfl) (by omega)) fun v B3 H3 g3 hv => ?_
        obtain rfl : v = .int (g.fmod sides) := hv
        have w3 := w2.m g3
        refine hq_lset (j := 2) (T := yI (g.fdiv sides)) (is_var rfl) w3 g3.in_ (by simp) (Gh.own w3 g3.in_ rk_x fun B4 s3 s4 ty => gv_IC (gv_int (itm (j := 2) ty rfl rfl)) (gv_v (i := 1) rfl) ⟨by omega, by omega⟩) gv_c fun B4 H4 o4 g4 w4 => ?_
        have gg : Gr B (cut H [d]) B4 (upd H4 d o4) := (((g1.trans g2).trans g3).trans g4).mutC dd (w3.m g4).nb
        have nn := fm_nn (a := g) hs1
        refine st_ret (T := yI (g.fmod sides)) gg.in_ (gv_v (i := 3) rfl) fun v B5 H5 g5 hv => ?_
        obtain rfl : v = .int (g.fmod sides) := hv
        exact q _ B5 H5 ⟨gg.trans g5, ow_dice hi (w4.m g5)⟩ nn.1 nn.2
      · have w2 := w1.m g2
        refine hq_lset (j := 4) (T := yI (n + 1)) (is_var rfl) w2 g2.in_ (by simp) (Gh.own w2 g2.in_ rk_x fun B4 s3 s4 ty => by exact gv_I0 (itm (j := 4) ty rfl rfl) gv_c) gv_c fun B3 H3 o3 g3 w3 => ?_
        have gg3 : Gr B (cut H [d]) B3 (upd H3 d o3) := ((g1.trans g2).trans g3).mutC dd (w2.m g3).nb
        have w3 : Ow d (oL (tsD cells i g a (n + 1))) B3 (upd H3 d o3) := w3
        generalize upd H3 d o3 = H4 at w3 gg3
        generalize hst : ((a * 48271 + (n + 1) * 7919 + 1).fmod 2147483647) = st
        have hst2 := fm_nn (a := a * 48271 + (n + 1) * 7919 + 1) (b := 2147483647) (by decide)
        rw [hst] at hst2
        refine hq_lset (j := 3) (T := yI st) (is_var rfl) w3 gg3.in_ (by simp) (Gh.own w3 gg3.in_ rk_x fun B4 s3 s4 ty => by
          rw [← hst]
          show Gv _ _ _ (yX (V.int _))
          exact gv_IC (gv_int (gv_I0 (gv_I0 (gv_IC (itm (j := 3) ty rfl rfl) gv_c (.inr (by decide))) (gv_IC (itm (j := 4) ty rfl rfl) gv_c (.inr (by decide)))) gv_c)) gv_c (by decide)) gv_c fun B5 H5 o5 g5 w5 => ?_
        have gg5 : Gr B (cut H [d]) B5 (upd H5 d o5) := (gg3.trans g5).mutC dd (w3.m g5).nb
        have w5 : Ow d (oL (tsD cells i g st (n + 1))) B5 (upd H5 d o5) := w5
        generalize upd H5 d o5 = H6 at w5 gg5
        generalize hm1 : ((st * (st.fdiv 1009 + 69623)).fmod 2147483399) = m1
        have hm12 := fm_nn (a := st * (st.fdiv 1009 + 69623)) (b := 2147483399) (by decide)
        rw [hm1] at hm12
        refine hq_set (i := 4) (T := yI m1) (Gh.own w5 gg5.in_ rk_x fun B4 s3 s4 ty => by
          rw [← hm1]
          show Gv _ _ _ (yX (V.int _))
          exact gv_IC (gv_int (gv_IC (itm (j := 3) ty rfl rfl) (gv_I0 (gv_IC (itm (j := 3) ty rfl rfl) gv_c ⟨by decide, by decide⟩) gv_c) (.inl (by omega)))) gv_c (by decide)) fun v B7 H7 g7 hv => ?_
        obtain rfl : v = .int m1 := hv
        have w7 := w5.m g7
        have gg7 := gg5.trans g7
        refine sq_set (i := 4) (T := yI ((m1 * (m1.fdiv 2003 + 40693)).fmod 2147483563)) gg7.in_ (gv_IC (gv_int (gv_IC (gv_v (i := 4) rfl) (gv_I0 (gv_IC (gv_v (i := 4) rfl) gv_c ⟨by decide, by decide⟩) gv_c) (.inl (by omega)))) gv_c (by decide)) fun v B8 H8 g8 hv => ?_
        generalize ((m1 * (m1.fdiv 2003 + 40693)).fmod 2147483563) = m2 at hv
        obtain rfl : v = .int m2 := hv
        have nn := fm_nn (a := m2.fdiv 16) hs1
        refine st_ret (T := yI ((m2.fdiv 16).fmod sides)) g8.in_ (gv_IC (gv_int (gv_IC (gv_v (i := 4) rfl) gv_c ⟨by decide, by decide⟩)) (gv_v (i := 1) rfl) (by omega)) fun v B9 H9 g9 hv => ?_
        obtain rfl : v = .int ((m2.fdiv 16).fmod sides) := hv
        exact q _ B9 H9 ⟨(gg7.trans g8).trans g9, ow_dice hi ((w7.m g8).m g9)⟩ nn.1 nn.2
    · refine hq_ifN (b := decide (g = 0) && decide ((i : Int) < ((cells.length : Nat) : Int))) (GhT.own w0 sb fun B2 s2 s3 ty => GvT.cast (b := decide (V.int g = V.int 0) && decide ((i : Int) < (((cells.map fun c => yI c).length : Nat) : Int))) (gt_and (gt_test (gv_eq (itm (j := 2) ty rfl rfl) gv_c rfl)) fun _ => gt_test (gv_I0 (itm (j := 1) ty rfl rfl) (gv_lenL (itm (j := 0) ty rfl rfl) isLs_l))) (by rw [List.length_map]; simp)) (fun hb B2 H2 g2 => ?_) (fun hb B2 H2 g2 => ?_)
      · simp only [Bool.and_eq_true, decide_eq_true_eq] at hb
        have hic : i < cells.length := by omega
        have w2 := w0.m g2
        have gg2 := g0.trans g2
        refine hq_set (i := 2) (T := yI cells[i]) (Gh.own w2 g2.in_ rk_x fun B3 s3 s4 ty => gv_ixL (i := (i : Int)) (j := i) (itm (j := 0) ty rfl rfl) (itm (j := 1) ty rfl rfl) isLs_l rfl (by rw [List.getElem?_map, List.getElem?_eq_getElem hic]; rfl)) fun v B3 H3 g3 hv => ?_
        generalize cells[i] = cell at hv
        obtain rfl : v = .int cell := hv
        have w3 := w2.m g3
        have gg3 := gg2.trans g3
        refine hq_lset (j := 1) (T := yI ((i : Int) + 1)) (is_var rfl) w3 g3.in_ (by simp) (Gh.own w3 g3.in_ rk_x fun B4 s3 s4 ty => by exact gv_I0 (itm (j := 1) ty rfl rfl) gv_c) gv_c fun B4 H4 o4 g4 w4 => ?_
        have gg4 : Gr B (cut H [d]) B4 (upd H4 d o4) := (gg3.trans g4).mutC dd (w3.m g4).nb
        have w4 : Ow d (oL (tsD cells (i + 1) g a n)) B4 (upd H4 d o4) := w4
        generalize upd H4 d o4 = H5 at w4 gg4
        refine st_if (b := decide (cell ≥ 10 ^ (18 : Int).toNat)) gg4.in_ (gt_test (gv_I0 (gv_v (i := 2) rfl) (gv_IC gv_c gv_c ⟨by decide, by decide, by decide⟩))) (fun hb2 B6 H6 g6 => ?_) (fun hb2 B6 H6 g6 => ?_)
        · have w6 := w4.m g6
          refine hq_lset (tz := fun D => D.nx) (D := { nx := _, rt := _, bk := _, ct := _ }) (j := 2) (T := yI cell) (is_var rfl) w6 g6.in_ (by simp) ((gv_v (i := 2) rfl).h g6.in_) gv_c fun B7 H7 o7 g7 w7 => ?_
          exact cont _ B7 _ ((gg4.trans g6).trans g7 |>.mutC dd (w6.m g7).nb).in_ ⟨cells, i + 1, cell, a, n, _, _, _, rfl, hic, w7, ((gg4.trans g6).trans g7).mutC dd (w6.m g7).nb⟩
        · have w6 := w4.m g6
          refine hq_lset (tz := fun D => D.nx) (D := { nx := _, rt := _, bk := _, ct := _ }) (j := 3) (T := yI ((a * 69621 + cell * 40692 + ((i + 1 : Nat) : Int)).fmod 2147483647)) (is_var rfl) w6 g6.in_ (by simp) (Gh.own w6 g6.in_ rk_x fun B8 s3 s4 ty => by exact gv_IC (gv_int (gv_I0 (gv_I0 (gv_IC (itm (j := 3) ty rfl rfl) gv_c (.inr (by decide))) (gv_IC (gv_v (i := 2) rfl) gv_c (.inr (by decide)))) (itm (j := 1) ty rfl rfl))) gv_c (by decide)) gv_c fun B7 H7 o7 g7 w7 => ?_
          exact cont _ B7 _ ((gg4.trans g6).trans g7 |>.mutC dd (w6.m g7).nb).in_ ⟨cells, i + 1, g, _, n, _, _, _, rfl, hic, w7, ((gg4.trans g6).trans g7).mutC dd (w6.m g7).nb⟩
      · exact cont _ B2 H2 g2.in_ ⟨cells, i, g, a, n, _, _, _, rfl, hi, w0.m g2, g0.trans g2⟩
end
end LD
set_option maxRecDepth 100000
set_option maxHeartbeats 400000
/-! LdLaw1: _law_steps, _law_door, _law_next, _law_many, _law_goes_home, _law_ends_of -/

namespace LD
open PySem PyProof.Rows L2
abbrev s__law_steps : Stmt := topS 73
theorem sc__law_steps : FnScope ["_law_dealers", "_law_found", "_law_house", "_law_dealer_here", "_law_standing", "_law_pairs", "_law_number"] ["_law_dealers"] (defScope s__law_steps) :=
  ⟨rfl, rfl, rfl, by decide +kernel, rfl, by decide +kernel, by decide +kernel⟩
abbrev s__law_door : Stmt := topS 74
theorem sc__law_door : FnScope ["_law_dealers", "_law_step"] ["_law_dealers", "_law_step"] (defScope s__law_door) :=
  ⟨rfl, rfl, rfl, by decide +kernel, rfl, by decide +kernel, by decide +kernel⟩
abbrev s__law_next : Stmt := topS 75
theorem sc__law_next : FnScope ["_law_dealers", "_law_step"] ["_law_dealers", "_law_step"] (defScope s__law_next) :=
  ⟨rfl, rfl, rfl, by decide +kernel, rfl, by decide +kernel, by decide +kernel⟩
abbrev s__law_many : Stmt := topS 77
theorem sc__law_many : FnScope ["_law_dealers", "_law_many_here", "_law_dealer_here", "_law_pairs"] ["_law_dealers"] (defScope s__law_many) :=
  ⟨rfl, rfl, rfl, by decide +kernel, rfl, by decide +kernel, by decide +kernel⟩
abbrev s__law_goes_home : Stmt := topS 76
theorem sc__law_goes_home : FnScope ["_law_doors_here", "_law_house", "_law_here", "_law_turn"] ["_law_doors_here"] (defScope s__law_goes_home) :=
  ⟨rfl, rfl, rfl, by decide +kernel, rfl, by decide +kernel, by decide +kernel⟩
abbrev s__law_ends_of : Stmt := topS 79
theorem sc__law_ends_of : FnScope ["_law_dealers", "_law_forest", "_law_step"] ["_law_dealers", "_law_forest"] (defScope s__law_ends_of) :=
  ⟨rfl, rfl, rfl, by decide +kernel, rfl, by decide +kernel, by decide +kernel⟩
inductive Rlsteps : List Ty → Ty → Prop
  | mk (D : Dl) (h : Small D) : Rlsteps [yDl D] (yL ((steps D).map yIs))
inductive Rldoor : List Ty → Ty → Prop
  | mk (D : Dl) (h s n : Nat) (p : Int × Int) (e : pairAt D h s n = some p) : Rldoor [yDl D, yIs (stp h s n)] (yI p.1)
inductive Rlnext : List Ty → Ty → Prop
  | mk (D : Dl) (h s n : Nat) (p : Int × Int) (e : pairAt D h s n = some p) : Rlnext [yDl D, yIs (stp h s n)] (yI p.2)
def lensOf (d : List (List (Int × Int))) : Int := (d.map fun ps => ((ps.length : Nat) : Int)).sum
def manyOf (D : Dl) : Int := D.foldl (fun m d => m * lensOf d) 1
inductive Rlmany : List Ty → Ty → Prop
  | mk (D : Dl) (h : Small D) : Rlmany [yDl D] (yI (manyOf D))
inductive Rlhome : List Ty → Ty → Prop
  | mk (ds : List Int) (hl : ds.length ≤ 3) (h : ∀ d ∈ ds, d < ds.length) : Rlhome [yL (ds.map fun i => yI i)] (yB (goesHome ds))
inductive Rlends : List Ty → Ty → Prop
  | mk (D : Dl) (F : List (List Int)) (hl : F.length ≤ 3) (h : ∀ st ∈ F, st ∈ steps D) : Rlends [yDl D, yT (F.map yIs)] (yIs (F.map (nextF D)))
section
variable {P : Program} {w : World} {K : PySem.W.Frag} {mg : Str → Option Value} {base : Heap}
theorem ok_lsteps (D : Def K mg "_law_steps" s__law_steps ["_law_dealers"]) (bl : Blt mg) : Cal P w K mg base "_law_steps" 1 ["_law_dealers"] (spG Rlsteps) := by
  have sc := sc__law_steps
  refine D.ok sc (fun Ts T r => by cases r; rfl) (fun f cdv A outer s H vs E B Ts T r sb a hr => ?_)
  refine ⟨_, (pss_cons (ps_set (i := 1) sc.nd rfl (.inl rfl) (pe_lst pa_nil))
(pss_cons (ps_for PassesOwn.never rfl (pi_enumT (by rfl) bl.enumerate_ (pa_cons (pv 0) pa_nil)) (pg_tup (by rfl) (pgs_cons (pg_name (i := 2) sc.nd rfl (.inr rfl)) (pgs_cons (pg_name (i := 3) sc.nd rfl (.inl rfl)) pgs_nil)))
  (pss_one (ps_for PassesOwn.never rfl (pi_enumT (by rfl) bl.enumerate_ (pa_cons (pv 3) pa_nil)) (pg_tup (by rfl) (pgs_cons (pg_name (i := 4) sc.nd rfl (.inr rfl)) (pgs_cons (pg_name (i := 5) sc.nd rfl (.inl rfl)) pgs_nil)))
  (pss_one (ps_expr (pe_bm PySem.F.plainAttrs_list PySem.F.slot_list_extend PySem.F.type_list_extend mt_extend (pv 1) (pa_cons (pe_lc (own := [("_law_number", 6)]) (g := (gName 6)) (tt := _) (by rfl) sc.nd (pi_range1 (by rfl) bl.range_ (pa_cons (pb_lenK K rfl bl.len_ (pa_cons (pv 5) pa_nil)) pa_nil)) (blkOk_by (by kernel_rfl)) (fun _ _ _ _ _ => (pg_name (i := 6) sc.nd rfl (.inl rfl))) (fun _ _ _ _ _ => pts_nil) (fun _ _ _ _ _ => (pe_tup (pa_cons (pv 2) (pa_cons (pv 4) (pa_cons (pv 6) pa_nil)))))) pa_nil)))))))
(pss_one (ps_ret (pv 1))))), fun Q q => ?_⟩
  cases r with
  | mk D o =>
  obtain ⟨v1, rfl, h1⟩ := all1 a
  refine hq_newL sb ga_nil (by simp) fun d B1 H1 g1 nd1 hd w1 => ?_
  have hdl : GvI _ _ B1 (D.map yHs).length _ := gi_enumT (σ := [some v1, some (.ref d), none, none, none, none, none]) (K := K) (gv_var (i := 0) rfl h1 g1.bs) isTu_t
  refine sq_for g1.in_ hdl (fun i σ B2 H2 => ∃ n2 n3 n4 n5 n6, σ = [some v1, some (.ref d), n2, n3, n4, n5, n6] ∧ Ow d (oL ((stAll D i).map yIs)) B2 H2 ∧ Gr B H B2 H2)
    (fun B2 H2 g2 => ⟨_, _, _, _, _, rfl, w1.m g2, g1.trans g2⟩) (fun Bs i x σ B1 H1 B2 H2 hi s1 s2 s3 hP g2 hx => ?_) (fun σ B2 H2 s1 s2 hP => ?_)
  · obtain ⟨n2, n3, n4, n5, n6, rfl, w2, gg⟩ := hP
    rw [List.length_map] at hi
    obtain ⟨dl, hdl⟩ : ∃ r, D[i]? = some r := ⟨_, List.getElem?_eq_getElem hi⟩
    have hty : tyAt (D.map yHs) i = yHs dl := tyAt_of (by rw [List.getElem?_map, hdl]; rfl)
    rw [hty] at hx
    have memd := List.mem_of_getElem? hdl
    have hD3 := o.hl
    refine g_tup2 hx g2.in_ fun vh vd hvh hvd => ?_
    obtain rfl : vh = .int (i : Int) := hvh
    have hdl2 : GvI _ _ B2 (dl.map ySt).length _ := gi_enumT (σ := [some v1, some (.ref d), some (.int (i : Int)), some vd, n4, n5, n6]) (K := K) (gv_var (i := 3) rfl hvd (Same.refl _)) isTu_t
    refine st_for g2.in_ hdl2 (fun j σ B3 H3 => ∃ n4 n5 n6, σ = [some v1, some (.ref d), some (.int (i : Int)), some vd, n4, n5, n6] ∧ Ow d (oL ((stAll D i ++ stHouse i dl j).map yIs)) B3 H3 ∧ Gr B H B3 H3)
      (fun B3 H3 g3 => ⟨_, _, _, rfl, by rw [show stAll D i ++ stHouse i dl 0 = stAll D i by simp [stHouse]]; exact (w2.m g2).m g3, (gg.trans g2).trans g3⟩) (fun Bs2 j x2 σ2 B3 H3 B4 H4 hj s4 s5 s6 hP2 g4 hx2 => ?_) (fun σ2 B3 H3 s4 s5 hP2 => ?_)
    · obtain ⟨n4, n5, n6, rfl, w3, gg3⟩ := hP2
      rw [List.length_map] at hj
      obtain ⟨ps, hps⟩ : ∃ r, dl[j]? = some r := ⟨_, List.getElem?_eq_getElem hj⟩
      have hty2 : tyAt (dl.map ySt) j = ySt ps := tyAt_of (by rw [List.getElem?_map, hps]; rfl)
      rw [hty2] at hx2
      have memp := List.mem_of_getElem? hps
      have hpl := o.pl dl memd ps memp
      refine g_tup2 hx2 g4.in_ fun vs vp hvs hvp => ?_
      obtain rfl : vs = .int (j : Int) := hvs
      have hrg : GvI (iRng1 (tCons (tCB (rLenSeq K) (tCons (tVar 5) tNil)) tNil)) [some v1, some (.ref d), some (.int (i : Int)), some vd, some (.int (j : Int)), some vp, n6] B4 ((((ps.map yPr).length : Nat) : Int)).toNat (fun n => yI (n : Int)) := gi_rng1 (gv_lenT (gv_var (i := 5) rfl hvp (Same.refl _)) isTu_t) (by rw [List.length_map]; omega) (by rw [List.length_map]; omega)
      have l1 := o.all i (by omega)
      have l2 := o.house memd i j (by have := o.dl dl memd; omega)
      refine ht_ext (us := (stIn i j ps.length).map yIs) (is_var rfl) (w3.m g4) g4.in_ ?_ (Gv.h (Gv.cast (gv_lc (f := fun _ => true) (E := fun n => yIs (stp i j n)) hrg (by rw [List.length_map]; omega) fun n x3 B5 H5 hn s7 s8 hx3 R q3 => ?_) ?_) g4.in_) fun B5 H5 o5 g5 w5 => ?_
      · rw [List.length_map, List.length_map, List.length_append]
        unfold stIn
        rw [List.length_map, List.length_range]
        omega
      · obtain rfl : x3 = .int (n : Int) := hx3
        exact q3 _ rfl gt_yes fun _ => gv_tup3 (gv_v rfl) (gv_v rfl) (gv_v rfl)
      · unfold stIn
        rw [List.length_map, List.map_map]
        congr 1
        have e : (((ps.length : Nat) : Int)).toNat = ps.length := by omega
        rw [e, List.filter_eq_self.mpr fun _ _ => rfl]
        rfl
      · refine ⟨B5, s5.trans (g4.bs.trans g5.bs), ((w3.m g4).m g5).same g5.in_, _, _, _, rfl, ?_, ((gg3.trans g4).trans g5).put ((w3.m g4).m g5) hd⟩
        rw [stHouse_succ hps, ← List.append_assoc, List.map_append (l₁ := stAll D i ++ stHouse i dl j)]
        exact w5
    · obtain ⟨n4, n5, n6, rfl, w3, gg3⟩ := hP2
      rw [List.length_map] at w3
      refine ⟨B3, (s2.trans g2.bs).trans s4, s5, _, _, _, _, _, rfl, ?_, gg3⟩
      rw [stAll_succ hdl]
      exact w3
  · obtain ⟨n2, n3, n4, n5, n6, rfl, w2, gg⟩ := hP
    rw [List.length_map] at w2
    obtain ⟨B3, g3, s3, h3⟩ := w2.pub gg hd
    exact ⟨_, rfl, q _ B3 _ g3 (oL_ty h3)⟩
theorem ok_ldoor (D : Def K mg "_law_door" s__law_door ["_law_dealers", "_law_step"]) : Cal P w K mg base "_law_door" 1 ["_law_dealers", "_law_step"] (spG Rldoor) := by
  have sc := sc__law_door
  refine D.ok sc (fun Ts T r => by cases r; rfl) (fun f cdv A outer s H vs E B Ts T r sb a hr => ?_)
  refine ⟨_, (pss_one (ps_ret (pe_ix (ix_tupK K rfl) (pe_ix (ix_tupK K rfl) (pe_ix (ix_tupK K rfl) (pe_ix (ix_tupK K rfl) (pv 0) (pe_ix (ix_tupK K rfl) (pv 1) pe_int (fun _ _ => rfl)) (fun _ _ => rfl)) (pe_ix (ix_tupK K rfl) (pv 1) pe_int (fun _ _ => rfl)) (fun _ _ => rfl)) (pe_ix (ix_tupK K rfl) (pv 1) pe_int (fun _ _ => rfl)) (fun _ _ => rfl)) pe_int (fun _ _ => rfl)))), fun Q q => ?_⟩
  cases r with
  | mk D h s n p e =>
  obtain ⟨v1, v2, rfl, h1, h2⟩ := all2 a
  exact st_ret (T := yI p.1) sb (gv_ixT (i := 0) (j := 0) (gv_pair (D := D) (gv_var (i := 0) rfl h1 (Same.refl _)) (gv_var (i := 1) rfl h2 (Same.refl _)) e) gv_c isTu_t rfl rfl) q
theorem ok_lnext (D : Def K mg "_law_next" s__law_next ["_law_dealers", "_law_step"]) : Cal P w K mg base "_law_next" 1 ["_law_dealers", "_law_step"] (spG Rlnext) := by
  have sc := sc__law_next
  refine D.ok sc (fun Ts T r => by cases r; rfl) (fun f cdv A outer s H vs E B Ts T r sb a hr => ?_)
  refine ⟨_, (pss_one (ps_ret (pe_ix (ix_tupK K rfl) (pe_ix (ix_tupK K rfl) (pe_ix (ix_tupK K rfl) (pe_ix (ix_tupK K rfl) (pv 0) (pe_ix (ix_tupK K rfl) (pv 1) pe_int (fun _ _ => rfl)) (fun _ _ => rfl)) (pe_ix (ix_tupK K rfl) (pv 1) pe_int (fun _ _ => rfl)) (fun _ _ => rfl)) (pe_ix (ix_tupK K rfl) (pv 1) pe_int (fun _ _ => rfl)) (fun _ _ => rfl)) pe_int (fun _ _ => rfl)))), fun Q q => ?_⟩
  cases r with
  | mk D h s n p e =>
  obtain ⟨v1, v2, rfl, h1, h2⟩ := all2 a
  exact st_ret (T := yI p.2) sb (gv_ixT (i := 1) (j := 1) (gv_pair (D := D) (gv_var (i := 0) rfl h1 (Same.refl _)) (gv_var (i := 1) rfl h2 (Same.refl _)) e) gv_c isTu_t rfl rfl) q
theorem lens_ok {D : Dl} (o : Small D) {d : List (List (Int × Int))} (h : d ∈ D) : 0 ≤ lensOf d ∧ lensOf d ≤ 9 := by
  have key : ∀ l : List (List (Int × Int)), (∀ ps ∈ l, ps.length ≤ 3) → 0 ≤ lensOf l ∧ lensOf l ≤ 3 * l.length := by
    intro l
    induction l with
    | nil => intro _; exact ⟨Int.le_refl _, by simp [lensOf]⟩
    | cons ps l ih =>
      intro h
      obtain ⟨a, b⟩ := ih fun q hq => h q (List.mem_cons_of_mem _ hq)
      have := h ps List.mem_cons_self
      unfold lensOf at a b ⊢
      rw [List.map_cons, List.sum_cons, List.length_cons]
      omega
  obtain ⟨a, b⟩ := key d (o.pl d h)
  have := o.dl d h
  omega
theorem ok_lmany (D : Def K mg "_law_many" s__law_many ["_law_dealers"]) (bl : Blt mg) : Cal P w K mg base "_law_many" 1 ["_law_dealers"] (spG Rlmany) := by
  have sc := sc__law_many
  refine D.ok sc (fun Ts T r => by cases r; rfl) (fun f cdv A outer s H vs E B Ts T r sb a hr => ?_)
  refine ⟨_, (pss_cons (ps_set (i := 1) sc.nd rfl (.inl rfl) pe_int)
(pss_cons (ps_for PassesOwn.never rfl (pi_tupK K rfl (pv 0)) (pg_name (i := 2) sc.nd rfl (.inl rfl))
  (pss_one (ps_set (i := 1) sc.nd rfl (.inl rfl) (pe_op op_mul (pv 1) (pb_sum bl.sum_ (pa_cons (pe_lc (own := [("_law_pairs", 3)]) (g := (gName 3)) (tt := _) (by rfl) sc.nd (pi_tupK K rfl (pv 2)) (blkOk_by (by kernel_rfl)) (fun _ _ _ _ _ => (pg_name (i := 3) sc.nd rfl (.inl rfl))) (fun _ _ _ _ _ => pts_nil) (fun _ _ _ _ _ => (pb_lenK K rfl bl.len_ (pa_cons (pv 3) pa_nil)))) pa_nil))))))
(pss_one (ps_ret (pv 1))))), fun Q q => ?_⟩
  cases r with
  | mk D o =>
  obtain ⟨v1, rfl, h1⟩ := all1 a
  refine sq_set (T := yI 1) sb gv_c fun v B1 H1 g1 hv => ?_
  obtain rfl : v = .int 1 := hv
  refine sq_for g1.in_ (gi_tup (gv_var (i := 0) rfl h1 g1.bs) isTu_t) (fun i σ B2 H2 => ∃ (n2 n3 : Option V), σ = [some v1, some (.int (manyOf (D.take i))), n2, n3] ∧ Gr B H B2 H2)
    (fun B2 H2 g2 => ⟨_, _, rfl, g1.trans g2⟩) (fun Bs i x σ B1 H1 B2 H2 hi s1 s2 s3 hP g2 hx => ?_) (fun σ B2 H2 s1 s2 hP => ?_)
  · obtain ⟨n2, n3, rfl, gg⟩ := hP
    rw [List.length_map] at hi
    obtain ⟨dl, hdl⟩ : ∃ r, D[i]? = some r := ⟨_, List.getElem?_eq_getElem hi⟩
    rw [hT_map i dl hdl] at hx
    have mem := List.mem_of_getElem? hdl
    have e : manyOf (D.take (i + 1)) = manyOf (D.take i) * lensOf dl := by
      unfold manyOf
      rw [List.take_add_one, hdl, Option.toList_some, List.foldl_append]
      rfl
    obtain ⟨a1, a2⟩ := lens_ok o mem
    have d3 := o.dl dl mem
    refine st_set (i := 1) (T := yI (manyOf (D.take i) * lensOf dl)) g2.in_ (gv_IC (gv_v (i := 1) rfl) (gv_sum (Gv.cast (A := yL (dl.map fun ps => yI ((ps.length : Nat) : Int))) (gv_lc1 (F := ySt) (gi_tup (gv_var (i := 2) rfl hx (Same.refl _)) isTu_t) (by rw [List.length_map]) hT_map (by omega) (fun _ => rfl) fun j ps y B3 hj s3 hy => Gv.cast (gv_lenT (gv_var (i := 3) rfl hy (Same.refl _)) isTu_t) (by rw [List.length_map])) (by rw [List.map_map]; rfl))) (.inr ⟨by have : (0:Int) ≤ lensOf dl := a1; unfold lensOf at this; omega, by have : lensOf dl ≤ 9 := a2; unfold lensOf at this; omega⟩)) fun v B3 H3 g3 hv => ?_
    obtain rfl : v = .int (manyOf (D.take i) * lensOf dl) := hv
    exact ⟨B3, s2.trans (g2.bs.trans g3.bs), g3.in_, _, _, by rw [e]; rfl, (gg.trans g2).trans g3⟩
  · obtain ⟨n2, n3, rfl, gg⟩ := hP
    rw [List.length_map, List.take_length]
    exact st_ret s2 (gv_v (i := 1) rfl) fun v B' H' g hv => q v B' H' (gg.trans g) hv
theorem way_lt {ds : List Int} {n : Nat} (h : ∀ d ∈ ds, d < (n : Int)) (hl : ds.length = n) {a : Int} (ha : a < (n : Int)) : ∀ k, wayOf ds a k < (n : Int)
  | 0 => ha
  | k + 1 => by
    have ih := way_lt h hl ha k
    unfold wayOf
    simp only
    split
    · rename_i z
      have : (wayOf ds a k).toNat < ds.length := by omega
      rw [List.getD_eq_getElem?_getD, List.getElem?_eq_getElem this]
      exact h _ (List.getElem_mem _)
    · exact ih
theorem ok_lhome (D : Def K mg "_law_goes_home" s__law_goes_home ["_law_doors_here"]) (bl : Blt mg) : Cal P w K mg base "_law_goes_home" 1 ["_law_doors_here"] (spG Rlhome) := by
  have sc := sc__law_goes_home
  refine D.ok sc (fun Ts T r => by cases r; rfl) (fun f cdv A outer s H vs E B Ts T r sb a hr => ?_)
  refine ⟨_, (pss_cons (ps_for PassesOwn.never rfl (pi_range1 (by rfl) bl.range_ (pa_cons (pb_lenK K rfl bl.len_ (pa_cons (pv 0) pa_nil)) pa_nil)) (pg_name (i := 1) sc.nd rfl (.inl rfl))
  (pss_cons (ps_set (i := 2) sc.nd rfl (.inl rfl) (pv 1))
(pss_cons (ps_for PassesOwn.never rfl (pi_range1 (by rfl) bl.range_ (pa_cons (pb_lenK K rfl bl.len_ (pa_cons (pv 0) pa_nil)) pa_nil)) (pg_name (i := 3) sc.nd rfl (.inl rfl))
  (pss_one (ps_if (pt_cmpR op_ge (pv 2) pe_int (nomark _))
  (pss_one (ps_set (i := 2) sc.nd rfl (.inl rfl) (pe_ix (ix_listK K rfl) (pv 0) (pv 2) (fun _ _ => rfl))))
  pss_nil)))
(pss_one (ps_if (pt_cmpR op_ge (pv 2) pe_int (nomark _))
  (pss_one (ps_ret pe_bl))
  pss_nil)))))
(pss_one (ps_ret pe_bl))), fun Q q => ?_⟩
  cases r with
  | mk ds hl hlt =>
  obtain ⟨v1, rfl, h1⟩ := all1 a
  have lenG : ∀ (σ : L2.St) B', σ[0]? = some (some v1) → Same B B' → Gv (tCB (rLenSeq K) (tCons (tVar 0) tNil)) σ B' (yI ((ds.length : Nat) : Int)) := fun σ B' k s' => Gv.cast (gv_lenL (gv_var k h1 s') isLs_l) (by rw [List.length_map])
  have tn : ((((ds.length : Nat) : Int))).toNat = ds.length := by omega
  refine sq_for sb (gi_rng1 (lenG _ _ rfl (Same.refl _)) (by omega) (by omega)) (fun i σ B2 H2 => ∃ n1 n2 n3, σ = [some v1, n1, n2, n3] ∧ Gr B H B2 H2 ∧ ∀ j, j < i → wayOf ds (j : Int) ds.length < 0)
    (fun B2 H2 g2 => ⟨_, _, _, rfl, g2, fun j hj => absurd hj (Nat.not_lt_zero _)⟩) (fun Bs i x σ B1 H1 B2 H2 hi s1 s2 s3 hP g2 hx => ?_) (fun σ B2 H2 s1 s2 hP => ?_)
  · obtain ⟨n1, n2, n3, rfl, gg, hj⟩ := hP
    rw [tn] at hi
    obtain rfl : x = .int (i : Int) := hx
    have gg2 := gg.trans g2
    refine sq_set (i := 2) (T := yI (i : Int)) g2.in_ (gv_v (i := 1) rfl) fun v B3 H3 g3 hv => ?_
    obtain rfl : v = .int (i : Int) := hv
    have gg3 := gg2.trans g3
    refine sq_for g3.in_ (gi_rng1 (lenG _ _ rfl gg3.bs) (by omega) (by omega)) (fun k σ B4 H4 => ∃ n3, σ = [some v1, some (.int (i : Int)), some (.int (wayOf ds (i : Int) k)), n3] ∧ Gr B H B4 H4)
      (fun B4 H4 g4 => ⟨_, rfl, gg3.trans g4⟩) (fun Bs2 k y σ B4 H4 B5 H5 hk s4 s5 s6 hP g5 hy => ?_) (fun σ B4 H4 s4 s5 hP => ?_)
    · obtain ⟨n3, rfl, gg4⟩ := hP
      have wl := way_lt hlt rfl (a := (i : Int)) (by omega) k
      have gg5 := gg4.trans g5
      refine st_ifN (b := decide (wayOf ds (i : Int) k ≥ 0)) g5.in_ (gt_test (gv_I0 (gv_v (i := 2) rfl) gv_c)) (fun hb B6 H6 g6 => ?_) (fun hb B6 H6 g6 => ?_)
      · have hb := of_decide_eq_true hb
        have hlt2 : (wayOf ds (i : Int) k).toNat < ds.length := by omega
        have e : wayOf ds (i : Int) (k + 1) = ds[(wayOf ds (i : Int) k).toNat] := by
          rw [wayOf]
          rw [if_pos hb, List.getD_eq_getElem?_getD, List.getElem?_eq_getElem hlt2]
          rfl
        refine st_set (i := 2) (T := yI (wayOf ds (i : Int) (k + 1))) g6.in_ (gv_ixL (i := wayOf ds (i : Int) k) (j := (wayOf ds (i : Int) k).toNat) (gv_var (i := 0) rfl h1 (gg5.bs.trans g6.bs)) (gv_v (i := 2) rfl) isLs_l (by omega) (by rw [List.getElem?_map, List.getElem?_eq_getElem hlt2, e]; rfl)) fun v B7 H7 g7 hv => ?_
        obtain rfl : v = .int (wayOf ds (i : Int) (k + 1)) := hv
        exact ⟨B7, s5.trans (g5.bs.trans (g6.bs.trans g7.bs)), g7.in_, _, rfl, (gg5.trans g6).trans g7⟩
      · have hb := of_decide_eq_false hb
        have e : wayOf ds (i : Int) (k + 1) = wayOf ds (i : Int) k := by
          rw [wayOf]
          rw [if_neg hb]
        exact ⟨B6, s5.trans (g5.bs.trans g6.bs), g6.in_, _, by rw [e]; rfl, gg5.trans g6⟩
    · obtain ⟨n3, rfl, gg4⟩ := hP
      rw [tn]
      refine st_ifN (b := decide (wayOf ds (i : Int) ds.length ≥ 0)) s5 (gt_test (gv_I0 (gv_v (i := 2) rfl) gv_c)) (fun hb B6 H6 g6 => ?_) (fun hb B6 H6 g6 => ?_)
      · have hb := of_decide_eq_true hb
        have e : goesHome ds = false := by
          cases z : goesHome ds with
          | false => rfl
          | true =>
            have := List.all_eq_true.mp z i (List.mem_range.mpr hi)
            have := of_decide_eq_true this
            omega
        refine st_ret (T := yB false) g6.in_ gv_c fun v B7 H7 g7 hv => q v B7 H7 ((gg4.trans g6).trans g7) (by rw [e]; exact hv)
      · have hb := of_decide_eq_false hb
        refine ⟨B6, s2.trans (g2.bs.trans (g3.bs.trans (s4.trans g6.bs))), g6.in_, _, _, _, rfl, gg4.trans g6, fun j hj2 => ?_⟩
        by_cases z : j = i
        · subst z; omega
        · exact hj j (by omega)
  · obtain ⟨n1, n2, n3, rfl, gg, hj⟩ := hP
    rw [tn] at hj
    have e : goesHome ds = true := List.all_eq_true.mpr fun j hj2 => decide_eq_true (hj j (List.mem_range.mp hj2))
    exact st_ret (T := yB true) s2 gv_c fun v B7 H7 g7 hv => q v B7 H7 (gg.trans g7) (by rw [e]; exact hv)
theorem ok_lends (D : Def K mg "_law_ends_of" s__law_ends_of ["_law_dealers", "_law_forest"]) (bl : Blt mg) (c_law_next : Cal P w K mg base "_law_next" 1 ["_law_dealers", "_law_step"] (spG Rlnext)) : Cal P w K mg base "_law_ends_of" 2 ["_law_dealers", "_law_forest"] (spG Rlends) := by
  have sc := sc__law_ends_of
  refine D.ok sc (fun Ts T r => by cases r; rfl) (fun f cdv A outer s H vs E B Ts T r sb a hr => ?_)
  refine ⟨_, (pss_one (ps_ret (pb_tuple bl.tuple_ (pa_cons (pe_lc (own := [("_law_step", 2)]) (g := (gName 2)) (tt := _) (by rfl) sc.nd (pi_tupK K rfl (pv 1)) (blkOk_by (by kernel_rfl)) (fun _ _ _ _ _ => (pg_name (i := 2) sc.nd rfl (.inl rfl))) (fun _ _ _ _ _ => pts_nil) (fun _ _ _ _ _ => (pe_cl c_law_next (hr.mono (by decide)) (pa_cons (pv 0) (pa_cons (pv 2) pa_nil))))) pa_nil)))), fun Q q => ?_⟩
  cases r with
  | mk D F hl hF =>
  obtain ⟨v1, v2, rfl, h1, h2⟩ := all2 a
  refine st_ret sb (gv_tupL (Gv.cast (A := yL (F.map fun st => yI (nextF D st))) (gv_lc1 (F := yIs) (gi_tup (gv_var (i := 1) rfl h2 (Same.refl _)) isTu_t) (by rw [List.length_map]) hT_map (by omega) (fun _ => rfl) fun j st y B3 hj s3 hy => ?_) (by rw [List.map_map]; rfl))) q
  obtain ⟨h, s, n, p, e, ep⟩ := steps_mem.mp (hF st (List.mem_of_getElem? hj))
  refine gv_cl (ga_2 (gv_var (i := 0) rfl h1 s3) (gv_var (i := 2) rfl hy (Same.refl _))) (gives_G (R := Rlnext) ?_)
  rw [e, nextF_eq ep]
  exact .mk D h s n p ep
end
end LD
set_option maxRecDepth 100000
set_option maxHeartbeats 400000
/-! LdLaw2: _law_forests, _law_fraction, _law_sum, _law_lead, _law_less -/

namespace LD
open PySem PyProof.Rows L2
abbrev s__law_forests : Stmt := topS 78
theorem sc__law_forests : FnScope ["_law_dealers", "_law_found", "_law_house", "_law_mine", "_law_step", "_law_later", "_law_told"] ["_law_dealers"] (defScope s__law_forests) :=
  ⟨rfl, rfl, rfl, by decide +kernel, rfl, by decide +kernel, by decide +kernel⟩
abbrev s__law_fraction : Stmt := topS 81
theorem sc__law_fraction : FnScope ["_law_top", "_law_bottom", "_law_one", "_law_other"] ["_law_top", "_law_bottom"] (defScope s__law_fraction) :=
  ⟨rfl, rfl, rfl, by decide +kernel, rfl, by decide +kernel, by decide +kernel⟩
abbrev s__law_sum : Stmt := topS 82
theorem sc__law_sum : FnScope ["_law_one", "_law_other", "_law_sign"] ["_law_one", "_law_other", "_law_sign"] (defScope s__law_sum) :=
  ⟨rfl, rfl, rfl, by decide +kernel, rfl, by decide +kernel, by decide +kernel⟩
abbrev s__law_lead : Stmt := topS 84
theorem sc__law_lead : FnScope ["_law_leads", "_law_ends", "_law_whole", "_law_house", "_law_end"] ["_law_leads", "_law_ends"] (defScope s__law_lead) :=
  ⟨rfl, rfl, rfl, by decide +kernel, rfl, by decide +kernel, by decide +kernel⟩
abbrev s__law_less : Stmt := topS 85
theorem sc__law_less : FnScope ["_law_one", "_law_other"] ["_law_one", "_law_other"] (defScope s__law_less) :=
  ⟨rfl, rfl, rfl, by decide +kernel, rfl, by decide +kernel, by decide +kernel⟩
def mineOf (D : Dl) (h : Nat) : List (List Int) := (steps D).filter fun st => decide (st.getD 0 0 = (h : Int))
def choicesOf (D : Dl) : Nat → List (List (List Int))
  | 0 => [[]]
  | i + 1 => (choicesOf D i).flatMap fun F => (mineOf D i).map fun st => F ++ [st]
def forestsOf (D : Dl) : List (List (List Int)) := (choicesOf D D.length).filter fun F => goesHome (F.map (doorF D))
theorem mine_in {D : Dl} {h : Nat} {st : List Int} (hm : st ∈ mineOf D h) : st ∈ steps D ∧ st.getD 0 0 = (h : Int) := by
  obtain ⟨a, b⟩ := List.mem_filter.mp hm
  exact ⟨a, of_decide_eq_true b⟩
theorem choices_in {D : Dl} : ∀ (i : Nat) (F : List (List Int)), F ∈ choicesOf D i ↔ F.length = i ∧ ∀ (h : Nat) st, F[h]? = some st → st ∈ mineOf D h
  | 0, F => by
    simp only [choicesOf, List.mem_singleton]
    constructor
    · rintro rfl; exact ⟨rfl, fun h st e => by simp at e⟩
    · rintro ⟨e, _⟩; exact List.eq_nil_of_length_eq_zero e
  | i + 1, F => by
    rw [choicesOf, List.mem_flatMap]
    constructor
    · rintro ⟨G, hG, hF⟩
      obtain ⟨st, hst, rfl⟩ := List.mem_map.mp hF
      obtain ⟨a, b⟩ := (choices_in i G).mp hG
      refine ⟨by rw [List.length_append, a]; rfl, fun h t e => ?_⟩
      by_cases z : h < G.length
      · rw [List.getElem?_append_left z] at e
        exact b h t e
      · rw [List.getElem?_append_right (by omega)] at e
        have : h - G.length = 0 := by
          have := (List.getElem?_eq_some_iff.mp e).1
          simp at this
          omega
        rw [this] at e
        simp at e
        subst e
        have : h = i := by omega
        subst this
        exact hst
    · rintro ⟨a, b⟩
      have hl : F ≠ [] := fun z => by subst z; simp at a
      obtain ⟨x, hx⟩ : ∃ x, F.getLast? = some x := by
        cases z : F.getLast? with
        | none => rw [List.getLast?_eq_none_iff] at z; exact absurd z hl
        | some x => exact ⟨x, rfl⟩
      have e := last_of hx
      have hd : F.dropLast.length = i := by rw [List.length_dropLast]; omega
      refine ⟨F.dropLast, (choices_in i _).mpr ⟨hd, fun h st e2 => b h st ?_⟩, List.mem_map.mpr ⟨x, ?_, e.symm⟩⟩
      · rw [e, List.getElem?_append_left (List.getElem?_eq_some_iff.mp e2).1]
        exact e2
      · refine b i x ?_
        rw [e, List.getElem?_append_right (by omega), hd]
        simp
theorem choice_of {D : Dl} {F : List (List Int)} (h : F ∈ choicesOf D D.length) : Choice D.length (steps D) F := by
  obtain ⟨a, b⟩ := (choices_in _ F).mp h
  refine ⟨a, fun s hs => ?_, fun h s e => (mine_in (b h s e)).2⟩
  obtain ⟨j, hj⟩ := List.getElem?_of_mem hs
  exact (mine_in (b j s hj)).1
theorem of_choice {D : Dl} {F : List (List Int)} (c : Choice D.length (steps D) F) : F ∈ choicesOf D D.length := (choices_in _ F).mpr ⟨c.len, fun h st e => List.mem_filter.mpr ⟨c.mem st (List.mem_of_getElem? e), decide_eq_true (c.own h st e)⟩⟩
theorem mine_len {D : Dl} (o : Small D) (h : Nat) : (mineOf D h).length ≤ 27 := Nat.le_trans (List.length_filter_le _ _) (o.all D.length o.hl)
theorem choices_len {D : Dl} (o : Small D) : ∀ i, i ≤ 3 → (choicesOf D i).length ≤ 27 ^ i
  | 0, _ => Nat.le_refl _
  | i + 1, h => by
    have ih := choices_len o i (by omega)
    have := fm_len (l := choicesOf D i) (f := fun F => (mineOf D i).map fun st => F ++ [st]) (m := 27) fun F _ => by
      rw [List.length_map]; exact mine_len o i
    have h2 : (choicesOf D i).length * 27 ≤ 27 ^ i * 27 := Nat.mul_le_mul_right _ ih
    rw [choicesOf, Nat.pow_succ]
    omega
inductive Rlforests : List Ty → Ty → Prop
  | mk (c : Int) (D : Dl) (rank : Nat → Nat) (o : WebOk c D rank) : Rlforests [yDl D] (yL ((forestsOf D).map fun F => yT (F.map yIs)))
abbrev yFo (F : List (List Int)) : Ty := yT (F.map yIs)
inductive Rlfrac : List Ty → Ty → Prop
  | mk (a b : Int) (hb : 0 < b) (h : b < 2 ^ 20) : Rlfrac [yI a, yI b] (yFs (Rat.divInt a b))
/-- small fractions -/
structure Sm (r : Rat) : Prop where
  n : r.num.natAbs ≤ 2000
  d : r.den ≤ 12
inductive Rlsum : List Ty → Ty → Prop
  | p (x y : Rat) (hx : Sm x) (hy : Sm y) : Rlsum [yFs x, yFs y, yI 1] (yFs (x + y))
  | m (x y : Rat) (hx : Sm x) (hy : Sm y) : Rlsum [yFs x, yFs y, yI (-1)] (yFs (x - y))
inductive Rlless : List Ty → Ty → Prop
  | mk (x y : Rat) (hx : Sm x) (hy : Sm y) : Rlless [yFs x, yFs y] (yB (decide (x < y)))
section
variable {P : Program} {w : World} {K : PySem.W.Frag} {mg : Str → Option Value} {base : Heap}
theorem ok_lfrac (D : Def K mg "_law_fraction" s__law_fraction ["_law_top", "_law_bottom"]) (bl : Blt mg) : Cal P w K mg base "_law_fraction" 1 ["_law_top", "_law_bottom"] (spG Rlfrac) := by
  have sc := sc__law_fraction
  refine D.ok sc (fun Ts T r => by cases r; rfl) (fun f cdv A outer s H vs E B Ts T r sb a hr => ?_)
  refine ⟨_, (pss_cons (ps_par (i := 2) (j := 3) (by rfl) sc.nd rfl rfl (by decide) rfl rfl (pa_cons (pb_abs bl.abs_ (pa_cons (pv 0) pa_nil)) (pa_cons (pv 1) pa_nil)) (by rfl))
(pss_cons (ps_while PassesOwn.never (pt_cmpR op_gt (pv 3) pe_int (nomark _))
  (pss_one (ps_par (i := 2) (j := 3) (by rfl) sc.nd rfl rfl (by decide) rfl rfl (pa_cons (pv 3) (pa_cons (pe_op op_modN (pb_int bl.int_ (pa_cons (pv 2) pa_nil)) (pv 3)) pa_nil)) (by rfl))))
(pss_one (ps_ret (pe_tup (pa_cons (pe_op op_fdivN (pv 0) (pv 2)) (pa_cons (pe_op op_fdivN (pv 1) (pv 2)) pa_nil))))))), fun Q q => ?_⟩
  cases r with
  | mk x y hy0 hyb =>
  obtain ⟨v, w', rfl, rfl, rfl⟩ := all2 a
  refine sq_par (A := yI (x.natAbs : Int)) (C := yI y) sb (ga_2 (gv_abs (gv_v rfl)) (gv_v rfl)) fun v w' B1 H1 g1 hv hw => ?_
  obtain rfl : v = .int (x.natAbs : Int) := hv
  obtain rfl : w' = .int y := hw
  refine sq_while (fun m σ B2 H2 => ∃ u z : Int, σ = [some (.int x), some (.int y), some (.int u), some (.int z)] ∧ 0 ≤ u ∧ 0 ≤ z ∧ m = z.toNat ∧ Int.gcd u z = Int.gcd x y ∧ Gr B H B2 H2) g1.in_ _ ⟨_, _, rfl, by omega, by omega, rfl, by simp [Int.gcd], g1⟩ fun m σ B2 H2 s2 h => ?_
  obtain ⟨u, z, rfl, hu, hz, hm, hg, g2⟩ := h
  refine ⟨decide (z > 0), gt_test (gv_I0 (gv_v (i := 3) rfl) gv_c), fun hb B3 H3 g3 => ?_, fun hb B3 H3 g3 => ?_⟩
  · have hb := of_decide_eq_true hb
    refine st_par (A := yI z) (C := yI (u.fmod z)) g3.in_ (ga_2 (gv_v (i := 3) rfl) (gv_IC (gv_int (gv_v (i := 2) rfl)) (gv_v (i := 3) rfl) (by omega))) fun v w' B4 H4 g4 hv hw => ?_
    obtain rfl : v = .int z := hv
    obtain rfl : w' = .int (u.fmod z) := hw
    have e1 : u.fmod z = u % z := Int.fmod_eq_emod_of_nonneg _ (by omega)
    have h1 := Int.emod_nonneg u (show z ≠ 0 by omega)
    have h2 := Int.emod_lt_of_pos u hb
    refine ⟨(u.fmod z).toNat, B4, g4.in_, by omega, z, u.fmod z, rfl, by omega, by omega, rfl, ?_, (g2.trans g3).trans g4⟩
    rw [e1, ← hg]
    exact gcd_step hu hz
  · have hb := of_decide_eq_false hb
    have hz0 : z = 0 := by omega
    subst hz0
    have e : u = ((Int.gcd x y : Nat) : Int) := by
      rw [← hg, Int.gcd_zero_right]
      omega
    have hgp : 0 < Int.gcd x y := Int.gcd_pos_of_ne_zero_right _ (by omega)
    have hgl : ((Int.gcd x y : Nat) : Int) ≤ y := Int.le_of_dvd hy0 (Int.gcd_dvd_right _ _)
    obtain ⟨m1, m2, m3⟩ := made_eq x y (by omega) ((Int.gcd x y : Nat) : Int) (by rw [if_neg (by omega)])
    subst e
    generalize ((Int.gcd x y : Nat) : Int) = g at *
    have hT : yFs (Rat.divInt x y) = yT [yI (x.fdiv g), yI (y.fdiv g)] := by rw [m1, m2]
    rw [hT] at q
    refine st_ret g3.in_ (gv_tup2 (gv_IC (gv_v (i := 0) rfl) (gv_v (i := 2) rfl) ⟨m3, by omega⟩) (gv_IC (gv_v (i := 1) rfl) (gv_v (i := 2) rfl) ⟨m3, by omega⟩)) (q.go (g2.trans g3))
theorem num_small {a : Int} {M : Nat} (h : a.natAbs ≤ M) (hM : M < 2 ^ 63) : -(2 ^ 64) < a ∧ a < 2 ^ 64 := by omega
theorem ok_lsum (D : Def K mg "_law_sum" s__law_sum ["_law_one", "_law_other", "_law_sign"]) (c_law_fraction : Cal P w K mg base "_law_fraction" 1 ["_law_top", "_law_bottom"] (spG Rlfrac)) : Cal P w K mg base "_law_sum" 2 ["_law_one", "_law_other", "_law_sign"] (spG Rlsum) := by
  have sc := sc__law_sum
  refine D.ok sc (fun Ts T r => by cases r <;> rfl) (fun f cdv A outer s H vs E B Ts T r sb a hr => ?_)
  refine ⟨_, (pss_one (ps_ret (pe_cl c_law_fraction (hr.mono (by decide)) (pa_cons (pe_op op_add (pe_op op_mul (pe_ix (ix_tupK K rfl) (pv 0) pe_int (fun _ _ => rfl)) (pe_ix (ix_tupK K rfl) (pv 1) pe_int (fun _ _ => rfl))) (pe_op op_mul (pe_op op_mul (pv 2) (pe_ix (ix_tupK K rfl) (pv 1) pe_int (fun _ _ => rfl))) (pe_ix (ix_tupK K rfl) (pv 0) pe_int (fun _ _ => rfl)))) (pa_cons (pe_op op_mul (pe_ix (ix_tupK K rfl) (pv 0) pe_int (fun _ _ => rfl)) (pe_ix (ix_tupK K rfl) (pv 1) pe_int (fun _ _ => rfl))) pa_nil))))), fun Q q => ?_⟩
  have key : ∀ (x y : Rat) (sg : Int) (z : Rat) (v1 v2 : V), Sm x → Sm y → (sg = 1 ∨ sg = -1) → Rat.divInt (x.num * y.den + sg * y.num * x.den) ((x.den : Int) * y.den) = z → (yFs x).p v1 B → (yFs y).p v2 B → Post B H (yFs z) Q →
      tRet (tCl (spG Rlfrac) (tCons (tOp (rI0 fun i j => .int (i + j)) (tOp (rI CMul fun i j => .int (i * j)) (tOp (rIxT K) (tVar 0) (tC (.int 0))) (tOp (rIxT K) (tVar 1) (tC (.int 1)))) (tOp (rI CMul fun i j => .int (i * j)) (tOp (rI CMul fun i j => .int (i * j)) (tVar 2) (tOp (rIxT K) (tVar 1) (tC (.int 0)))) (tOp (rIxT K) (tVar 0) (tC (.int 1))))) (tCons (tOp (rI CMul fun i j => .int (i * j)) (tOp (rIxT K) (tVar 0) (tC (.int 1))) (tOp (rIxT K) (tVar 1) (tC (.int 1)))) tNil))) { nx := fun _ H' => Q .non H', rt := Q } [some v1, some v2, some (.int sg)] H := fun x y sg z v1 v2 sx sy hs e h1 h2 q => by
    have i0 : ∀ (k j : Nat) (v : V) (r : Rat) (n : Int), [some v1, some v2, some (V.int sg)][k]? = some (some v) → (yFs r).p v B → ([yI r.num, yI (r.den : Int)] : List Ty)[j]? = some (yI n) → Gv (tOp (rIxT K) (tVar k) (tC (.int (j : Int)))) [some v1, some v2, some (V.int sg)] B (yI n) := fun k j v r n hk hv he => gv_ixT (gv_var hk hv (Same.refl _)) gv_c isTu_t rfl he
    have a1 := sx.n
    have a2 := sx.d
    have a3 := sy.n
    have a4 := sy.d
    have dx := x.den_pos
    have dy := y.den_pos
    have hpos : (0 : Int) < (x.den : Int) * y.den := Int.mul_pos (by omega) (by omega)
    have hlt : (x.den : Int) * y.den < 2 ^ 20 := by
      have : x.den * y.den ≤ 12 * 12 := Nat.mul_le_mul a2 a4
      have h3 : ((x.den * y.den : Nat) : Int) = (x.den : Int) * y.den := by simp
      omega
    refine st_ret (T := yFs z) sb (gv_cl (ga_2 (gv_I0 (gv_IC (i0 0 0 v1 x x.num rfl h1 rfl) (i0 1 1 v2 y y.den rfl h2 rfl) (.inr (by omega))) (gv_IC (gv_IC (gv_v (i := 2) rfl) (i0 1 0 v2 y y.num rfl h2 rfl) (.inr (by omega))) (i0 0 1 v1 x x.den rfl h1 rfl) (.inr (by omega)))) (gv_IC (i0 0 1 v1 x x.den rfl h1 rfl) (i0 1 1 v2 y y.den rfl h2 rfl) (.inr (by omega)))) (gives_G (R := Rlfrac) ?_)) q
    rw [← e]
    exact .mk _ _ hpos hlt
  cases r with
  | p x y hx hy =>
    obtain ⟨v1, v2, v3, rfl, h1, h2, rfl⟩ := all3 a
    refine key x y 1 (x + y) v1 v2 hx hy (.inl rfl) ?_ h1 h2 q
    rw [Int.one_mul]
    exact plus_eq x y
  | m x y hx hy =>
    obtain ⟨v1, v2, v3, rfl, h1, h2, rfl⟩ := all3 a
    refine key x y (-1) (x - y) v1 v2 hx hy (.inr rfl) ?_ h1 h2 q
    rw [← minus_eq x y]
    congr 1
    rw [Int.neg_mul, Int.one_mul, Int.neg_mul]
    rfl
theorem ok_lless (D : Def K mg "_law_less" s__law_less ["_law_one", "_law_other"]) : Cal P w K mg base "_law_less" 1 ["_law_one", "_law_other"] (spG Rlless) := by
  have sc := sc__law_less
  refine D.ok sc (fun Ts T r => by cases r; rfl) (fun f cdv A outer s H vs E B Ts T r sb a hr => ?_)
  refine ⟨_, (pss_one (ps_ret (pe_cmpR op_lt (pe_op op_mul (pe_ix (ix_tupK K rfl) (pv 0) pe_int (fun _ _ => rfl)) (pe_ix (ix_tupK K rfl) (pv 1) pe_int (fun _ _ => rfl))) (pe_op op_mul (pe_ix (ix_tupK K rfl) (pv 1) pe_int (fun _ _ => rfl)) (pe_ix (ix_tupK K rfl) (pv 0) pe_int (fun _ _ => rfl))) (nomark _)))), fun Q q => ?_⟩
  cases r with
  | mk x y sx sy =>
  obtain ⟨v1, v2, rfl, h1, h2⟩ := all2 a
  have a2 := sx.d
  have a4 := sy.d
  have i0 : ∀ (k j : Nat) (v : V) (r : Rat) (n : Int), [some v1, some v2][k]? = some (some v) → (yFs r).p v B → ([yI r.num, yI (r.den : Int)] : List Ty)[j]? = some (yI n) → Gv (tOp (rIxT K) (tVar k) (tC (.int (j : Int)))) [some v1, some v2] B (yI n) := fun k j v r n hk hv he => gv_ixT (gv_var hk hv (Same.refl _)) gv_c isTu_t rfl he
  refine st_ret (T := yB (decide (x.num * y.den < y.num * x.den))) sb (gv_I0 (gv_IC (i0 0 0 v1 x x.num rfl h1 rfl) (i0 1 1 v2 y y.den rfl h2 rfl) (.inr (by omega))) (gv_IC (i0 1 0 v2 y y.num rfl h2 rfl) (i0 0 1 v1 x x.den rfl h1 rfl) (.inr (by omega)))) fun v B' H' g hv => q v B' H' g ?_
  have e : decide (x < y) = decide (x.num * y.den < y.num * x.den) := by
    congr 1
    exact propext (Rat.lt_iff x y)
  rw [e]; exact hv
theorem tw_M {a : Rat} {M : Nat} (h : ∃ X : Int, X.natAbs ≤ M ∧ a * 12 = (X : Rat)) : a.den ∣ 12 ∧ a.num.natAbs ≤ M := by
  obtain ⟨X, h1, h2⟩ := h
  have e : a.num * 12 = X * (a.den : Int) := by
    have hd := den_ne a
    have h3 := rat_nd a
    have h4 : (a.num : Rat) * 12 = (X : Rat) * (((a.den : Nat) : Int) : Rat) := by
      generalize (((a.den : Nat) : Int) : Rat) = b at *
      generalize (a.num : Rat) = z at *
      generalize (X : Rat) = y at *
      clear h1
      grind
    exact_mod_cast h4
  have en : a.num.natAbs * 12 = X.natAbs * a.den := by
    have := congrArg Int.natAbs e
    rw [Int.natAbs_mul, Int.natAbs_mul, Int.natAbs_natCast] at this
    exact this
  have hd : a.den ∣ 12 := by
    have h5 : a.den ∣ a.num.natAbs * 12 := ⟨X.natAbs, by rw [en, Nat.mul_comm]⟩
    exact (Nat.Coprime.dvd_of_dvd_mul_left (Nat.Coprime.symm a.reduced) h5)
  refine ⟨hd, ?_⟩
  have h12 : a.den ≤ 12 := Nat.le_of_dvd (by decide) hd
  have h6 : X.natAbs * a.den ≤ M * 12 := Nat.mul_le_mul h1 h12
  omega
theorem sm_tw {a : Rat} {M : Nat} (h : ∃ X : Int, X.natAbs ≤ M ∧ a * 12 = (X : Rat)) (hM : M ≤ 2000) : Sm a := by
  obtain ⟨a1, a2⟩ := tw_M h
  exact ⟨by omega, Nat.le_of_dvd (by decide) a1⟩
def leadSum (x : Nm → Rat) (es : List Int) (i : Nat) : Rat := ((List.range i).map fun h => lead0 x h (es.getD h 0).toNat).sum
theorem leadSum_succ {x : Nm → Rat} {es : List Int} {i : Nat} : leadSum x es (i + 1) = leadSum x es i + lead0 x i (es.getD i 0).toNat := by
  unfold leadSum
  rw [List.range_succ, List.map_append, List.sum_append, List.map_cons, List.map_nil, List.sum_cons, List.sum_nil]
  grind
theorem leadSum_tw {x : Nm → Rat} (tw : Twelfth x) (es : List Int) : ∀ i, ∃ X : Int, X.natAbs ≤ 72 * i ∧ leadSum x es i * 12 = (X : Rat)
  | 0 => ⟨0, by simp, by have : ((0 : Int) : Rat) = 0 := rfl; rw [this]; show (0 : Rat) * 12 = 0; grind⟩
  | i + 1 => by
    obtain ⟨X, a, b⟩ := leadSum_tw tw es i
    obtain ⟨Y, c, d⟩ := tw_lead tw i (es.getD i 0).toNat
    refine ⟨X + Y, by omega, ?_⟩
    rw [leadSum_succ, Rat.intCast_add, ← b, ← d]
    grind
abbrev yLeads (D : Dl) (x : Nm → Rat) : Ty := yT ((leadRows D x D.length).map fun l => yT (l.map yFs))
inductive Rllead : List Ty → Ty → Prop
  | mk (D : Dl) (x : Nm → Rat) (o : Small D) (tw : Twelfth x) (es : List Int) (hl : es.length ≤ D.length) (h : ∀ (i : Nat) e, es[i]? = some e → ∃ d, D[i]? = some d ∧ 0 ≤ e ∧ e < (d.length : Int)) : Rllead [yLeads D x, yIs es] (yFs (leadSum x es es.length))
theorem ok_llead (D : Def K mg "_law_lead" s__law_lead ["_law_leads", "_law_ends"]) (bl : Blt mg) (c_law_sum : Cal P w K mg base "_law_sum" 2 ["_law_one", "_law_other", "_law_sign"] (spG Rlsum)) : Cal P w K mg base "_law_lead" 3 ["_law_leads", "_law_ends"] (spG Rllead) := by
  have sc := sc__law_lead
  refine D.ok sc (fun Ts T r => by cases r; rfl) (fun f cdv A outer s H vs E B Ts T r sb a hr => ?_)
  refine ⟨_, (pss_cons (ps_set (i := 2) sc.nd rfl (.inl rfl) (pe_tup (pa_cons pe_int (pa_cons pe_int pa_nil))))
(pss_cons (ps_for PassesOwn.never rfl (pi_enumT (by rfl) bl.enumerate_ (pa_cons (pv 1) pa_nil)) (pg_tup (by rfl) (pgs_cons (pg_name (i := 3) sc.nd rfl (.inl rfl)) (pgs_cons (pg_name (i := 4) sc.nd rfl (.inl rfl)) pgs_nil)))
  (pss_one (ps_set (i := 2) sc.nd rfl (.inl rfl) (pe_cl c_law_sum (hr.mono (by decide)) (pa_cons (pv 2) (pa_cons (pe_ix (ix_tupK K rfl) (pe_ix (ix_tupK K rfl) (pv 0) (pv 3) (fun _ _ => rfl)) (pv 4) (fun _ _ => rfl)) (pa_cons pe_int pa_nil)))))))
(pss_one (ps_ret (pv 2))))), fun Q q => ?_⟩
  cases r with
  | mk D x o tw es hl he =>
  obtain ⟨v1, v2, rfl, h1, h2⟩ := all2 a
  have hD3 := o.hl
  refine sq_set (i := 2) (T := yFs 0) sb (gv_tup2 (A1 := yI (0 : Rat).num) (A2 := yI ((0 : Rat).den : Int)) gv_c gv_c) fun v3 B1 H1 g1 hv3 => ?_
  refine sq_for g1.in_ (gi_enumT (gv_var (i := 1) rfl h2 g1.bs) isTu_t) (fun i σ B2 H2 => ∃ vw n3 n4, σ = [some v1, some v2, some vw, n3, n4] ∧ Gr B H B2 H2 ∧ (yFs (leadSum x es i)).p vw B2)
    (fun B2 H2 g2 => ⟨_, _, _, rfl, g1.trans g2, (yFs _).m g2.bs hv3⟩) (fun Bs i z σ B1 H1 B2 H2 hi s1 s2 s3 hP g2 hz => ?_) (fun σ B2 H2 s1 s2 hP => ?_)
  · obtain ⟨vw, n3, n4, rfl, gg, hvw⟩ := hP
    rw [List.length_map] at hi
    have e : es[i]? = some es[i] := List.getElem?_eq_getElem hi
    rw [hT_map i _ e] at hz
    obtain ⟨d, hd, e0, e1⟩ := he i _ e
    refine g_tup2 hz g2.in_ fun vh ve hvh hve => ?_
    obtain rfl : vh = .int (i : Int) := hvh
    obtain rfl : ve = .int es[i] := hve
    have ed : es.getD i 0 = es[i] := by rw [List.getD_eq_getElem?_getD, e]; rfl
    have hvw2 := (yFs _).m g2.bs hvw
    have hlt : es[i].toNat < d.length := by omega
    have hiD := (List.getElem?_eq_some_iff.mp hd).1
    refine st_set (i := 2) (T := yFs (leadSum x es (i + 1))) g2.in_ (gv_cl (ga_3 (gv_var (i := 2) rfl hvw2 (Same.refl _)) (gv_ixT (i := es[i]) (j := es[i].toNat) (ts := (leadRow x i d).map yFs) (T := yFs (lead0 x i es[i].toNat)) (gv_ixT (i := (i : Int)) (j := i) (gv_var (i := 0) rfl h1 (gg.bs.trans g2.bs)) (gv_v (i := 3) rfl) isTu_t rfl ?_) (gv_v (i := 4) rfl) isTu_t (by omega) ?_) gv_c) (gives_G (R := Rlsum) ?_)) fun v B3 H3 g3 hv => ?_
    · rw [List.getElem?_map]
      unfold leadRows
      rw [List.getElem?_map, List.getElem?_range hiD]
      simp only [Option.map_some, hd, Option.getD_some]
    · rw [List.getElem?_map]
      unfold leadRow
      rw [List.getElem?_map, List.getElem?_range hlt]
      rfl
    · rw [leadSum_succ, ed]
      exact .p _ _ (sm_tw (leadSum_tw tw es i) (by omega)) (sm_tw (tw_lead tw i _) (by omega))
    · exact ⟨B3, s2.trans (g2.bs.trans g3.bs), g3.in_, _, _, _, rfl, (gg.trans g2).trans g3, hv⟩
  · obtain ⟨vw, n3, n4, rfl, gg, hvw⟩ := hP
    rw [List.length_map] at hvw
    exact st_ret s2 (gv_var (i := 2) rfl hvw (Same.refl _)) fun v B' H' g hv => q v B' H' (gg.trans g) hv
theorem ok_lforests (D : Def K mg "_law_forests" s__law_forests ["_law_dealers"]) (bl : Blt mg) (c_law_steps : Cal P w K mg base "_law_steps" 1 ["_law_dealers"] (spG Rlsteps)) (c_law_door : Cal P w K mg base "_law_door" 1 ["_law_dealers", "_law_step"] (spG Rldoor)) (c_law_goes_home : Cal P w K mg base "_law_goes_home" 1 ["_law_doors_here"] (spG Rlhome)) : Cal P w K mg base "_law_forests" 2 ["_law_dealers"] (spG Rlforests) := by
  have sc := sc__law_forests
  refine D.ok sc (fun Ts T r => by cases r; rfl) (fun f cdv A outer s H vs E B Ts T r sb a hr => ?_)
  refine ⟨_, (pss_cons (ps_set (i := 1) sc.nd rfl (.inl rfl) (pe_lst (pa_cons (pe_tup pa_nil) pa_nil)))
(pss_cons (ps_for PassesOwn.never rfl (pi_range1 (by rfl) bl.range_ (pa_cons (pb_lenK K rfl bl.len_ (pa_cons (pv 0) pa_nil)) pa_nil)) (pg_name (i := 2) sc.nd rfl (.inr rfl))
  (pss_cons (ps_setLc (i := 3) (own := [("_law_step", 4)]) (g := (gName 4)) (tt := _) (by rfl) sc.nd rfl rfl (sw_true rfl rfl rfl (by decide +kernel)) (pi_listK K rfl (pe_cl c_law_steps (hr.mono (by decide)) (pa_cons (pv 0) pa_nil))) (blkOk_by (by kernel_rfl)) (fun _ _ _ _ _ => (pg_name (i := 4) sc.nd rfl (.inl rfl))) (fun _ _ _ _ _ => (pts_one (pt_cmpR op_eq (pe_ix (ix_tupK K rfl) (pv 4) pe_int (fun _ _ => rfl)) (pv 2) (nomark _)))) (fun _ _ _ _ _ => (pv 4)))
(pss_cons (ps_set (i := 5) sc.nd rfl (.inl rfl) (pe_lst pa_nil))
(pss_cons (ps_for PassesOwn.never rfl (pi_listK K rfl (pv 1)) (pg_name (i := 6) sc.nd rfl (.inr rfl))
  (pss_one (ps_expr (pe_bm PySem.F.plainAttrs_list PySem.F.slot_list_extend PySem.F.type_list_extend mt_extend (pv 5) (pa_cons (pe_lc (own := [("_law_step", 4)]) (g := (gName 4)) (tt := _) (by rfl) sc.nd (pi_listK K rfl (pv 3)) (blkOk_by (by kernel_rfl)) (fun _ _ _ _ _ => (pg_name (i := 4) sc.nd rfl (.inl rfl))) (fun _ _ _ _ _ => pts_nil) (fun _ _ _ _ _ => (pe_op (op_catAK K rfl) (pv 6) (pe_tup (pa_cons (pv 4) pa_nil))))) pa_nil)))))
(pss_one (ps_set (i := 1) sc.nd rfl (.inl rfl) (pv 5)))))))
(pss_one (ps_ret (pe_lc (own := [("_law_told", 6)]) (g := (gName 6)) (tt := _) (by rfl) sc.nd (pi_listK K rfl (pv 1)) (blkOk_by (by kernel_rfl)) (fun _ _ _ _ _ => (pg_name (i := 6) sc.nd rfl (.inl rfl))) (fun _ _ _ _ _ => (pts_one (pt_val (pe_cl c_law_goes_home (hr.mono (by decide)) (pa_cons (pe_lc (own := [("_law_step", 4)]) (g := (gName 4)) (tt := _) (by rfl) sc.nd (pi_tupK K rfl (pv 6)) (blkOk_by (by kernel_rfl)) (fun _ _ _ _ _ => (pg_name (i := 4) sc.nd rfl (.inl rfl))) (fun _ _ _ _ _ => pts_nil) (fun _ _ _ _ _ => (pe_cl c_law_door (hr.mono (by decide)) (pa_cons (pv 0) (pa_cons (pv 4) pa_nil))))) pa_nil))))) (fun _ _ _ _ _ => (pv 6))))))), fun Q q => ?_⟩
  cases r with
  | mk c D rank o =>
  obtain ⟨v1, rfl, h1⟩ := all1 a
  have hD3 := o.sm.hl
  have len : (steps D).length ≤ 27 := o.sm.all D.length o.sm.hl
  have inbS : ∀ st ∈ steps D, doorF D st < (D.length : Int) := fun st hst => ((steps_ok o).inb st hst).2.2.2
  refine sq_set (i := 1) (T := yL ((choicesOf D 0).map yFo)) sb (gv_lst1 gv_tup0) fun v2 B1 H1 g1 hv2 => ?_
  refine sq_for g1.in_ (gi_rng1 (n := ((D.map yHs).length : Nat)) (gv_lenT (gv_var (i := 0) rfl h1 g1.bs) isTu_t) (by rw [List.length_map]; omega) (by omega)) (fun i σ B2 H2 => ∃ vf n2 n3 n4 n5 n6, σ = [some v1, some vf, n2, n3, n4, n5, n6] ∧ Gr B H B2 H2 ∧ (yL ((choicesOf D i).map yFo)).p vf B2)
    (fun B2 H2 g2 => ⟨_, _, _, _, _, _, rfl, g1.trans g2, (yL _).m g2.bs hv2⟩) (fun Bs i z σ B1 H1 B2 H2 hi s1 s2 s3 hP g2 hz => ?_) (fun σ B2 H2 s1 s2 hP => ?_)
  · obtain ⟨vf, n2, n3, n4, n5, n6, rfl, gg, hvf⟩ := hP
    rw [List.length_map] at hi
    have hi : i < D.length := by simpa using hi
    obtain rfl : z = .int (i : Int) := hz
    have gg2 := gg.trans g2
    refine sq_set (i := 3) (T := yL ((mineOf D i).map yIs)) g2.in_ (gv_lc1f (F := yIs) (E := yIs) (p := fun st => decide (st.getD 0 0 = (i : Int))) (gi_list (gv_cl (ga_1 (gv_var (i := 0) rfl h1 gg2.bs)) (gives_G (R := Rlsteps) (.mk D o.sm))) isLs_l) (by rw [List.length_map]) hT_map (by omega) (fun _ => rfl) (fun j st y B3 hj s3 hy => ?_) fun j st y B3 hj hp s3 hy => gv_var (i := 4) rfl hy (Same.refl _)) fun v3 B3 H3 g3 hv3 => ?_
    · obtain ⟨h, sd, n, p, e, ep⟩ := steps_mem.mp (List.mem_of_getElem? hj)
      refine GvT.cast (b := decide (V.int (st.getD 0 0) = V.int (i : Int))) (gt_test (gv_eq (gv_ixT (i := 0) (j := 0) (T := yI (st.getD 0 0)) (gv_var (i := 4) rfl hy (Same.refl _)) gv_c isTu_t rfl (by rw [e]; rfl)) (gv_v (i := 2) rfl) rfl)) (by simp)
    · have gg3 := gg2.trans g3
      refine hq_newL g3.in_ ga_nil (by simp) fun d B4 H4 g4 nd4 hd4 w4 => ?_
      have hd0 : H d = none := gg3.hs.free hd4
      have gg4 := gg3.trans g4
      have hml := mine_len o.sm i
      have hcl : (choicesOf D i).length ≤ 729 := Nat.le_trans (choices_len o.sm i (by omega)) (by
        have : i = 0 ∨ i = 1 ∨ i = 2 := by omega
        rcases this with rfl | rfl | rfl <;> decide)
      have hvf4 := (yL ((choicesOf D i).map yFo)).m (g2.bs.trans (g3.bs.trans g4.bs)) hvf
      have hv34 := (yL ((mineOf D i).map yIs)).m g4.bs hv3
      refine sq_for g4.in_ (gi_list (gv_var (i := 1) rfl hvf4 (Same.refl _)) isLs_l) (fun j σ B5 H5 => ∃ n4 n6, σ = [some v1, some vf, some (.int (i : Int)), some v3, n4, some (.ref d), n6] ∧ Ow d (oL ((((choicesOf D i).take j).flatMap fun F => (mineOf D i).map fun st => F ++ [st]).map yFo)) B5 H5 ∧ Gr B H B5 H5 ∧ (yL ((mineOf D i).map yIs)).p v3 B5)
        (fun B5 H5 g5 => ⟨_, _, rfl, w4.m g5, gg4.trans g5, (yL _).m g5.bs hv34⟩) (fun Bs2 j y σ B5 H5 B6 H6 hj s5 s6 s7 hP g6 hy => ?_) (fun σ B5 H5 s5 s6 hP => ?_)
      · obtain ⟨n4, n6, rfl, w5, gg5, hv35⟩ := hP
        rw [List.length_map] at hj
        obtain ⟨F, hF⟩ : ∃ r, (choicesOf D i)[j]? = some r := ⟨_, List.getElem?_eq_getElem hj⟩
        rw [hT_map j F hF] at hy
        have hv36 := (yL ((mineOf D i).map yIs)).m g6.bs hv35
        obtain ⟨lF, _⟩ := (choices_in i F).mp (List.mem_of_getElem? hF)
        refine ht_ext (us := ((mineOf D i).map fun st => F ++ [st]).map yFo) (is_var rfl) (w5.m g6) g6.in_ ?_ (Gv.h (Gv.cast (A := yL ((mineOf D i).map fun st => yFo (F ++ [st]))) (gv_lc1 (F := yIs) (gi_list (gv_var (i := 3) rfl hv36 (Same.refl _)) isLs_l) (by rw [List.length_map]) hT_map (by omega) (fun _ => rfl) fun k st x B7 hk s8 hx => Gv.cast (gv_catT (gv_var (i := 6) rfl hy s8) (gv_tup1 (gv_var (i := 4) rfl hx (Same.refl _))) (by rw [List.length_map]; simp; omega)) (by show yT (F.map yIs ++ [yIs st]) = yT ((F ++ [st]).map yIs); rw [mapapp])) (by rw [List.map_map]; rfl)) g6.in_) fun B7 H7 o7 g7 w7 => ?_
        · have l1 := fm_len (l := (choicesOf D i).take j) (f := fun F => (mineOf D i).map fun st => F ++ [st]) (m := 27) fun F _ => by rw [List.length_map]; exact hml
          rw [List.length_take] at l1
          rw [List.length_map, List.length_map, List.length_map]
          have : min j (choicesOf D i).length * 27 ≤ 729 * 27 := Nat.mul_le_mul_right _ (by omega)
          omega
        · refine ⟨B7, s6.trans (g6.bs.trans g7.bs), ((w5.m g6).m g7).same g7.in_, _, _, rfl, ?_, ((gg5.trans g6).trans g7).put ((w5.m g6).m g7) hd0, (yL _).m g7.bs hv36⟩
          rw [take_fm hF, List.map_append]
          exact w7
      · obtain ⟨n4, n6, rfl, w5, gg5, hv35⟩ := hP
        rw [List.length_map, List.take_length] at w5
        obtain ⟨B6, g6', s6', h6⟩ := w5.pub gg5 hd0
        have h6 := oL_ty h6
        refine st_set (i := 1) (T := yL ((choicesOf D (i + 1)).map yFo)) g6'.in_ (gv_var (i := 5) rfl h6 (Same.refl _)) fun v B7 H7 g7 hv => ?_
        exact ⟨B7, s2.trans (g2.bs.trans (g3.bs.trans (g4.bs.trans (s5.trans (s6'.trans g7.bs))))), g7.in_, _, _, _, _, _, _, rfl, g6'.trans g7, hv⟩
  · obtain ⟨vf, n2, n3, n4, n5, n6, rfl, gg, hvf⟩ := hP
    rw [List.length_map] at hvf
    have hvf : (yL ((choicesOf D D.length).map yFo)).p vf B2 := by simpa using hvf
    have hcl : (choicesOf D D.length).length ≤ 100000 := Nat.le_trans (choices_len o.sm D.length hD3) (by
      have : D.length = 0 ∨ D.length = 1 ∨ D.length = 2 ∨ D.length = 3 := by omega
      rcases this with e | e | e | e <;> rw [e] <;> decide)
    refine st_ret (T := yL ((forestsOf D).map yFo)) s2 (gv_lc1f (F := yFo) (E := yFo) (p := fun F => goesHome (F.map (doorF D))) (gi_list (gv_var (i := 1) rfl hvf (Same.refl _)) isLs_l) (by rw [List.length_map]) hT_map hcl (fun _ => rfl) (fun j F y B3 hj s3 hy => ?_) fun j F y B3 hj hp s3 hy => gv_var (i := 6) rfl hy (Same.refl _)) fun v B' H' g hv => q v B' H' (gg.trans g) hv
    have ch := choice_of (List.mem_of_getElem? hj)
    refine gt_test (gv_cl (Ts := [yL ((F.map (doorF D)).map fun i => yI i)]) (ga_1 (Gv.cast (A := yL (F.map fun st => yI (doorF D st))) (gv_lc1 (F := yIs) (gi_tup (gv_var (i := 6) rfl hy (Same.refl _)) isTu_t) (by rw [List.length_map]) hT_map (by rw [ch.len]; omega) (fun _ => rfl) fun k st x B4 hk s4 hx => ?_) (by rw [List.map_map]; rfl))) (gives_G (R := Rlhome) (.mk _ (by rw [List.length_map, ch.len]; omega) fun e he => ?_)))
    · obtain ⟨h, sd, n, p, e, ep⟩ := steps_mem.mp (ch.mem st (List.mem_of_getElem? hk))
      refine gv_cl (ga_2 (gv_var (i := 0) rfl h1 ((gg.bs.trans s3).trans s4)) (gv_var (i := 4) rfl hx (Same.refl _))) (gives_G (R := Rldoor) ?_)
      rw [e, doorF_eq ep]
      exact .mk D h sd n p ep
    · obtain ⟨st, hst, rfl⟩ := List.mem_map.mp he
      rw [List.length_map, ch.len]
      exact inbS st (ch.mem st hst)
end
end LD
set_option maxRecDepth 100000
set_option maxHeartbeats 400000
/-! LdLaw3: the sums by forests; _law_right -/

namespace LD
open PySem PyProof.Rows L2
abbrev s__law_right : Stmt := topS 86
theorem sc__law_right : FnScope ["_law_dealers", "_law_leads", "_law_told", "_law_sums", "_law_due"] ["_law_dealers", "_law_leads", "_law_told", "_law_sums", "_law_due"] (defScope s__law_right) :=
  ⟨rfl, rfl, rfl, by decide +kernel, rfl, by decide +kernel, by decide +kernel⟩
def EAll (m : List (FK × Ty)) (kvs : List (FK × V)) (H : Hp) : Prop := kvs.map (·.1) = m.map (·.1) ∧ All (m.map (·.2)) (kvs.map (·.2)) H
theorem EAll.m {m : List (FK × Ty)} {kvs : List (FK × V)} {H H' : Hp} (s : Same H H') (h : EAll m kvs H) : EAll m kvs H' := ⟨h.1, h.2.m s⟩
theorem EAll.look {H : Hp} {f : FK} {T : Ty} : ∀ {m : List (FK × Ty)} {kvs : List (FK × V)}, EAll m kvs H → LD.look m f = some T → ∃ v, valV kvs f = some v ∧ T.p v H
  | [], [], _, e => by simp [LD.look] at e
  | [], _ :: _, h, e => by simp [LD.look] at e
  | p :: m, [], h, e => by simp [EAll] at h
  | p :: m, q :: kvs, h, e => by
    obtain ⟨h1, h2⟩ := h
    rw [List.map_cons, List.map_cons] at h1 h2
    obtain ⟨e1, e2⟩ := List.cons.inj h1
    rw [LD.look] at e
    by_cases z : p.1 = f
    · rw [if_pos z] at e
      cases e
      exact ⟨q.2, valV_pos (e1.trans z), h2.1⟩
    · rw [if_neg z] at e
      obtain ⟨v, a, b⟩ := EAll.look (m := m) (kvs := kvs) ⟨e2, h2.2⟩ e
      exact ⟨v, by rw [valV_neg (fun y => z (e1.symm.trans y))]; exact a, b⟩
theorem EAll.put {H : Hp} {f : FK} {T : Ty} {v : V} (hv : T.p v H) : ∀ {m : List (FK × Ty)} {kvs : List (FK × V)}, f ∉ m.map (·.1) → EAll m kvs H → EAll (m ++ [(f, T)]) (putK kvs f v) H := fun {m kvs} n h => by
  have hn : f ∉ kvs.map (·.1) := by rw [h.1]; exact n
  have e : putK kvs f v = kvs ++ [(f, v)] := by
    unfold putK
    rw [if_neg]
    rw [List.any_eq_true]
    rintro ⟨p, hp, e⟩
    exact hn (List.mem_map.mpr ⟨p, hp, of_decide_eq_true e⟩)
  rw [e]
  refine ⟨by rw [List.map_append, List.map_append, h.1]; rfl, ?_⟩
  rw [List.map_append, List.map_append]
  exact All.append (us := [T]) (ws := [v]) ⟨hv, trivial⟩ h.2
/-- a dict with nested keys, owned -/
structure OwE (P : Program) (w : World) (d : Addr) (m : List (FK × Ty)) (B H : Hp) : Prop where
  nb : B d = none
  ex : ∃ kvs, EAt P w H d kvs ∧ EAll m kvs B
section
variable {P : Program} {w : World} {d e : Addr} {me : List (FK × Ty)} {B H B1 H1 B0 H0 : Hp} {o : HO}
theorem OwE.there (k : OwE P w d me B H) : H d ≠ none := by
  obtain ⟨kvs, ⟨xs, h, _⟩, _⟩ := k.ex
  rw [h]; exact fun z => nomatch z
theorem OwE.m (k : OwE P w d me B H) (g : Gr B H B1 H1) : OwE P w d me B1 H1 := by
  obtain ⟨kvs, ea, al⟩ := k.ex
  obtain ⟨xs, h, r⟩ := id ea
  exact ⟨g.ob h k.nb, kvs, ea.m g.hs, al.m g.bs⟩
theorem EAt.cut {kvs : List (FK × V)} {ds : List Addr} (h : d ∉ ds) (n : ∀ x ∈ ds, ∀ xs, H x ≠ some (.tup xs)) (ea : EAt P w H d kvs) : EAt P w (cut H ds) d kvs := by
  obtain ⟨xs, h1, r⟩ := ea
  have st : ∀ b vs, H b = some (.tup vs) → LD.cut H ds b = some (.tup vs) := fun b vs hb => by
    rw [cut_out (fun z => n b z _ hb)]
    exact hb
  have stA : ∀ {f : FK} {vs : List V}, All (f.map yIs) vs H → All (f.map yIs) vs (LD.cut H ds) := by
    intro f
    induction f with
    | nil => intro vs k; cases vs with
      | nil => trivial
      | cons _ _ => exact k.elim
    | cons ns f ih => intro vs k; cases vs with
      | nil => exact k.elim
      | cons v vs =>
        obtain ⟨c, e, hc⟩ := yIs_iff.mp k.1
        exact ⟨yIs_iff.mpr ⟨c, e, st _ _ hc⟩, ih k.2⟩
  refine ⟨xs, by rw [cut_out h]; exact h1, Paired.mapP r fun _ _ z => ⟨z.1, ?_, z.2.2⟩⟩
  obtain ⟨c, vs, e, hc, k⟩ := z.2.1
  exact ⟨c, vs, e, st _ _ hc, stA k⟩
/-- over draws -/
theorem OwE.dice (k : OwE P w e me B H) (ne : e ≠ d) (od : Ow d oDice B H) (g : GrD d B H B1 H1) : OwE P w e me B1 H1 := by
  obtain ⟨kvs, ea, al⟩ := k.ex
  obtain ⟨o, ho, hd⟩ := od.ex
  have ea2 : EAt P w (cut H [d]) e kvs := ea.cut (by simp [ne]) fun x hx xs hxs => by
    rw [List.mem_singleton.mp hx, ho] at hxs
    exact oDice.nt hd xs (Option.some.inj hxs)
  obtain ⟨xs, h, r⟩ := id ea2
  exact ⟨g.g.ob h k.nb, kvs, ea2.m g.g.hs, al.m g.g.bs⟩
/-- x = {} -/
theorem hq_newE {σ : L2.St} {D : Ends} {tz : TS} {i : Nat} (s : Same B H) (k : ∀ d H1, Gr B H B H1 → H d = none → OwE P w d [] B H1 → tz D (σ.set i (some (.ref d))) H1) : tSeq (tAsg (tDNewE P w) (gName i)) tz D σ H := fun p hp => k p _ (Gr.own s hp) hp ⟨s.free hp, [], ⟨[], upd_same, .nil⟩, rfl, trivial⟩
/-- x[f] = e, a new key -/
theorem hq_eput {σ : L2.St} {D : Ends} {tz : TS} {te ty td : TE} {f : FK} {T : Ty} (hd : Is td σ B H d) (k : OwE P w d me B H) (s : Same B H) (n : f ∉ me.map (·.1)) (hl : me.length < 100000) (h : Gv te σ B T) (hy : Gv ty σ B (yFo f)) (q : ∀ B1 H1 o, Gr B H B1 H1 → OwE P w d (me ++ [(f, T)]) B1 (upd H1 d o) → tz D σ (upd H1 d o)) : tSeq (sEPut P w td ty te) tz D σ H := by
  refine h H s _ fun v B1 H1 g hv => hd B1 H1 g _ ((hy.m g.bs) H1 g.in_ _ fun y B2 H2 g2 hk => ?_)
  have gg := g.trans g2
  have k2 := k.m gg
  obtain ⟨kvs, ea, al⟩ := k2.ex
  obtain ⟨b, vs, rfl, hb, hal⟩ := hk
  have hlen : kvs.length = me.length := by
    have := congrArg List.length al.1
    simpa using this
  refine ⟨d, kvs, f, b, rfl, ea, rfl, ⟨b, vs, rfl, g2.in_ _ _ hb, hal.m g2.in_⟩, by rw [hlen]; exact size_lt hl, fun xs r => q B2 H2 _ gg ⟨k2.nb, _, eat_upd ea r, EAll.put (T.m g2.bs hv) n al⟩⟩
/-- f in x -/
theorem gh_ein {σ : L2.St} {ty : TE} {f : FK} {T : Ty} {i : Nat} (hi : σ[i]? = some (some (.ref d))) (k : OwE P w d me B H) (s : Same B H) (hy : Gv ty σ B (yFo f)) (e : look me f = some T) : Gh (tEIn P w ty (tVar i)) σ B H (yB true) := fun Q q =>
  hy H s _ fun y B1 H1 g hk => by
    have k2 := k.m g
    obtain ⟨kvs, ea, al⟩ := k2.ex
    obtain ⟨b, vs, rfl, hb, hal⟩ := hk
    obtain ⟨v, hv, _⟩ := al.look e
    exact ⟨.ref d, hi, d, kvs, f, b, rfl, ea, rfl, ⟨b, vs, rfl, g.in_ _ _ hb, hal.m g.in_⟩, q _ B1 H1 g (by rw [hv]; rfl)⟩
theorem gh_eget {σ : L2.St} {ty : TE} {f : FK} {T : Ty} {i : Nat} (hi : σ[i]? = some (some (.ref d))) (k : OwE P w d me B H) (s : Same B H) (hy : Gv ty σ B (yFo f)) (e : look me f = some T) : Gh (tEGet P w (tVar i) ty) σ B H T := fun Q q =>
  ⟨.ref d, hi, hy H s _ fun y B1 H1 g hk => by
    have k2 := k.m g
    obtain ⟨kvs, ea, al⟩ := k2.ex
    obtain ⟨b, vs, rfl, hb, hal⟩ := hk
    obtain ⟨v, hv, tv⟩ := al.look e
    exact ⟨d, kvs, f, b, v, rfl, ea, rfl, ⟨b, vs, rfl, g.in_ _ _ hb, hal.m g.in_⟩, hv, q v B1 H1 g tv⟩⟩
end
section
variable {σ : L2.St} {B H : Hp} {A C T : Ty} {ta tb : TE}
theorem gh_andB {a b : Bool} (h1 : Gh ta σ B H (yB a)) (h2 : ∀ B1 H1, Gr B H B1 H1 → a = true → Gh tb σ B1 H1 (yB b)) : Gh (tAndV ta tb) σ B H (yB (a && b)) := fun Q q => h1 _ fun v B2 H2 g hv => ⟨a, hv, by
  cases a with
  | true =>
    show tb σ H2 Q
    exact h2 B2 H2 g rfl Q (q.go g)
  | false => exact q _ B2 H2 g rfl⟩
theorem gh_op {r : R2} (ha : Gh ta σ B H A) (hb : Gv tb σ B C) (hr : ∀ x y B1 H1, Same B B1 → Same B1 H1 → A.p x B1 → C.p y B1 → ∀ Q : VK, Post B1 H1 T Q → r x y H1 Q) : Gh (tOp r ta tb) σ B H T :=
  fun Q q => ha _ fun x B2 H2 g hx => (hb.m g.bs) H2 g.in_ _ fun y B3 H3 g2 hy => hr x y B3 H3 (g.bs.trans g2.bs) g2.in_ (A.m g2.bs hx) hy Q (q.go (g.trans g2))
end
/-- right: what is told is the due, and a forest with this sum -/
def spRight (P : Program) (w : World) (D : Dl) (x : Nm → Rat) : Sp := fun vs H Q _ => ∃ B v1 v2 v3 d v5 m r F, vs = [v1, v2, v3, .ref d, v5] ∧ Same B H ∧ (yEnd r F).p v3 B ∧ (yFs r).p v5 B ∧ OwE P w d m B H ∧ look m F = some (yFs r) ∧ Post B H (yB true) Q
theorem dp_fs {K : PySem.W.Frag} {r : Rat} : IsDp K (yFs r) (dF r) := fun v H h => dp_F v H (yF_of h)
section
variable {P : Program} {w : World} {K : PySem.W.Frag} {mg : Str → Option Value} {base : Heap}
theorem ok_right {D0 : Dl} {x0 : Nm → Rat} (D : Def K mg "_law_right" s__law_right ["_law_dealers", "_law_leads", "_law_told", "_law_sums", "_law_due"]) (bl : Blt mg) : Cal P w K mg base "_law_right" 1 ["_law_dealers", "_law_leads", "_law_told", "_law_sums", "_law_due"] (spRight P w D0 x0) := by
  have sc := sc__law_right
  refine D.okS sc (fun vs H Q E h => ?_) (fun f cdv A outer s H vs Q E hr h => ?_)
  · obtain ⟨B, v1, v2, v3, d, v5, m, r, F, rfl, _⟩ := h
    rfl
  · obtain ⟨B, v1, v2, v3, d, v5, m, r, F, rfl, sb, h3, h5, k, hl, q⟩ := h
    refine ⟨_, (pss_cons (ps_if (PW.pt (pw_or (pt_not (pt_val (pb_isi bl.isinstance_ (pa_cons (pv 2) (pa_cons (pe_bltn (v := .ty "tuple") (by rfl) bl.tuple_ (by decide +kernel) rfl) pa_nil))))) (pw_or (pt_cmpR op_ne (pb_lenK K rfl bl.len_ (pa_cons (pv 2) pa_nil)) pe_int (nomark _)) (pw_or (pt_cmpR (op_neDK K rfl (hr64 hr)) (pe_ix (ix_tupK K rfl) (pv 2) pe_int (fun _ _ => rfl)) (pv 4) (nomark _)) (pw_or1 (pt_not (pt_val (pb_isi bl.isinstance_ (pa_cons (pe_ix (ix_tupK K rfl) (pv 2) pe_int (fun _ _ => rfl)) (pa_cons (pe_bltn (v := .ty "tuple") (by rfl) bl.tuple_ (by decide +kernel) rfl) pa_nil))))))))))
  (pss_one (ps_ret pe_bl))
  pss_nil)
(pss_one (ps_ret (pe_and (pe_cmp (pc_ein (hr16 hr) (pe_ix (ix_tupK K rfl) (pv 2) pe_int (fun _ _ => rfl)) (pv 3))) (pe_one (pe_cmpR (op_eqDK K rfl (hr64 hr)) (pe_eget (hr16 hr) (pv 3) (pe_ix (ix_tupK K rfl) (pv 2) pe_int (fun _ _ => rfl)) (fun _ _ => rfl)) (pv 4) (nomark _))))))), ?_⟩
    have told : ∀ (σ : L2.St) B', σ[2]? = some (some v3) → Same B B' → Gv (tVar 2) σ B' (yEnd r F) := fun σ B' hk s' => gv_var hk h3 s'
    have told0 : ∀ (σ : L2.St) B', σ[2]? = some (some v3) → Same B B' → Gv (tOp (rIxT K) (tVar 2) (tC (.int 0))) σ B' (yFs r) := fun σ B' hk s' => gv_ixT (i := 0) (j := 0) (told σ B' hk s') gv_c isTu_t rfl rfl
    have told1 : ∀ (σ : L2.St) B', σ[2]? = some (some v3) → Same B B' → Gv (tOp (rIxT K) (tVar 2) (tC (.int 1))) σ B' (yFo F) := fun σ B' hk s' => gv_ixT (i := 1) (j := 1) (told σ B' hk s') gv_c isTu_t rfl rfl
    refine sq_if0 sb (GvT.cast (b := !true || (!decide (V.int ((([yFs r, yFo F] : List Ty).length : Nat) : Int) = V.int 2) || (!(PyData.eqv (dF r) (dF r)) || !true))) (gt_or (gt_not (gt_test (gv_isi (told _ _ rfl (Same.refl _)) gv_c isa_tup kit_tt))) fun _ => gt_or (gt_test (gv_ne (gv_lenT (told _ _ rfl (Same.refl _)) isTu_t) gv_c rfl)) fun _ => gt_or (gt_test (gv_neD (told0 _ _ rfl (Same.refl _)) (gv_var (i := 4) rfl h5 (Same.refl _)) dp_fs dp_fs sh_F sh_F)) fun _ => gt_not (gt_test (gv_isi (told0 _ _ rfl (Same.refl _)) gv_c isa_tup kit_tt))) (by rw [eqv_F]; simp)) fun B1 H1 g1 => ?_
    have k1 := k.m g1
    refine ht_ret (T := yB (true && true)) (gh_andB (gh_ein (i := 3) rfl k1 g1.in_ (told1 _ _ rfl g1.bs) hl) fun B2 H2 g2 _ => gh_op (C := yFs r) (T := yB true) (gh_eget (i := 3) rfl (k1.m g2) g2.in_ (told1 _ _ rfl (g1.bs.trans g2.bs)) hl) (gv_var (i := 4) rfl h5 (g1.bs.trans g2.bs)) fun x y B3 H3 _ s3 hx hy Q q => ⟨dF r, dF r, dp_fs x H3 ((yFs r).m s3 hx), dp_fs y H3 ((yFs r).m s3 hy), sh_F, sh_F, q _ B3 H3 (Gr.refl s3) (by rw [eqv_F]; simp; rfl)⟩) fun v B' H' g hv => q v B' H' (g1.trans g) hv
end
end LD
set_option maxRecDepth 100000
set_option maxHeartbeats 400000
/-! LdLaw4: _law_dice, _law_doors -/

namespace LD
open PySem PyProof.Rows L2
abbrev s__law_dice : Stmt := topS 68
theorem sc__law_dice : FnScope ["_law_script", "_law_cell"] ["_law_script"] (defScope s__law_dice) :=
  ⟨rfl, rfl, rfl, by decide +kernel, rfl, by decide +kernel, by decide +kernel⟩
abbrev s__law_doors : Stmt := topS 70
theorem sc__law_doors : FnScope ["_law_dice_here", "_law_houses", "_law_cups", "_law_lead_here", "_law_found", "_law_k"] ["_law_dice_here", "_law_houses", "_law_cups", "_law_lead_here"] (defScope s__law_doors) :=
  ⟨rfl, rfl, rfl, by decide +kernel, rfl, by decide +kernel, by decide +kernel⟩
/-- a list of ints, whichever -/
def yS (K : PySem.W.Frag) (ns : List Int) : Ty := ⟨fun v H => ∃ a, v = .ref a ∧ SqL K H a (ns.map V.int), fun s ⟨a, e, h⟩ => ⟨a, e, same_l s h⟩⟩
theorem isLs_s {K : PySem.W.Frag} {ns : List Int} : IsLs K (yS K ns) (ns.map fun i => yI i) := fun v H ⟨a, e, h⟩ => ⟨a, _, e, h, all_ints.mpr rfl⟩
def absL (ns : List Int) : List Int := (ns.take 63).map fun (i : Int) => ((i.natAbs : Nat) : Int)
def spDice (K : PySem.W.Frag) : Sp := fun vs H Q _ => ∃ B v ns, vs = [v] ∧ Same B H ∧ (yS K ns).p v B ∧ ns.length ≤ 100000 ∧ ∀ d B' H', Gr B H B' H' → H d = none → Ow d oDice B' H' → Q (.ref d) H'
/-- drawn doors -/
structure DoorsOk (n c l : Int) (ds : List Int) : Prop where
  l1 : 1 ≤ ds.length
  l3 : ds.length ≤ 3
  inb : ∀ x ∈ ds, -c ≤ x ∧ x < n
  first : ∃ x, ds[0]? = some x ∧ (x < 0 ∨ x = l)
def yDoors (n c l : Int) : Ty := yEx (fun ds => DoorsOk n c l ds) fun ds => yL (ds.map fun i => yI i)
def spDoors : Sp := fun vs H Q _ => ∃ B d n c l, vs = [.ref d, .int n, .int c, .int l] ∧ Same B H ∧ Ow d oDice B H ∧ 1 ≤ n ∧ n ≤ 3 ∧ 1 ≤ c ∧ c ≤ 3 ∧ -1 ≤ l ∧ l < n ∧ ∀ v B' H', GrD d B H B' H' → (yDoors n c l).p v B' → Q v H'
section
variable {d e : Addr} {σ : L2.St} {B H B' : Hp} {T A C : Ty} {te ta tb td : TE} {Ts ts : List Ty} {D : Ends} {tz : TS}
/-- a call that draws -/
theorem gd_call {sp : Sp} {tr : TA} (hd : ∀ H Q, Q (.ref d) H → td σ H Q) (ha : GvA tr σ B Ts) (g : ∀ vs B1 H1, Same B B1 → Same B1 H1 → Ow d oDice B1 H1 → All Ts vs B1 → ∀ Q : VK, (∀ v B' H', GrD d B1 H1 B' H' → T.p v B' → Q v H') → sp (.ref d :: vs) H1 Q E0) : Gd d (tCl sp (tCons td tr)) σ B T := fun B1 H s s1 o Q q =>
  hd H _ (by
    -- the arguments at the greater base
    refine ha H (s.trans s1) _ fun vs B2 H2 g2 hvs => ?_
    obtain ⟨J, g3, s3⟩ := g2.join s s1
    exact g vs J H2 (s.trans g3.bs) g3.in_ (o.m g3) (hvs.m s3) Q fun v B' H' g' hv => q v B' H' ((GrD.of o s1 g3).trans g') hv)
/-- a new list, owned -/
theorem dq_newL {tr : TA} {i : Nat} (s : Same B H) (o : Ow d oDice B H) (h : GdA d tr σ B ts) (hl : ts.length ≤ 100000) (k : ∀ e B1 H1, GrD d B H B1 H1 → H e = none → e ≠ d → Ow e (oL ts) B1 H1 → tz D (σ.set i (some (.ref e))) H1) : tSeq (tAsg (tLst tr) (gName i)) tz D σ H := h B H (Same.refl _) s o _ fun vs B2 H2 g hvs =>
  ⟨size_1000 (by rw [hvs.len]; exact hl), fun p hp => by
    have ne : p ≠ d := (g.o.ne hp).symm
    have hp0 : H p = none := by
      cases z : H p with
      | none => rfl
      | some u =>
        have := g.g.hs p u (by rw [cut_out (by simp [ne])]; exact z)
        rw [hp] at this; cases this
    exact k p B2 _ (g.and (Gr.own g.g.in_ hp)) hp0 ne (Ow.new g.g.in_ hp ⟨vs, rfl, hvs⟩)⟩
/-- a list is returned, owned -/
theorem ht_retL {tr : TA} (s : Same B H) (h : GvA tr σ B ts) (hl : ts.length ≤ 100000) (k : ∀ p B1 H1, Gr B H B1 H1 → H p = none → Ow p (oL ts) B1 H1 → D.rt (.ref p) H1) : tRet (tLst tr) D σ H := h H s _ fun vs B2 H2 g hvs =>
  ⟨size_1000 (by rw [hvs.len]; exact hl), fun p hp => k p B2 _ (g.trans (Gr.own g.in_ hp)) (g.hs.free hp) (Ow.new g.in_ hp ⟨vs, rfl, hvs⟩)⟩
/-- the last int is known -/
theorem ow_exP {p : Int → Prop} (w : Ow e (oL (ts ++ [yP p])) B H) : ∃ x, p x ∧ Ow e (oL (ts ++ [yI x])) B H := by
  obtain ⟨o, h1, xs, rfl, h2⟩ := w.ex
  obtain ⟨ws, v, rfl, h3, x, hv, hx⟩ := all_last h2
  exact ⟨x, hx, w.nb, _, h1, _, rfl, All.append (us := [yI x]) (ws := [v]) ⟨hv, trivial⟩ h3⟩
end
section
variable {P : Program} {w : World} {K : PySem.W.Frag} {mg : Str → Option Value} {base : Heap}
theorem ok_ldice (D : Def K mg "_law_dice" s__law_dice ["_law_script"]) (bl : Blt mg) : Cal P w K mg base "_law_dice" 1 ["_law_script"] (spDice K) := by
  have sc := sc__law_dice
  refine D.okS sc (fun vs H Q E h => ?_) (fun f cdv A outer s H vs Q E hr h => ?_)
  · obtain ⟨B, v, ns, rfl, _⟩ := h
    rfl
  · obtain ⟨B, v, ns, rfl, sb, h1, hl, q⟩ := h
    refine ⟨_, (pss_one (ps_ret (pe_lst (pa_cons (pe_lc (own := [("_law_cell", 1)]) (g := (gName 1)) (tt := _) (by rfl) sc.nd (pi_listK K rfl (pe_slice sl_list (pv 0) po_none (po_some pe_int))) (blkOk_by (by kernel_rfl)) (fun _ _ _ _ _ => (pg_name (i := 1) sc.nd rfl (.inl rfl))) (fun _ _ _ _ _ => pts_nil) (fun _ _ _ _ _ => (pb_abs bl.abs_ (pa_cons (pb_int bl.int_ (pa_cons (pv 1) pa_nil)) pa_nil)))) (pa_cons pe_int (pa_cons pe_int (pa_cons pe_int (pa_cons pe_int pa_nil)))))))), ?_⟩
    have hslice : Gv (tSl (rSlL K) (tVar 0) tNoPart (tPart (tC (.int 63)))) [some v, none] B (yL ((ns.take 63).map fun i => yI i)) := fun H s Q q => (gv_var (i := 0) rfl h1 (Same.refl B)) H s _ fun u B1 H1 g hu => by
      show tPart (tC (.int 63)) _ H1 (fun x H3 => rSlL K u none x H3 Q)
      refine gv_part (B := B1) gv_c g.in_ fun B2 H2 g2 => ?_
      obtain ⟨a, rfl, hs⟩ := hu
      refine ⟨a, _, rfl, same_l (g2.bs.trans g2.in_) hs, fun p hp => q _ _ _ ((g.trans g2).trans (Gr.new g2.in_ hp)) ⟨p, _, rfl, upd_same, all_ints.mpr ?_⟩⟩
      unfold cutV
      have e1 : HT.sIx (ns.map V.int).length 0 none = 0 := rfl
      have e2 : HT.sIx (ns.map V.int).length (ns.map V.int).length (some 63) = min 63 (ns.map V.int).length := HT.sIx_nat _ _ 63
      rw [e1, e2, List.drop_zero, Nat.sub_zero, List.length_map, List.map_take]
      by_cases z : 63 ≤ ns.length
      · rw [Nat.min_eq_left z]
      · rw [Nat.min_eq_right (by omega), List.take_of_length_le (by rw [List.length_map]; omega), List.take_of_length_le (by rw [List.length_map]; omega)]
    have hcells : Gv (tLc (iList K (tSl (rSlL K) (tVar 0) tNoPart (tPart (tC (.int 63))))) (gName 1) tYes (tCB rAbs (tCons (tCB rInt1 (tCons (tVar 1) tNil)) tNil)) [1]) [some v, none] B (yL ((absL ns).map fun i => yI i)) :=
      Gv.cast (A := yL ((ns.take 63).map fun (i : Int) => yI ((i.natAbs : Nat) : Int))) (gv_lc1 (F := fun i => yI i) (gi_list hslice isLs_l) (by rw [List.length_map]) hT_map (by rw [List.length_take]; omega) (fun _ => rfl) fun j x y B2 hj s1 hy => gv_abs (gv_int (gv_var (i := 1) rfl hy (Same.refl _)))) (by unfold absL; rw [List.map_map]; rfl)
    exact ht_retL (ts := tsD (absL ns) 0 0 1 0) sb (ga_5 hcells gv_c gv_c gv_c gv_c) (by simp) fun p B1 H1 g1 hp w => q p B1 H1 g1 hp (ow_dice (Nat.zero_le _) w)
theorem ok_ldoors (D : Def K mg "_law_doors" s__law_doors ["_law_dice_here", "_law_houses", "_law_cups", "_law_lead_here"]) (bl : Blt mg) (c_law_draw : Cal P w K mg base "_law_draw" 1 ["_law_dice_here", "_law_sides"] spDr) : Cal P w K mg base "_law_doors" 2 ["_law_dice_here", "_law_houses", "_law_cups", "_law_lead_here"] spDoors := by
  have sc := sc__law_doors
  refine D.okS sc (fun vs H Q E h => ?_) (fun f cdv A outer s H vs Q E hr h => ?_)
  · obtain ⟨B, d, n, c, l, rfl, _⟩ := h
    rfl
  · obtain ⟨B, d, n, c, l, rfl, sb, o0, n1, n3, c1, c3, l1, ln, q⟩ := h
    refine ⟨_, (pss_cons (ps_set (i := 4) sc.nd rfl (.inl rfl) (pe_lst (pa_cons (pe_ifExp (PW.pt (pw_and (pt_cmpR op_ge (pv 3) pe_int (nomark _)) (pw_and1 (pt_cmpR op_gt (pe_cl c_law_draw (hr.mono (by decide)) (pa_cons (pv 0) (pa_cons pe_int pa_nil))) pe_int (nomark _))))) (pv 3) (pe_op op_sub (pe_un un_neg pe_int) (pe_cl c_law_draw (hr.mono (by decide)) (pa_cons (pv 0) (pa_cons (pv 2) pa_nil))))) pa_nil)))
(pss_cons (ps_for PassesOwn.never rfl (pi_range1 (by rfl) bl.range_ (pa_cons (pe_cl c_law_draw (hr.mono (by decide)) (pa_cons (pv 0) (pa_cons pe_int pa_nil))) pa_nil)) (pg_name (i := 5) sc.nd rfl (.inl rfl))
  (pss_one (ps_expr (pe_bm PySem.F.plainAttrs_list PySem.F.slot_list_append PySem.F.type_list_append mt_append (pv 4) (pa_cons (pe_ifExp (pt_cmpR op_gt (pe_cl c_law_draw (hr.mono (by decide)) (pa_cons (pv 0) (pa_cons pe_int pa_nil))) pe_int (nomark _)) (pe_cl c_law_draw (hr.mono (by decide)) (pa_cons (pv 0) (pa_cons (pv 1) pa_nil))) (pe_op op_sub (pe_un un_neg pe_int) (pe_cl c_law_draw (hr.mono (by decide)) (pa_cons (pv 0) (pa_cons (pv 2) pa_nil))))) pa_nil)))))
(pss_one (ps_ret (pv 4))))), ?_⟩
    have dv : ∀ σ : L2.St, σ[0]? = some (some (.ref d)) → ∀ (H : Hp) (Q : VK), Q (.ref d) H → tVar 0 σ H Q := fun σ hσ H Q q => ⟨_, hσ, q⟩
    have negc : ∀ (σ : L2.St) B, σ[0]? = some (some (.ref d)) → σ[2]? = some (some (.int c)) → Gd d (tOp (rI0 fun i j => .int (i - j)) (tUn (rU fun i => .int (-i)) (tC (.int 1))) (tCl spDr (tCons (tVar 0) (tCons (tVar 2) tNil)))) σ B (yP fun x => -c ≤ x ∧ x < 0) := fun σ B h0 h2 =>
      gd_I0 (gd_i (p := fun x => x = -1) (gv_neg gv_c) rfl) (gd_draw (n := c) (dv σ h0) (gv_v h2) c1 (by omega)) fun i j hi hj => by omega
    have pos3 : ∀ (σ : L2.St) B, σ[0]? = some (some (.ref d)) → GdT d (tTest (tOp (rI0 fun i j => .bl (decide (i > j))) (tCl spDr (tCons (tVar 0) (tCons (tC (.int 3)) tNil))) (tC (.int 0)))) σ B (fun _ => True) := fun σ B h0 =>
      gdt_test (gd_op (A := yP fun i => 0 ≤ i ∧ i < 3) (C := yI 0) (gd_draw (n := 3) (dv σ h0) gv_c (by decide) (by decide)) (gd_gv gv_c) fun x y B1 H1 _ s ⟨i, ei, _⟩ hy Q k => ⟨i, 0, ei, hy, k _ B1 H1 (Gr.refl s) ⟨_, rfl, trivial⟩⟩)
    refine dq_newL (i := 4) (ts := [yP fun x => (-c ≤ x ∧ x < n) ∧ (x < 0 ∨ x = l)]) sb o0 (gda_1 (gd_if (p := fun b => b = true → 0 ≤ l) ?_ (fun hp => gd_i (gv_v (i := 3) rfl) ⟨by have := hp rfl; omega, .inr rfl⟩) fun _ => (negc _ B rfl rfl).imp fun v B1 _ ⟨x, e, hx⟩ => ⟨x, e, by omega, .inl hx.2⟩)) (by simp) fun e B1 H1 g1 he ne w1 => ?_
    · refine gdt_and (p := fun b => b = true → 0 ≤ l) (gdt_gt (b := decide (l ≥ 0)) (gt_test (gv_I0 (gv_v (i := 3) rfl) gv_c)) fun z => of_decide_eq_true z) (fun hp => ?_) (fun _ z => nomatch z)
      exact fun B1 H s s1 o Q k => pos3 _ B rfl B1 H s s1 o Q fun b B2 H2 g _ => k b B2 H2 g fun _ => hp rfl
    · obtain ⟨x0, hx0, w1⟩ := ow_exP (ts := []) w1
      refine dq_forR (p := fun i => 0 ≤ i ∧ i < 3) g1.g.in_ g1.o (gd_draw (n := 3) (dv _ rfl) gv_c (by decide) (by decide)) (fun i h => ⟨h.1, by omega⟩) (fun i σ B2 H2 => ∃ (ds : List Int) (n5 : Option V), σ = [some (.ref d), some (.int n), some (.int c), some (.int l), some (.ref e), n5] ∧ ds.length = i + 1 ∧ ds[0]? = some x0 ∧ (∀ x ∈ ds, -c ≤ x ∧ x < n) ∧ Ow e (oL (ds.map fun i => yI i)) B2 H2 ∧ GrD d B H B2 H2)
        (fun B2 H2 g2 => ⟨[x0], _, rfl, rfl, rfl, fun x hx => by rw [List.mem_singleton.mp hx]; exact hx0.1, w1.dice ne g2, g1.trans g2⟩) (fun i σ B1 H1 B2 H2 g ⟨ds, n5, a1, a2, a3, a4, a5, a6⟩ => ⟨ds, n5, a1, a2, a3, a4, a5.m g, a6.and g⟩) (fun k i x σ B2 H2 hk hik s2 hP hx => ?_) (fun k σ B2 H2 hk s2 hP => ?_)
      · obtain ⟨ds, n5, rfl, dl, d0, din, w2, g2⟩ := hP
        subst hx
        refine dt_app (is_var rfl) w2 ne g2.o s2 (by rw [List.length_map]; omega) (T := yP fun x => -c ≤ x ∧ x < n) (gd_if (p := fun _ => True) (pos3 _ _ rfl) (fun _ => (gd_draw (n := n) (dv _ rfl) (gv_v (i := 1) rfl) n1 (by omega)).imp fun v B3 _ ⟨x, e, hx⟩ => ⟨x, e, by omega⟩) fun _ => (negc _ _ rfl rfl).imp fun v B3 _ ⟨x, e, hx⟩ => ⟨x, e, by omega⟩) fun B3 H3 o3 g3 w3 => ?_
        obtain ⟨x, hx, w4⟩ := ow_exP w3
        have w2' := w2.dice ne g3
        refine ⟨B3, w2'.same g3.g.in_, ds ++ [x], _, rfl, by rw [List.length_append, dl]; rfl, ?_, fun y hy => ?_, ?_, (g2.trans g3).put w2' ne he⟩
        · rw [List.getElem?_append_left (by omega)]; exact d0
        · rcases List.mem_append.mp hy with hy | hy
          · exact din y hy
          · rw [List.mem_singleton.mp hy]; exact hx
        · rw [List.map_append]; exact w4
      · obtain ⟨ds, n5, rfl, dl, d0, din, w2, g2⟩ := hP
        obtain ⟨B3, g3, s3, h3⟩ := g2.pub w2 ne he
        have h3 := oL_ty h3
        refine st_ret (T := yDoors n c l) g3.g.in_ ((gv_var (i := 4) rfl h3 (Same.refl _)).imp fun v B4 _ hv => ⟨ds, ⟨by omega, by omega, din, x0, d0, hx0.2⟩, hv⟩) fun v B4 H4 g4 hv => q v B4 H4 (g3.and g4) hv
end
end LD
set_option maxRecDepth 100000
set_option maxHeartbeats 400000
/-! LdDice2: list(d) of a dict with tuple keys; a drawn key; pop at a drawn place. -/
namespace LD
open PySem PyProof.Rows L2
def rListT : List V → Hp → VK → Prop := fun xs H Q => ∃ d kvs, xs = [V.ref d] ∧ Rd H d (.dT kvs) ∧ ∀ p bs, H p = none → IsKeys H kvs bs → Q (.ref p) (upd H p (.lst (bs.map V.ref)))
section
variable {X : Cx} {e : Expr} {es : List Expr} {t : TA} {p pos : Pos}
theorem pb_listT (m : X.mg "list" = none) (ha : PA X (e :: es) t) (hc : X.calm = true := by rfl) (hg : Gl X "list" := by rfl) (he : starEach (e :: es) X.env = (false, eval e X.env) :: starEach es X.env := by rfl) (hpl : (backTo pos (starEach es X.env)).any (·.1) = false := by rfl) : PE X (.Call (.Name "list" p) (e :: es) [] pos) (tCB rListT t) :=
  pe_callTy (r := rListT) (call_list_dT hc) hg m (by decide +kernel) ha (he := he) (hpl := hpl)
end
abbrev mE (es : List Ln) : List (List Int × Ty) := es.map fun p => (lk p, yB true)
def addE (es : List Ln) (p : Ln) : List Ln := if p ∈ es then es else es ++ [p]
theorem mE_keys {es : List Ln} : (mE es).map (·.1) = es.map lk := by unfold mE; rw [List.map_map]; rfl
theorem mE_put {es : List Ln} {x : Ln} : put (mE es) (lk x) (yB true) = mE (addE es x) := by
  unfold addE
  split
  · rename_i h
    induction es with
    | nil => cases h
    | cons k ks ih =>
      show put ((lk k, yB true) :: mE ks) (lk x) _ = (lk k, yB true) :: mE ks
      rw [put]
      by_cases z : k = x
      · rw [if_pos (by rw [z])]
      · rw [if_neg (fun y => z (lk_inj _ _ y)), ih (by
          rcases List.mem_cons.mp h with h | h
          · exact absurd h.symm z
          · exact h)]
  · rename_i h
    rw [put_new (by
      rw [mE_keys]
      intro hm
      obtain ⟨y, hy, e⟩ := List.mem_map.mp hm
      exact h (lk_inj _ _ e ▸ hy))]
    unfold mE
    rw [List.map_append]
    rfl
theorem addE_mem {es : List Ln} {x y : Ln} : y ∈ addE es x ↔ y ∈ es ∨ y = x := by
  unfold addE
  split
  · rename_i h
    constructor
    · exact .inl
    · rintro (h2 | rfl)
      · exact h2
      · exact h
  · simp
theorem addE_nd {es : List Ln} {x : Ln} (h : es.Nodup) : (addE es x).Nodup := by
  unfold addE
  split
  · exact h
  · rename_i z; exact nd_snoc h z
theorem addE_len {es : List Ln} {x : Ln} : (addE es x).length ≤ es.length + 1 := by
  unfold addE
  split
  · omega
  · simp
section
variable {d e : Addr} {σ : L2.St} {B H : Hp} {T A : Ty} {te ty td : TE} {D : Ends} {tz : TS} {m : List (List Int × Ty)}
theorem Gr.takes {bs : List Addr} (s : Same B H) (h : ∀ b ∈ bs, ∃ xs, H b = some (.tup xs)) : Gr B H (LD.ext B H bs) H :=
  ⟨ext_same s, Same.refl _, ext_heap s, fun a k => by
    by_cases z : a ∈ bs
    · exact .inr (.inr (h a z))
    · rw [ext_out z] at k; exact .inl k⟩
theorem keys_all {H B' : Hp} : ∀ {es : List Ln} {kvs : List (List L2.Key × V)} {bs : List Addr} {B : Hp}, DAll (mE es) kvs B → IsKeys H kvs bs → (∀ b ∈ bs, B' b = H b) → All (es.map yLn) (bs.map V.ref) B'
  | [], [], _, _, _, .nil, _ => trivial
  | e :: es, q :: kvs, _, _, k, .cons (b := b) h t, hb => by
    obtain ⟨k1, k2, k3⟩ := k
    refine ⟨?_, keys_all k3 t fun x hx => hb x (List.mem_cons_of_mem _ hx)⟩
    refine yIs_iff.mpr ⟨b, rfl, ?_⟩
    rw [hb b List.mem_cons_self, h, k1, keyL_kV]
  | [], _ :: _, _, _, k, _, _ => k.elim
  | _ :: _, [], _, _, k, _, _ => k.elim
theorem keys_tup {H : Hp} : ∀ {kvs : List (List L2.Key × V)} {bs : List Addr}, IsKeys H kvs bs → ∀ b ∈ bs, ∃ xs, H b = some (.tup xs)
  | _, _, .nil, b, hb => by cases hb
  | _, _, .cons h t, b, hb => by
    rcases List.mem_cons.mp hb with rfl | hb
    · exact ⟨_, h⟩
    · exact keys_tup t b hb
theorem gv_listT {es : List Ln} (h : Gv te σ B A) (ht : IsDT A (mE es)) : Gv (tCB rListT (tCons te tNil)) σ B (yL (es.map yLn)) :=
  gv_cb (ga_1 h) fun vs B1 H1 _ s hvs Q q => by
    obtain ⟨v, rfl, hv⟩ := all1 hvs
    obtain ⟨a, kvs, rfl, hl, k⟩ := ht v B1 hv
    refine ⟨a, kvs, rfl, same_rd s hl, fun p bs hp hk => ?_⟩
    have g := Gr.takes s (keys_tup hk)
    refine q _ _ _ (g.trans (Gr.new g.in_ hp)) ⟨p, _, rfl, upd_same, All.m (same_new (g.in_.free hp)) (keys_all k hk fun b hb => ext_in hb)⟩
/-- x[k] = e, k drawn -/
theorem dt_dputD {α : Type} {pr : α → Prop} {kf : α → List Int} (hd : Is td σ B H e) (w : Ow e (oT m) B H) (ne : e ≠ d) (o : Ow d oDice B H) (s : Same B H) (hn : (m.map (·.1)).Nodup) (hl : m.length < 100000) (h : Gv te σ B T) (hdv : ∀ H1 Q, Q (.ref e) H1 → td σ H1 Q) (hy : Gd d ty σ B (yEx pr fun a => yIs (kf a))) (k : ∀ a B1 H1 o, pr a → GrD d B H B1 H1 → Ow e (oT (put m (kf a) T)) B1 (upd H1 e o) → D.nx σ (upd H1 e o)) : sDPut td ty te D σ H := by
  refine h H s _ fun v B1 H1 g hv => hdv H1 _ (hy B1 H1 g.bs g.in_ (o.m g) _ fun y B2 H2 g2 ⟨a, pa, hk⟩ => ?_)
  have gg := (GrD.of o s g).trans g2
  have w2 := w.dice ne gg
  obtain ⟨o2, h1, kvs, rfl, h2⟩ := w2.ex
  obtain ⟨b, rfl, hb⟩ := key_of_is hk
  exact ⟨e, _, rfl, DPut.t h1 (g2.g.in_ _ _ hb) (by rw [h2.len]; exact size_lt hl), k a B2 H2 _ pa gg (w2.put ⟨_, rfl, DAll.put (T.m g2.g.bs hv) (kf a) hn h2⟩)⟩
theorem all_erase {H : Hp} : ∀ {ts : List Ty} {vs : List V} {j : Nat}, All ts vs H → All (ts.eraseIdx j) (vs.eraseIdx j) H
  | [], [], _, _ => trivial
  | t :: ts, v :: vs, 0, h => h.2
  | t :: ts, v :: vs, j + 1, h => ⟨h.1, all_erase h.2⟩
  | [], _ :: _, _, h => h.elim
  | _ :: _, [], _, h => h.elim
theorem map_erase {α β : Type} {f : α → β} : ∀ (l : List α) (j : Nat), (l.map f).eraseIdx j = (l.eraseIdx j).map f
  | [], _ => by simp
  | a :: l, 0 => by simp
  | a :: l, j + 1 => by
    rw [List.map_cons, List.eraseIdx_cons_succ, List.eraseIdx_cons_succ, List.map_cons, map_erase l j]
/-- y.append(x.pop(j)), j drawn -/
theorem dt_popApp {K : PySem.W.Frag} {tx tj : TE} {f : Addr} {ts : List Int} {us : List Ty} (hd : ∀ H1 Q, Q (.ref e) H1 → td σ H1 Q) (hx : ∀ H1 Q, Q (.ref f) H1 → tx σ H1 Q) (w : Ow e (oL us) B H) (w2 : Ow f (oL (ts.map fun i => yI i)) B H) (nef : e ≠ f) (ne : e ≠ d) (nf : f ≠ d) (o : Ow d oDice B H) (s : Same B H) (hl : us.length < 100000) (hts : ts.length < 1000)
    (hj : ∀ Q : VK, (∀ v B' H', GrD d B H B' H' → (yP fun i => 0 ≤ i ∧ i < (ts.length : Int)).p v B' → Q v H') → tj σ H Q) (k : ∀ (j : Nat) (x : Int) B1 H1 o1 o2, ts[j]? = some x → GrD d B H B1 H1 → Ow e (oL (us ++ [yI x])) B1 (upd (upd H1 f o1) e o2) → Ow f (oL ((ts.eraseIdx j).map fun i => yI i)) B1 (upd (upd H1 f o1) e o2) → D.nx σ (upd (upd H1 f o1) e o2)) : tDrop (tBM K "list" rAppend td (tCons (tBM K "list" rPopAt tx (tCons tj tNil)) tNil)) D σ H := by
  refine hd H _ ⟨?_, hx H _ ⟨?_, hj _ fun v B1 H1 g ⟨i, ei, i0, i1⟩ => ?_⟩⟩
  · obtain ⟨o, h1, xs, rfl, h2⟩ := w.ex
    exact ty_lst h1
  · obtain ⟨o, h1, xs, rfl, h2⟩ := w2.ex
    exact ty_lst h1
  · subst ei
    have v2 := w2.dice nf g
    have v1 := w.dice ne g
    obtain ⟨of, hf, xs, rfl, h2⟩ := v2.ex
    have hxs : xs = ts.map V.int := all_ints.mp h2
    have hlen : xs.length = ts.length := by rw [hxs, List.length_map]
    have hj2 : i.toNat < ts.length := by omega
    have e1 : ts[i.toNat]? = some ts[i.toNat] := List.getElem?_eq_getElem hj2
    refine ⟨f, xs, i, i.toNat, .int ts[i.toNat], rfl, rfl, hf, by omega, by omega, ?_, by rw [hxs, List.getElem?_map, e1]; rfl, ?_⟩
    · unfold seqIndex?
      rw [hlen]
      simp only []
      split
      · omega
      · rename_i z
        first | rfl | (simp; omega) | skip
    · have w3 : Ow f (oL ((ts.eraseIdx i.toNat).map fun i => yI i)) B1 (upd H1 f (.lst (xs.eraseIdx i.toNat))) := v2.put ⟨_, rfl, by
        have := all_erase (j := i.toNat) h2
        rw [map_erase] at this
        exact this⟩
      have w4 : Ow e (oL us) B1 (upd H1 f (.lst (xs.eraseIdx i.toNat))) := v1.else nef
      obtain ⟨oe, he, ys, rfl, h4⟩ := w4.ex
      refine ⟨e, ys, .int ts[i.toNat], rfl, rfl, he, by rw [h4.len]; exact size_lt hl, ?_⟩
      exact k i.toNat _ B1 H1 _ _ e1 g (w4.put ⟨_, rfl, All.append (us := [yI ts[i.toNat]]) (ws := [V.int ts[i.toNat]]) ⟨rfl, trivial⟩ h4⟩) (w3.else (Ne.symm nef))
end
section
variable {d e : Addr} {σ : L2.St} {B H : Hp} {T A : Ty} {te ty td ts : TE} {D : Ends} {tz : TS}
/-- a draw whose sides are read of what is owned -/
theorem gk_draw {n : Int} (o : Ow d oDice B H) (s : Same B H) (hd : ∀ H Q, Q (.ref d) H → td σ H Q) (hs : Gh ts σ B H (yI n)) (h1 : 1 ≤ n) (h2 : n < 1000000) (Q : VK) (q : ∀ v B' H', GrD d B H B' H' → (yP fun i => 0 ≤ i ∧ i < n).p v B' → Q v H') : tCl spDr (tCons td (tCons ts tNil)) σ H Q :=
  hd H _ (hs _ fun v B2 H2 g hv => by
    obtain rfl : v = .int n := hv
    have gd := GrD.of o s g
    exact ⟨B2, d, n, rfl, g.in_, gd.o, h1, h2, fun r B' H' g' r0 r1 => q _ B' H' (gd.trans g') ⟨r, rfl, r0, r1⟩⟩)
/-- x = list(range(n)), owned -/
theorem hq_rngO {i j : Nat} {n : Nat} (s : Same B H) (hσ : σ[i]? = some (some (.int (n : Int)))) (hn : n ≤ 1000) (k : ∀ e H1, Gr B H B H1 → H e = none → Ow e (oL (((List.range n).map fun (i : Nat) => (i : Int)).map fun i => yI i)) B H1 → tz D (σ.set j (some (.ref e))) H1) : tSeq (tAsg (tLstRg (tRg1 (tVar i))) (gName j)) tz D σ H := by
  refine ⟨.int (n : Int), hσ, (n : Int), rfl, RgOk.of_le (by decide) (by omega) (by decide) (by omega), fun p hp => ?_⟩
  refine k p _ (Gr.own s hp) hp (Ow.new s hp ⟨_, rfl, all_ints.mpr ?_⟩)
  unfold rgV
  rw [List.map_map]
  have e : ((n : Int) - 0).toNat = n := by omega
  rw [e]
  apply List.map_congr_left
  intro x _
  show V.int (0 + (x : Int)) = V.int (x : Int)
  rw [Int.zero_add]
end
end LD
set_option maxRecDepth 100000
set_option maxHeartbeats 400000
/-! LdLaw5: _law_dealer -/

namespace LD
open PySem PyProof.Rows L2
abbrev s__law_dealer : Stmt := topS 71
theorem sc__law_dealer : FnScope ["_law_dice_here", "_law_houses", "_law_cups", "_law_lead_here", "_law_upmost", "_law_many_here", "_law_found", "_law_standing", "_law_doors_here", "_law_steps_here", "_law_door_here"] ["_law_dice_here", "_law_houses", "_law_cups", "_law_lead_here", "_law_upmost"] (defScope s__law_dealer) :=
  ⟨rfl, rfl, rfl, by decide +kernel, rfl, by decide +kernel, by decide +kernel⟩
structure DealerOk (n c l : Int) (dl : List (List (Int × Int))) : Prop where
  l1 : 1 ≤ dl.length
  l3 : dl.length ≤ 3
  st : ∀ ps ∈ dl, StandOk c n dl.length ps
  nx : ∀ (s : Nat) ps, dl[s]? = some ps → ∃ p ∈ ps, p.2 = (((s + 1) % dl.length : Nat) : Int) ∧ (p.1 < 0 ∨ p.1 = l)
def yDealer (n c l : Int) : Ty := yEx (fun dl => DealerOk n c l dl) yHs
def spDealer : Sp := fun vs H Q _ => ∃ B d n c l, vs = [.ref d, .int n, .int c, .int l, .int 3] ∧ Same B H ∧ Ow d oDice B H ∧ 1 ≤ n ∧ n ≤ 3 ∧ 1 ≤ c ∧ c ≤ 3 ∧ -1 ≤ l ∧ l < n ∧ ∀ v B' H', GrD d B H B' H' → (yDealer n c l).p v B' → Q v H'
theorem srt_strict {es : List Ln} (n : es.Nodup) (i : Nat) (p q : Ln) (e1 : (sortLn es)[i]? = some p) (e2 : (sortLn es)[i + 1]? = some q) : p.1 < q.1 ∨ p.1 = q.1 ∧ p.2 < q.2 := by
  have hs := sortLn_srt es
  have hn : (sortLn es).Nodup := (sortLn_perm es).nodup_iff.mpr n
  obtain ⟨h1, rfl⟩ := List.getElem?_eq_some_iff.mp e1
  obtain ⟨h2, rfl⟩ := List.getElem?_eq_some_iff.mp e2
  have a := List.pairwise_iff_getElem.mp hs i (i + 1) h1 h2 (by omega)
  have b : (sortLn es)[i] ≠ (sortLn es)[i + 1] := List.pairwise_iff_getElem.mp hn i (i + 1) h1 h2 (by omega)
  unfold leLn at a
  rcases a with a | ⟨a1, a2⟩
  · exact .inl a
  · refine .inr ⟨a1, ?_⟩
    have : (sortLn es)[i].2 ≠ (sortLn es)[i + 1].2 := fun z => b (Prod.ext a1 z)
    omega
section
variable {P : Program} {w : World} {K : PySem.W.Frag} {mg : Str → Option Value} {base : Heap}
theorem ok_ldealer (D : Def K mg "_law_dealer" s__law_dealer ["_law_dice_here", "_law_houses", "_law_cups", "_law_lead_here", "_law_upmost"]) (bl : Blt mg) (c_law_draw : Cal P w K mg base "_law_draw" 1 ["_law_dice_here", "_law_sides"] spDr) (c_law_doors : Cal P w K mg base "_law_doors" 2 ["_law_dice_here", "_law_houses", "_law_cups", "_law_lead_here"] spDoors) : Cal P w K mg base "_law_dealer" 3 ["_law_dice_here", "_law_houses", "_law_cups", "_law_lead_here", "_law_upmost"] spDealer := by
  have sc := sc__law_dealer
  refine D.okS sc (fun vs H Q E h => ?_) (fun f cdv A outer s H vs Q E hr h => ?_)
  · obtain ⟨B, d, n, c, l, rfl, _⟩ := h
    rfl
  · obtain ⟨B, d, n, c, l, rfl, sb, o0, n1, n3, c1, c3, l1, ln, q⟩ := h
    refine ⟨_, (pss_cons (ps_set (i := 5) sc.nd rfl (.inl rfl) (pe_op op_add pe_int (pe_cl c_law_draw (hr.mono (by decide)) (pa_cons (pv 0) (pa_cons (pv 4) pa_nil)))))
(pss_cons (ps_set (i := 6) sc.nd rfl (.inl rfl) (pe_lst pa_nil))
(pss_cons (ps_for PassesOwn.never rfl (pi_range1 (by rfl) bl.range_ (pa_cons (pv 5) pa_nil)) (pg_name (i := 7) sc.nd rfl (.inl rfl))
  (pss_cons (ps_set (i := 8) sc.nd rfl (.inl rfl) (pe_cl c_law_doors (hr.mono (by decide)) (pa_cons (pv 0) (pa_cons (pv 1) (pa_cons (pv 2) (pa_cons (pv 3) pa_nil))))))
(pss_cons (ps_set (i := 9) sc.nd rfl (.inl rfl) (pe_disp1T (hu_of hr) (pe_tup (pa_cons (pe_ix (ix_listK K rfl) (pv 8) pe_int (fun _ _ => rfl)) (pa_cons (pe_op op_modN (pb_int bl.int_ (pa_cons (pe_op op_add (pv 7) pe_int) pa_nil)) (pv 5)) pa_nil))) pe_bl))
(pss_cons (ps_for PassesOwn.never rfl (pi_listK K rfl (pe_slice sl_list (pv 8) (po_some pe_int) po_none)) (pg_name (i := 10) sc.nd rfl (.inl rfl))
  (pss_one (ps_dput (hu_of hr) (pv 9) (pe_tup (pa_cons (pv 10) (pa_cons (pe_cl c_law_draw (hr.mono (by decide)) (pa_cons (pv 0) (pa_cons (pv 5) pa_nil))) pa_nil))) pe_bl rfl)))
(pss_one (ps_expr (pe_bm PySem.F.plainAttrs_list PySem.F.slot_list_append PySem.F.type_list_append mt_append (pv 6) (pa_cons (pb_tuple bl.tuple_ (pa_cons (pb_sortP bl.sorted_ (pa_cons (pb_listT bl.list_ (pa_cons (pv 9) pa_nil)) pa_nil)) pa_nil)) pa_nil))))))))
(pss_one (ps_ret (pb_tuple bl.tuple_ (pa_cons (pv 6) pa_nil))))))), ?_⟩
    have dv : ∀ σ : L2.St, σ[0]? = some (some (.ref d)) → ∀ (H : Hp) (Q : VK), Q (.ref d) H → tVar 0 σ H Q := fun σ hσ H Q q => ⟨_, hσ, q⟩
    refine dq_set (i := 5) (T := yP fun m => 1 ≤ m ∧ m ≤ 3) sb o0 (gd_I0 (p := fun i => i = 1) (gd_i gv_c rfl) (gd_draw (n := 3) (dv _ rfl) (gv_v (i := 4) rfl) (by decide) (by decide)) fun i j hi hj => by omega) fun v B1 H1 g1 hv => ?_
    obtain ⟨m, rfl, m1, m3⟩ := hv
    obtain ⟨M, rfl⟩ := Int.eq_ofNat_of_zero_le (show 0 ≤ m by omega)
    refine hq_newL g1.g.in_ ga_nil (by simp) fun e B2 H2 g2 nd2 he w2 => ?_
    have ne : e ≠ d := (g1.o.ne he).symm
    have gg2 := g1.and g2
    have he0 : H e = none := by
      cases z : H e with
      | none => rfl
      | some u =>
        have := g1.g.hs e u (by rw [cut_out (by simp [ne])]; exact z)
        rw [he] at this; cases this
    refine sq_for gg2.g.in_ (gi_rng1 (n := (M : Int)) (gv_v (i := 5) rfl) (by omega) (by omega)) (fun i σ B3 H3 => ∃ (dl : List (List (Int × Int))) (n7 n8 n9 n10 : Option V), σ = [some (.ref d), some (.int n), some (.int c), some (.int l), some (.int 3), some (.int (M : Int)), some (.ref e), n7, n8, n9, n10] ∧ dl.length = i ∧ (∀ ps ∈ dl, StandOk c n M ps) ∧ (∀ (s : Nat) ps, dl[s]? = some ps → ∃ p ∈ ps, p.2 = (((s + 1) % M : Nat) : Int) ∧ (p.1 < 0 ∨ p.1 = l)) ∧ Ow e (oL (dl.map ySt)) B3 H3 ∧ GrD d B H B3 H3)
      (fun B3 H3 g3 => ⟨[], _, _, _, _, rfl, rfl, fun ps h => (by cases h), fun s ps h => (by simp at h), w2.m g3, gg2.and g3⟩) (fun Bs i z σ B3 H3 B4 H4 hi s1 s2 s3 hP g4 hz => ?_) (fun σ B3 H3 s1 s2 hP => ?_)
    · obtain ⟨dl, n7, n8, n9, n10, rfl, hdl, hst, hnx, w3, g3⟩ := hP
      obtain rfl : z = .int (i : Int) := hz
      have hiM : i < M := by omega
      have w4 := w3.m g4
      have gg4 := g3.and g4
      refine dq_set (i := 8) (T := yDoors n c l) gg4.g.in_ gg4.o (gd_call (Ts := [yI n, yI c, yI l]) (dv _ rfl) (ga_3 (gv_v (i := 1) rfl) (gv_v (i := 2) rfl) (gv_v (i := 3) rfl)) fun vs B5 H5 s5 s6 o5 hvs Q k => by
        obtain ⟨v1, v2, v3, rfl, rfl, rfl, rfl⟩ := all3 hvs
        exact ⟨B5, d, n, c, l, rfl, s6, o5, n1, n3, c1, c3, l1, ln, k⟩) fun v8 B5 H5 g5 hv8 => ?_
      obtain ⟨ds, dok, hv8⟩ := hv8
      obtain ⟨x0, hx0, hx0l⟩ := dok.first
      have w5 := w4.dice ne g5
      have gg5 := gg4.trans g5
      obtain ⟨dt, hdt⟩ : ∃ t, ds = x0 :: t := by
        cases ds with
        | nil => simp at hx0
        | cons a t => simp at hx0; subst hx0; exact ⟨t, rfl⟩
      have hl3 := dok.l3
      have hx0in := dok.inb x0 (by rw [hdt]; exact List.mem_cons_self)
      have emod : ((i : Int) + 1).fmod (M : Int) = (((i + 1) % M : Nat) : Int) := by
        rw [Int.fmod_eq_emod_of_nonneg _ (by omega)]
        simp
      have hmod : (i + 1) % M < M := Nat.mod_lt _ (by omega)
      refine hq_disp1T (i := 9) (ks := lk (x0, (((i + 1) % M : Nat) : Int))) (T := yB true) gg5.g.in_ (gv_tup2 (gv_ixL (i := 0) (j := 0) (gv_var (i := 8) rfl hv8 (Same.refl _)) gv_c isLs_l rfl (by rw [hdt]; rfl)) (Gv.cast (A := yI (((i : Int) + 1).fmod (M : Int))) (gv_IC (gv_int (gv_I0 (gv_v (i := 7) rfl) gv_c)) (gv_v (i := 5) rfl) (by omega)) (by rw [emod]))) gv_c fun f B6 H6 g6 hf w6 => ?_
      have gg6 := gg5.and g6
      have nf : f ≠ d := (gg5.o.ne hf).symm
      have nef : e ≠ f := w5.ne hf
      have hf0 : H f = none := by
        cases z : H f with
        | none => rfl
        | some u =>
          have := gg5.g.hs f u (by rw [cut_out (by simp [nf])]; exact z)
          rw [hf] at this; cases this
      have hv86 := (yL (ds.map fun i => yI i)).m g6.bs hv8
      have w56 := w5.m g6
      have hslice : ∀ (σ : L2.St) B', σ[8]? = some (some v8) → (yL (ds.map fun i => yI i)).p v8 B' → Gv (tSl (rSlL K) (tVar 8) (tPart (tC (.int 1))) tNoPart) σ B' (yL (dt.map fun i => yI i)) := fun σ B' hσ hv H s Q q => (gv_var hσ hv (Same.refl B')) H s _ fun u B1 H1 g hu => by
        refine gv_part (B := B1) gv_c g.in_ fun B2 H2 g2 => ?_
        show rSlL K u (some 1) none H2 Q
        obtain ⟨a, vs, rfl, hs, hal⟩ := hu
        refine ⟨a, _, rfl, SqL.of (g2.in_ _ _ (g2.bs _ _ hs)), fun p hp => q _ _ _ ((g.trans g2).trans (Gr.new g2.in_ hp)) ⟨p, _, rfl, upd_same, ?_⟩⟩
        have hvs := all_ints.mp hal
        have e3 : cutV vs (some 1) none = dt.map V.int := by
          rw [hvs, hdt]
          unfold cutV
          have a1 : HT.sIx ((x0 :: dt).map V.int).length 0 (some 1) = min 1 ((x0 :: dt).map V.int).length := HT.sIx_nat _ _ 1
          have a2 : HT.sIx ((x0 :: dt).map V.int).length ((x0 :: dt).map V.int).length none = ((x0 :: dt).map V.int).length := rfl
          rw [a1, a2, List.map_cons, List.length_cons, Nat.min_eq_left (by omega)]
          simp
          exact List.take_of_length_le (by simp)
        rw [e3]
        exact all_ints.mpr rfl
      refine sq_for gg6.g.in_ (gi_list (hslice _ _ rfl hv86) isLs_l) (fun j σ B7 H7 => ∃ (es : List Ln) (n10 : Option V), σ = [some (.ref d), some (.int n), some (.int c), some (.int l), some (.int 3), some (.int (M : Int)), some (.ref e), some (.int (i : Int)), some v8, some (.ref f), n10] ∧ es.Nodup ∧ es.length ≤ j + 1 ∧ 1 ≤ es.length ∧ (x0, (((i + 1) % M : Nat) : Int)) ∈ es ∧ (∀ p ∈ es, -c ≤ p.1 ∧ p.1 < n ∧ 0 ≤ p.2 ∧ p.2 < (M : Int)) ∧ Ow f (oT (mE es)) B7 H7 ∧ Ow e (oL (dl.map ySt)) B7 H7 ∧ GrD d B H B7 H7)
        (fun B7 H7 g7 => ⟨[(x0, (((i + 1) % M : Nat) : Int))], _, rfl, by simp, Nat.le_refl _, Nat.le_refl _, by simp, fun p hp => by rw [List.mem_singleton.mp hp]; simp only; omega, w6.m g7, w56.m g7, gg6.and g7⟩) (fun Bs2 j y σ B7 H7 B8 H8 hj s5 s6 s7 hP g8 hy => ?_) (fun σ B7 H7 s5 s6 hP => ?_)
      · obtain ⟨es, n10, rfl, ndE, lE, lE1, inE, allE, w7, w7e, g7⟩ := hP
        rw [List.length_map] at hj
        have ey : dt[j]? = some dt[j] := List.getElem?_eq_getElem hj
        rw [hT_map j _ ey] at hy
        obtain rfl : y = .int dt[j] := hy
        have hyin := dok.inb dt[j] (by rw [hdt]; exact List.mem_cons_of_mem _ (List.getElem_mem hj))
        have hdl3 : dt.length ≤ 2 := by rw [hdt, List.length_cons] at hl3; omega
        have w8 := w7.m g8
        have w8e := w7e.m g8
        have gg8 := g7.and g8
        refine dt_dputD (T := yB true) (pr := fun b : Int => 0 ≤ b ∧ b < (M : Int)) (kf := fun b => lk (dt[j], b)) (is_var rfl) w8 nf gg8.o gg8.g.in_ (by rw [mE_keys]; exact nodup_map_on (fun a _ b _ h => lk_inj a b h) ndE) (by rw [List.length_map]; omega) gv_c (fun H1 Q q => ⟨_, rfl, q⟩) ((gd_tup (gda_2 (gd_gv (gv_v (i := 10) rfl)) (gd_draw (n := (M : Int)) (dv _ rfl) (gv_v (i := 5) rfl) m1 (by omega))) (by simp)).imp fun v B9 _ hv => ?_) fun b B9 H9 o9 hb g9 w9 => ?_
        · obtain ⟨a, vs, rfl, h1, hal⟩ := hv
          obtain ⟨x, y, rfl, rfl, b, eb, hb⟩ := all2 hal
          subst eb
          exact ⟨b, hb, a, _, rfl, h1, rfl, rfl, trivial⟩
        · have w8' := w8.dice nf g9
          refine ⟨B9, s6.trans (g8.bs.trans g9.g.bs), w8'.same g9.g.in_, addE es (dt[j], b), _, rfl, addE_nd ndE, ?_, ?_, addE_mem.mpr (.inl inE), fun p hp => ?_, ?_, (w8e.dice ne g9).else nef, (gg8.trans g9).put w8' nf hf0⟩
          · have := addE_len (es := es) (x := (dt[j], b))
            omega
          · unfold addE
            split
            · exact lE1
            · rw [List.length_append]; omega
          · rcases addE_mem.mp hp with hp | hp
            · exact allE p hp
            · rw [hp]; exact ⟨hyin.1, hyin.2, hb.1, hb.2⟩
          · rw [← mE_put]; exact w9
      · obtain ⟨es, n10, rfl, ndE, lE, lE1, inE, allE, w7, w7e, g7⟩ := hP
        rw [List.length_map] at lE
        have hdl3 : dt.length ≤ 2 := by rw [hdt, List.length_cons] at hl3; omega
        have hsl : (sortLn es).length = es.length := (sortLn_perm es).length_eq
        refine ht_app (T := ySt (sortLn es)) (is_var rfl) w7e s6 (by rw [List.length_map]; omega) (Gh.own w7 s6 (rk_t fun t ht => by
          obtain ⟨p, _, rfl⟩ := List.mem_map.mp ht
          exact rk_is (ns := lk p)) fun B8 s8 s9 ty => gv_tupL (gv_sortP (gv_listT (gv_var (i := 9) rfl ty (Same.refl _)) isDT_o))) fun B8 H8 o8 g8 w8 => ?_
        have w7e' := w7e.m g8
        refine ⟨B8, s2.trans (g4.bs.trans (g5.g.bs.trans (g6.bs.trans (s5.trans g8.bs)))), w7e'.same g8.in_, dl ++ [sortLn es], _, _, _, _, rfl, by rw [List.length_append, hdl]; rfl, fun ps hps => ?_, fun s ps e2 => ?_, ?_, (g7.and g8).put w7e' ne he0⟩
        · rcases List.mem_append.mp hps with h | h
          · exact hst ps h
          · rw [List.mem_singleton.mp h]
            refine ⟨by omega, by omega, fun p hp => ?_, srt_strict ndE⟩
            have := allE p ((sortLn_perm es).mem_iff.mp hp)
            omega
        · by_cases z : s < dl.length
          · rw [List.getElem?_append_left z] at e2
            exact hnx s ps e2
          · rw [List.getElem?_append_right (by omega)] at e2
            have h0 : s - dl.length = 0 := by
              have := (List.getElem?_eq_some_iff.mp e2).1
              simp at this
              omega
            rw [h0] at e2
            simp at e2
            subst e2
            have : s = i := by omega
            subst this
            exact ⟨_, (sortLn_perm es).mem_iff.mpr inE, rfl, hx0l⟩
        · rw [List.map_append]; exact w8
    · obtain ⟨dl, n7, n8, n9, n10, rfl, hdl, hst, hnx, w3, g3⟩ := hP
      have hM : dl.length = M := by omega
      subst hM
      obtain ⟨B4, g4, s4, h4⟩ := g3.pub w3 ne he0
      have h4 := oL_ty h4
      refine st_ret (T := yDealer n c l) g4.g.in_ ((gv_tupL (gv_var (i := 6) rfl h4 (Same.refl _))).imp fun v B5 _ hv => ⟨dl, ⟨by omega, by omega, hst, hnx⟩, hv⟩) fun v B5 H5 g5 hv => q v B5 H5 (g4.and g5) hv
end
end LD
set_option maxRecDepth 100000
set_option maxHeartbeats 400000
/-! LdLaw6: _law_web, _law_small_web -/

namespace LD
open PySem PyProof.Rows L2
abbrev s__law_web : Stmt := topS 72
theorem sc__law_web : FnScope ["_law_dice_here", "_law_lowest", "_law_upmost", "_law_standings", "_law_houses", "_law_cups", "_law_order", "_law_left", "_law_k", "_law_found", "_law_house", "_law_lead_here", "_law_dealer_here"] ["_law_dice_here", "_law_lowest", "_law_upmost", "_law_standings"] (defScope s__law_web) :=
  ⟨rfl, rfl, rfl, by decide +kernel, rfl, by decide +kernel, by decide +kernel⟩
abbrev s__law_small_web : Stmt := topS 80
theorem sc__law_small_web : FnScope ["_law_dice_here", "_law_standings", "_law_turn", "_law_cups", "_law_dealers"] ["_law_dice_here", "_law_standings"] (defScope s__law_small_web) :=
  ⟨rfl, rfl, rfl, by decide +kernel, rfl, by decide +kernel, by decide +kernel⟩
theorem erase_perm {α : Type} : ∀ {l : List α} {j : Nat} {x : α}, l[j]? = some x → (x :: l.eraseIdx j).Perm l
  | a :: l, 0, x, e => by
    simp at e; subst e
    exact List.Perm.refl _
  | a :: l, j + 1, x, e => by
    have ih := erase_perm (l := l) (j := j) (x := x) (by simpa using e)
    rw [List.eraseIdx_cons_succ]
    exact (List.Perm.swap a x _).trans (ih.cons a)
  | [], j, x, e => by simp at e
abbrev natsI (n : Nat) : List Int := (List.range n).map fun (i : Nat) => (i : Int)
def tyO : Option (List (List (Int × Int))) → Ty
  | none => yT []
  | some d => yHs d
/-- the dealers that are drawn already -/
def Drawn (n c : Int) (os : List Int) (fs : List (Option (List (List (Int × Int))))) (k : Nat) : Prop := ∀ j, j < k → ∃ (o : Int) (dl : List (List (Int × Int))) (l : Int), os[j]? = some o ∧ fs[o.toNat]? = some (some dl) ∧ DealerOk n c l dl ∧ (l = -1 ∨ ∃ j', j' < j ∧ os[j']? = some l)
theorem web_of {N : Nat} {c : Int} {os : List Int} {fs : List (Option (List (List (Int × Int))))} (h1 : 1 ≤ N) (h3 : N ≤ 3) (c1 : 1 ≤ c) (c3 : c ≤ 3) (hp : os.Perm (natsI N)) (hl : fs.length = N) (hd : Drawn N c os fs N) :
    ∃ D : Dl, D.map yHs = fs.map tyO ∧ WebOk c D (fun h => os.idxOf (h : Int)) := by
  have nd : os.Nodup := hp.nodup_iff.mpr nat_nd
  have hol : os.length = N := by rw [hp.length_eq, List.length_map, List.length_range]
  have at_ : ∀ h, h < N → ∃ j dl l, j < N ∧ os[j]? = some (h : Int) ∧ fs[h]? = some (some dl) ∧ DealerOk N c l dl ∧ (l = -1 ∨ ∃ j', j' < j ∧ os[j']? = some l) := fun h hh => by
    have hm : (h : Int) ∈ os := hp.mem_iff.mpr (List.mem_map.mpr ⟨h, List.mem_range.mpr hh, rfl⟩)
    obtain ⟨j, hj⟩ := List.getElem?_of_mem hm
    have hjN : j < N := by
      have := (List.getElem?_eq_some_iff.mp hj).1
      omega
    obtain ⟨o, dl, l, e1, e2, e3, e4⟩ := hd j hjN
    rw [hj] at e1
    cases e1
    exact ⟨j, dl, l, hjN, hj, e2, e3, e4⟩
  have idx : ∀ (j : Nat) (x : Int), os[j]? = some x → os.idxOf x = j := fun j x e => by
    obtain ⟨h, rfl⟩ := List.getElem?_eq_some_iff.mp e
    exact nd.idxOf_getElem j h
  let D : Dl := fs.map fun o => o.getD []
  have hDl : D.length = N := by show (fs.map _).length = N; rw [List.length_map, hl]
  have hD : ∀ (h : Nat) (d : List (List (Int × Int))), D[h]? = some d → ∃ j l, j < N ∧ os[j]? = some (h : Int) ∧ fs[h]? = some (some d) ∧ DealerOk N c l d ∧ (l = -1 ∨ ∃ j', j' < j ∧ os[j']? = some l) := fun h d e => by
    have hh : h < N := by
      have := (List.getElem?_eq_some_iff.mp e).1
      omega
    obtain ⟨j, dl, l, a1, a2, a3, a4, a5⟩ := at_ h hh
    have e2 : D[h]? = some dl := by
      show (fs.map fun o => o.getD [])[h]? = some dl
      rw [List.getElem?_map, a3]
      rfl
    rw [e] at e2
    cases e2
    exact ⟨j, l, a1, a2, a3, a4, a5⟩
  have mem : ∀ d ∈ D, ∃ l, DealerOk N c l d := fun d hd2 => by
    obtain ⟨h, hh⟩ := List.getElem?_of_mem hd2
    obtain ⟨j, l, _, _, _, a4, _⟩ := hD h d hh
    exact ⟨l, a4⟩
  refine ⟨D, ?_, ⟨c1, c3, by omega, ⟨by omega, fun d hd2 => ?_, fun d hd2 ps hps => ?_⟩, fun d hd2 => ?_, fun d hd2 ps hps => ?_, fun d hd2 ps hps p hp2 => ?_, fun d hd2 ps hps => ?_, fun h s d e hs => ?_⟩⟩
  · show (fs.map fun o => o.getD []).map yHs = fs.map tyO
    rw [List.map_map]
    apply List.map_congr_left
    intro o ho
    obtain ⟨h, hh⟩ := List.getElem?_of_mem ho
    have hhN : h < N := by
      have := (List.getElem?_eq_some_iff.mp hh).1
      omega
    obtain ⟨j, dl, l, a1, a2, a3, a4, a5⟩ := at_ h hhN
    rw [hh] at a3
    cases a3
    rfl
  · obtain ⟨l, o⟩ := mem d hd2; exact o.l3
  · obtain ⟨l, o⟩ := mem d hd2; exact (o.st ps hps).l3
  · obtain ⟨l, o⟩ := mem d hd2; exact o.l1
  · obtain ⟨l, o⟩ := mem d hd2; exact (o.st ps hps).l1
  · obtain ⟨l, o⟩ := mem d hd2
    have := (o.st ps hps).inb p hp2
    rw [hDl]
    omega
  · obtain ⟨l, o⟩ := mem d hd2; exact (o.st ps hps).asc
  · obtain ⟨j, l, a1, a2, a3, a4, a5⟩ := hD h d e
    have eps : d[s]? = some d[s] := List.getElem?_eq_getElem hs
    obtain ⟨p, p1, p2, p3⟩ := a4.nx s _ eps
    obtain ⟨n, hn⟩ := List.getElem?_of_mem p1
    refine ⟨n, p, by unfold pairAt; rw [e]; simp only [Option.bind_some]; rw [eps]; simp only [Option.bind_some]; exact hn, p2, ?_⟩
    rcases p3 with p3 | p3
    · exact .inl p3
    · rcases a5 with a5 | ⟨j', b1, b2⟩
      · left; omega
      · by_cases z : p.1 < 0
        · exact .inl z
        · right
          have e3 : ((p.1.toNat : Nat) : Int) = l := by omega
          show os.idxOf ((p.1.toNat : Nat) : Int) < os.idxOf (h : Int)
          rw [e3, idx j' l b2, idx j _ a2]
          exact b1
/-- a web that is right, whichever -/
structure Wb where
  c : Int
  D : Dl
  rank : Nat → Nat
def yWeb : Ty := yEx (fun x : Wb => WebOk x.c x.D x.rank) fun x => yT [yI x.c, yDl x.D]
def spWeb : Sp := fun vs H Q _ => ∃ B d, vs = [.ref d, .int 1, .int 3, .int 3] ∧ Same B H ∧ Ow d oDice B H ∧ ∀ v B' H', GrD d B H B' H' → yWeb.p v B' → Q v H'
section
variable {P : Program} {w : World} {K : PySem.W.Frag} {mg : Str → Option Value} {base : Heap}
theorem fresh_D {d e : Addr} {B H B1 H1 : Hp} (g : GrD d B H B1 H1) (h : H1 e = none) : e ≠ d ∧ H e = none := by
  have ne : e ≠ d := (g.o.ne h).symm
  refine ⟨ne, ?_⟩
  cases z : H e with
  | none => rfl
  | some u =>
    have := g.g.hs e u (by rw [cut_out (by simp [ne])]; exact z)
    rw [h] at this; cases this
theorem ok_lweb (D : Def K mg "_law_web" s__law_web ["_law_dice_here", "_law_lowest", "_law_upmost", "_law_standings"]) (bl : Blt mg) (c_law_draw : Cal P w K mg base "_law_draw" 1 ["_law_dice_here", "_law_sides"] spDr) (c_law_dealer : Cal P w K mg base "_law_dealer" 3 ["_law_dice_here", "_law_houses", "_law_cups", "_law_lead_here", "_law_upmost"] spDealer) : Cal P w K mg base "_law_web" 4 ["_law_dice_here", "_law_lowest", "_law_upmost", "_law_standings"] spWeb := by
  have sc := sc__law_web
  refine D.okS sc (fun vs H Q E h => ?_) (fun f cdv A outer s H vs Q E hr h => ?_)
  · obtain ⟨B, d, rfl, _⟩ := h
    rfl
  · obtain ⟨B, d, rfl, sb, o0, q⟩ := h
    refine ⟨_, (pss_cons (ps_set (i := 4) sc.nd rfl (.inl rfl) (pe_op op_add (pv 1) (pe_cl c_law_draw (hr.mono (by decide)) (pa_cons (pv 0) (pa_cons (pe_op op_add (pe_op op_sub (pv 2) (pv 1)) pe_int) pa_nil)))))
(pss_cons (ps_set (i := 5) sc.nd rfl (.inl rfl) (pe_op op_add pe_int (pe_cl c_law_draw (hr.mono (by decide)) (pa_cons (pv 0) (pa_cons pe_int pa_nil)))))
(pss_cons (ps_set (i := 6) sc.nd rfl (.inl rfl) (pe_lst pa_nil))
(pss_cons (ps_set (i := 7) sc.nd rfl (.inl rfl) (pe_listRg rfl rfl bl.list_ (prg_1 (by rfl) bl.range_ (pv 4))))
(pss_cons (ps_for PassesOwn.never rfl (pi_range1 (by rfl) bl.range_ (pa_cons (pv 4) pa_nil)) (pg_name (i := 8) sc.nd rfl (.inl rfl))
  (pss_one (ps_expr (pe_bm PySem.F.plainAttrs_list PySem.F.slot_list_append PySem.F.type_list_append mt_append (pv 6) (pa_cons (pe_bm PySem.F.plainAttrs_list PySem.F.slot_list_pop PySem.F.type_list_pop mt_popAt (pv 7) (pa_cons (pe_cl c_law_draw (hr.mono (by decide)) (pa_cons (pv 0) (pa_cons (pb_lenK K rfl bl.len_ (pa_cons (pv 7) pa_nil)) pa_nil))) pa_nil)) pa_nil)))))
(pss_cons (ps_setLc (i := 9) (own := [("_law_house", 10)]) (g := (gName 10)) (tt := _) (by rfl) sc.nd rfl rfl (sw_true rfl rfl rfl (by decide +kernel)) (pi_range1 (by rfl) bl.range_ (pa_cons (pv 4) pa_nil)) (blkOk_by (by kernel_rfl)) (fun _ _ _ _ _ => (pg_name (i := 10) sc.nd rfl (.inl rfl))) (fun _ _ _ _ _ => pts_nil) (fun _ _ _ _ _ => (pe_tup pa_nil)))
(pss_cons (ps_for PassesOwn.never rfl (pi_range1 (by rfl) bl.range_ (pa_cons (pv 4) pa_nil)) (pg_name (i := 8) sc.nd rfl (.inl rfl))
  (pss_cons (ps_set (i := 11) sc.nd rfl (.inl rfl) (pe_ifExp (pt_cmpR op_gt (pv 8) pe_int (nomark _)) (pe_ix (ix_listK K rfl) (pv 6) (pe_cl c_law_draw (hr.mono (by decide)) (pa_cons (pv 0) (pa_cons (pv 8) pa_nil))) (fun _ _ => rfl)) (pe_un un_neg pe_int)))
(pss_cons (ps_set (i := 12) sc.nd rfl (.inl rfl) (pe_cl c_law_dealer (hr.mono (by decide)) (pa_cons (pv 0) (pa_cons (pv 4) (pa_cons (pv 5) (pa_cons (pv 11) (pa_cons (pv 3) pa_nil)))))))
(pss_one (ps_asg (pv 12) (pg_sub (pv 9) (pe_ix (ix_listK K rfl) (pv 6) (pv 8) (fun _ _ => rfl)) set_list))))))
(pss_one (ps_ret (pe_tup (pa_cons (pv 5) (pa_cons (pb_tuple bl.tuple_ (pa_cons (pv 9) pa_nil)) pa_nil)))))))))))), ?_⟩
    have dv : ∀ σ : L2.St, σ[0]? = some (some (.ref d)) → ∀ (H : Hp) (Q : VK), Q (.ref d) H → tVar 0 σ H Q := fun σ hσ H Q q => ⟨_, hσ, q⟩
    refine dq_set (i := 4) (T := yP fun m => 1 ≤ m ∧ m ≤ 3) sb o0 (gd_I0 (p := fun i => i = 1) (gd_i (gv_v (i := 1) rfl) rfl) (gd_draw (n := 3 - 1 + 1) (dv _ rfl) (by exact gv_I0 (gv_I0 (gv_v (i := 2) rfl) (gv_v (i := 1) rfl)) gv_c) (by decide) (by decide)) fun i j hi hj => by omega) fun v B1 H1 g1 hv => ?_
    obtain ⟨m, rfl, m1, m3⟩ := hv
    obtain ⟨N, rfl⟩ := Int.eq_ofNat_of_zero_le (show 0 ≤ m by omega)
    refine dq_set (i := 5) (T := yP fun c => 1 ≤ c ∧ c ≤ 3) g1.g.in_ g1.o (gd_I0 (p := fun i => i = 1) (gd_i gv_c rfl) (gd_draw (n := 3) (dv _ rfl) gv_c (by decide) (by decide)) fun i j hi hj => by omega) fun v B2 H2 g2 hv => ?_
    obtain ⟨c, rfl, c1, c3⟩ := hv
    have gg2 := g1.trans g2
    refine hq_newL gg2.g.in_ ga_nil (by simp) fun eo B3 H3 g3 nd3 heo w3 => ?_
    have gg3 := gg2.and g3
    obtain ⟨neo, heo0⟩ := fresh_D gg2 heo
    refine hq_rngO (n := N) gg3.g.in_ rfl (by omega) fun el H4 g4 hel w4 => ?_
    have gg4 := gg3.and g4
    obtain ⟨nel, hel0⟩ := fresh_D gg3 hel
    have w34 := w3.m g4
    have nol : eo ≠ el := w3.ne hel
    refine sq_for gg4.g.in_ (gi_rng1 (n := (N : Int)) (gv_v (i := 4) rfl) (by omega) (by omega)) (fun i σ B5 H5 => ∃ (os ls : List Int) (n8 : Option V), σ = [some (.ref d), some (.int 1), some (.int 3), some (.int 3), some (.int (N : Int)), some (.int c), some (.ref eo), some (.ref el), n8, none, none, none, none] ∧ os.length = i ∧ (os ++ ls).Perm (natsI N) ∧ Ow eo (oL (os.map fun i => yI i)) B5 H5 ∧ Ow el (oL (ls.map fun i => yI i)) B5 H5 ∧ GrD d B H B5 H5)
      (fun B5 H5 g5 => ⟨[], natsI N, _, rfl, rfl, List.Perm.refl _, w34.m g5, w4.m g5, gg4.and g5⟩) (fun Bs i z σ B5 H5 B6 H6 hi s1 s2 s3 hP g6 hz => ?_) (fun σ B5 H5 s1 s2 hP => ?_)
    · obtain ⟨os, ls, n8, rfl, hol, hperm, w5, v5, g5⟩ := hP
      have w6 := w5.m g6
      have v6 := v5.m g6
      have gg6 := g5.and g6
      have hlen : os.length + ls.length = N := by
        have := hperm.length_eq
        rw [List.length_append, List.length_map, List.length_range] at this
        exact this
      refine dt_popApp (fun H1 Q q => ⟨_, rfl, q⟩) (fun H1 Q q => ⟨_, rfl, q⟩) w6 v6 nol neo nel gg6.o gg6.g.in_ (by rw [List.length_map]; omega) (by omega) (gk_draw (n := (ls.length : Int)) gg6.o gg6.g.in_ (dv _ rfl) (Gh.own v6 gg6.g.in_ rk_x fun B7 s7 s8 ty => Gv.cast (gv_lenL (gv_var (i := 7) rfl ty (Same.refl _)) isLs_o) (by rw [List.length_map])) (by omega) (by omega)) fun j x B7 H7 o1 o2 hx g7 w7 v7 => ?_
      have w67 := w6.dice neo g7
      have v67 := v6.dice nel g7
      have gf : GrD d B H B7 (upd (upd H7 el o1) eo o2) := ((gg6.trans g7).put v67 nel hel0).put (w67.else nol) neo heo0
      refine ⟨B7, s2.trans (g6.bs.trans g7.g.bs), gf.g.in_, os ++ [x], ls.eraseIdx j, _, rfl, by rw [List.length_append, hol]; rfl, ?_, ?_, v7, gf⟩
      · refine List.Perm.trans ?_ hperm
        rw [List.append_assoc]
        exact List.Perm.append_left os (erase_perm hx)
      · rw [List.map_append]; exact w7
    · obtain ⟨os, ls, n8, rfl, hol, hperm, w5, v5, g5⟩ := hP
      have hlen : os.length + ls.length = N := by
        have := hperm.length_eq
        rw [List.length_append, List.length_map, List.length_range] at this
        exact this
      have hls : ls = [] := List.eq_nil_of_length_eq_zero (by omega)
      subst hls
      rw [List.append_nil] at hperm
      have hoN : os.length = N := by omega
      obtain ⟨B6, g6, s6, h6⟩ := g5.pub w5 neo heo0
      have h6 := oL_ty h6
      refine hq_lcO (xs := List.range N) (F := fun (h : Nat) => yI (h : Int)) (E := fun _ => yT []) g6.g.in_ (gi_rng1 (n := (N : Int)) (gv_v (i := 4) rfl) (by omega) (by omega)) (by rw [List.length_range]; omega) hT_rng (by rw [List.length_range]; omega) (fun _ => rfl) (fun j a x B7 hj s1 hx => gv_tup0) fun ef B7 H7 g7 hef w7 => ?_
      obtain ⟨nef, hef0⟩ := fresh_D g6 hef
      have gg7 := g6.and g7
      have ho7 := (yL (os.map fun i => yI i)).m g7.bs h6
      have nd : os.Nodup := hperm.nodup_iff.mpr nat_nd
      have osin : ∀ (j : Nat) (x : Int), os[j]? = some x → 0 ≤ x ∧ x < (N : Int) := fun j x e => by
        have := hperm.mem_iff.mp (List.mem_of_getElem? e)
        obtain ⟨i, hi, rfl⟩ := List.mem_map.mp this
        have := List.mem_range.mp hi
        omega
      refine sq_for gg7.g.in_ (gi_rng1 (n := (N : Int)) (gv_v (i := 4) rfl) (by omega) (by omega)) (fun k σ B8 H8 => ∃ (fs : List (Option (List (List (Int × Int))))) (n8 n11 n12 : Option V), σ = [some (.ref d), some (.int 1), some (.int 3), some (.int 3), some (.int (N : Int)), some (.int c), some (.ref eo), some (.ref el), n8, some (.ref ef), none, n11, n12] ∧ fs.length = N ∧ Drawn N c os fs k ∧ Ow ef (oL (fs.map tyO)) B8 H8 ∧ GrD d B H B8 H8 ∧ (yL (os.map fun i => yI i)).p (.ref eo) B8)
        (fun B8 H8 g8 => ⟨(List.range N).map fun _ => none, _, _, _, rfl, by simp, fun j hj => absurd hj (Nat.not_lt_zero _), by rw [List.map_map]; exact w7.m g8, gg7.and g8, (yL _).m g8.bs ho7⟩) (fun Bs k z σ B8 H8 B9 H9 hk s1 s2 s3 hP g9 hz => ?_) (fun σ B8 H8 s1 s2 hP => ?_)
      · obtain ⟨fs, n8, n11, n12, rfl, hfl, hdr, w8, g8, ho8⟩ := hP
        obtain rfl : z = .int (k : Int) := hz
        have hkN : k < N := by omega
        have w9 := w8.m g9
        have gg9 := g8.and g9
        have ho9 := (yL (os.map fun i => yI i)).m g9.bs ho8
        have ordG : ∀ (σ : L2.St) B', σ[6]? = some (some (.ref eo)) → Same B9 B' → Gv (tVar 6) σ B' (yL (os.map fun i => yI i)) := fun σ B' hσ s' => gv_var hσ ho9 s'
        refine dq_set (i := 11) (T := yP fun l => (l = -1 ∨ ∃ j, j < k ∧ os[j]? = some l) ∧ -1 ≤ l ∧ l < (N : Int)) gg9.g.in_ gg9.o (gd_if (p := fun b => b = decide ((k : Int) > 0)) (gdt_gt (gt_test (gv_I0 (gv_v (i := 8) rfl) gv_c)) rfl) (fun hb => ?_) fun _ => gd_i (gv_neg gv_c) ⟨.inl rfl, by decide, by omega⟩) fun v B10 H10 g10 hv => ?_
        · have hk0 : (k : Int) > 0 := of_decide_eq_true hb.symm
          refine gd_op (gd_gv (ordG _ _ rfl (Same.refl _))) (gd_draw (n := (k : Int)) (dv _ rfl) (gv_v (i := 8) rfl) (by omega) (by omega)) fun x y B1 H1 _ s hx ⟨i, ei, i0, i1⟩ Q kq => ?_
          obtain ⟨a, vs, ex, h1, hal⟩ := isLs_l (K := K) x B1 hx
          have hj : i.toNat < os.length := by omega
          have e := List.getElem?_eq_getElem hj
          obtain ⟨v, hv, tv⟩ := hal.get (i := i.toNat) (T := yI os[i.toNat]) (by rw [List.getElem?_map, e]; rfl)
          have := osin _ _ e
          refine ⟨a, vs, i, v, ex, ei, same_l s h1, ?_, kq v B1 H1 (Gr.refl s) ⟨os[i.toNat], tv, .inr ⟨i.toNat, by omega, e⟩, by omega, by omega⟩⟩
          have := atI_nat hv
          rw [Int.toNat_of_nonneg i0] at this
          exact this
        · obtain ⟨l, rfl, hl, l1, l2⟩ := hv
          have gg10 := gg9.trans g10
          have w10 := w9.dice nef g10
          refine dq_set (i := 12) (T := yDealer N c l) gg10.g.in_ gg10.o (gd_call (Ts := [yI (N : Int), yI c, yI l, yI 3]) (dv _ rfl) (ga_4 (gv_v (i := 4) rfl) (gv_v (i := 5) rfl) (gv_v (i := 11) rfl) (gv_v (i := 3) rfl)) fun vs B5 H5 s5 s6 o5 hvs Q k => by
            obtain ⟨v1, v2, v3, v4, rfl, rfl, rfl, rfl, rfl⟩ := all4 hvs
            exact ⟨B5, d, N, c, l, rfl, s6, o5, m1, m3, c1, c3, l1, l2, k⟩) fun v B11 H11 g11 hv => ?_
          obtain ⟨dl, dok, hv⟩ := hv
          have gg11 := gg10.trans g11
          have w11 := w10.dice nef g11
          have ek : os[k]? = some os[k] := List.getElem?_eq_getElem (by omega)
          have hok := osin k _ ek
          refine hq_lset (tz := fun D => D.nx) (D := { nx := _, rt := _, bk := _, ct := _ }) (j := os[k].toNat) (T := tyO (some dl)) (is_var (i := 9) rfl) w11 gg11.g.in_ (by rw [List.length_map]; omega) ((gv_var (i := 12) rfl hv (Same.refl _)).h gg11.g.in_) (gv_ixL (i := (k : Int)) (j := k) (T := yI ((os[k].toNat : Nat) : Int)) (ordG _ _ rfl (g10.g.bs.trans g11.g.bs)) (gv_v (i := 8) rfl) isLs_l rfl (by rw [List.getElem?_map, ek, Int.toNat_of_nonneg hok.1]; rfl)) fun B12 H12 o12 g12 w12 => ?_
          have w112 := w11.m g12
          refine ⟨B12, s2.trans (g9.bs.trans (g10.g.bs.trans (g11.g.bs.trans g12.bs))), w112.same g12.in_, fs.set os[k].toNat (some dl), _, _, _, rfl, by rw [List.length_set]; exact hfl, fun j hj => ?_, ?_, (gg11.and g12).put w112 nef hef0, (yL _).m (g10.g.bs.trans (g11.g.bs.trans g12.bs)) ho9⟩
          · by_cases z : j = k
            · subst z
              exact ⟨os[j], dl, l, ek, by rw [List.getElem?_set_self (by omega)], dok, hl⟩
            · obtain ⟨o, dl2, l2, e1, e2, e3, e4⟩ := hdr j (by omega)
              have hoj := osin j _ e1
              refine ⟨o, dl2, l2, e1, ?_, e3, e4⟩
              rw [List.getElem?_set_ne]
              · exact e2
              · intro h
                have he : o = os[k] := by omega
                rw [he] at e1
                have hjl : j < os.length := by omega
                exact z ((List.getElem?_inj hjl nd).mp (e1.trans ek.symm))
          · rw [List.map_set]; exact w12
      · obtain ⟨fs, n8, n11, n12, rfl, hfl, hdr, w8, g8, ho8⟩ := hP
        have hdr : Drawn N c os fs N := by
          have e : ((N : Int)).toNat = N := by omega
          rw [e] at hdr
          exact hdr
        obtain ⟨D, hD, wok⟩ := web_of (by omega) (by omega) c1 c3 hperm hfl hdr
        obtain ⟨B9, g9, s9, h9⟩ := g8.pub w8 nef hef0
        have h9 := oL_ty h9
        rw [← hD] at h9
        refine st_ret (T := yWeb) g9.g.in_ ((gv_tup2 (gv_v (i := 5) rfl) (gv_tupL (gv_var (i := 9) rfl h9 (Same.refl _)))).imp fun v B10 _ hv => ⟨⟨c, D, _⟩, wok, hv⟩) fun v B10 H10 g10 hv => q v B10 H10 (g9.and g10) hv
/-- the web that is drawn: at most some 700 choices -/
def yWeb7 : Ty := yEx (fun x : Wb => WebOk x.c x.D x.rank) fun x => yT [yI x.c, yDl x.D]
def spSmall : Sp := fun vs H Q _ => ∃ B d, vs = [.ref d, .int 3] ∧ Same B H ∧ Ow d oDice B H ∧ ∀ v B' H', GrD d B H B' H' → yWeb.p v B' → Q v H'
theorem web0 : WebOk 1 [[[(-1, 0), (0, 0)]]] (fun _ => 0) := by
  refine ⟨by decide, by decide, by decide, ⟨by decide, ?_, ?_⟩, ?_, ?_, ?_, ?_, fun h s d e hs => ?_⟩
  · intro d hd; simp at hd; subst hd; decide
  · intro d hd ps hps; simp at hd; subst hd; simp at hps; subst hps; decide
  · intro d hd; simp at hd; subst hd; decide
  · intro d hd ps hps; simp at hd; subst hd; simp at hps; subst hps; decide
  · intro d hd ps hps p hp; simp at hd; subst hd; simp at hps; subst hps; simp at hp
    rcases hp with rfl | rfl <;> decide
  · intro d hd ps hps i p q e1 e2; simp at hd; subst hd; simp at hps; subst hps
    match i, e1, e2 with
    | 0, e1, e2 => simp at e1 e2; subst e1 e2; left; decide
    | i + 1, e1, e2 => simp at e2
  · match h, e with
    | 0, e =>
      simp at e
      subst e
      have : s = 0 := by simp at hs; omega
      subst this
      exact ⟨0, (-1, 0), rfl, rfl, .inl (by decide)⟩
    | h + 1, e => simp at e
theorem ok_lsmall (D : Def K mg "_law_small_web" s__law_small_web ["_law_dice_here", "_law_standings"]) (bl : Blt mg) (c_law_web : Cal P w K mg base "_law_web" 4 ["_law_dice_here", "_law_lowest", "_law_upmost", "_law_standings"] spWeb) (c_law_many : Cal P w K mg base "_law_many" 1 ["_law_dealers"] (spG Rlmany)) : Cal P w K mg base "_law_small_web" 5 ["_law_dice_here", "_law_standings"] spSmall := by
  have sc := sc__law_small_web
  refine D.okS sc (fun vs H Q E h => ?_) (fun f cdv A outer s H vs Q E hr h => ?_)
  · obtain ⟨B, d, rfl, _⟩ := h
    rfl
  · obtain ⟨B, d, rfl, sb, o0, q⟩ := h
    refine ⟨_, (pss_cons (ps_for PassesOwn.never rfl (pi_range1 (by rfl) bl.range_ (pa_cons pe_int pa_nil)) (pg_name (i := 2) sc.nd rfl (.inl rfl))
  (pss_cons (ps_asg (pe_cl c_law_web (hr.mono (by decide)) (pa_cons (pv 0) (pa_cons pe_int (pa_cons pe_int (pa_cons (pv 1) pa_nil))))) (pg_tup (by rfl) (pgs_cons (pg_name (i := 3) sc.nd rfl (.inl rfl)) (pgs_cons (pg_name (i := 4) sc.nd rfl (.inl rfl)) pgs_nil))))
(pss_one (ps_if (pt_cmpR op_lt (pe_cl c_law_many (hr.mono (by decide)) (pa_cons (pv 4) pa_nil)) pe_int (nomark _))
  (pss_one (ps_ret (pe_tup (pa_cons (pv 3) (pa_cons (pv 4) pa_nil)))))
  pss_nil))))
(pss_one (ps_ret (pe_tup (pa_cons pe_int (pa_cons (pe_tup (pa_cons (pe_tup (pa_cons (pe_tup (pa_cons (pe_tup (pa_cons (pe_un un_neg pe_int) (pa_cons pe_int pa_nil))) (pa_cons (pe_tup (pa_cons pe_int (pa_cons pe_int pa_nil))) pa_nil))) pa_nil)) pa_nil)) pa_nil)))))), ?_⟩
    have dv : ∀ σ : L2.St, σ[0]? = some (some (.ref d)) → ∀ (H : Hp) (Q : VK), Q (.ref d) H → tVar 0 σ H Q := fun σ hσ H Q q => ⟨_, hσ, q⟩
    refine sq_for sb (gi_rng1 (n := 6) gv_c (by decide) (by decide)) (fun i σ B2 H2 => ∃ n2 n3 n4, σ = [some (.ref d), some (.int 3), n2, n3, n4] ∧ GrD d B H B2 H2)
      (fun B2 H2 g2 => ⟨_, _, _, rfl, GrD.of o0 sb g2⟩) (fun Bs i x σ B1 H1 B2 H2 hi s1 s2 s3 hP g2 hx => ?_) (fun σ B2 H2 s1 s2 hP => ?_)
    · obtain ⟨n2, n3, n4, rfl, gg⟩ := hP
      have gg2 := gg.and g2
      refine dq_asg (T := yWeb) gg2.g.in_ gg2.o (gd_call (Ts := [yI 1, yI 3, yI 3]) (dv _ rfl) (ga_3 gv_c gv_c (gv_v (i := 1) rfl)) fun vs B5 H5 s5 s6 o5 hvs Q k => by
        obtain ⟨v1, v2, v3, rfl, rfl, rfl, rfl⟩ := all3 hvs
        exact ⟨B5, d, rfl, s6, o5, k⟩) fun v B3 H3 g3 hv => ?_
      obtain ⟨wb, wok, hv⟩ := hv
      have gg3 := gg2.trans g3
      refine g_tup2 hv gg3.g.in_ fun vc vd hvc hvd => ?_
      refine st_ifN (B := B3) (b := decide (manyOf wb.D < 700)) gg3.g.in_ (gt_test (gv_I0 (gv_cl (ga_1 (gv_var (i := 4) rfl hvd (Same.refl _))) (gives_G (R := Rlmany) (.mk wb.D wok.sm))) gv_c)) (fun hb B4 H4 g4 => ?_) (fun hb B4 H4 g4 => ?_)
      · refine st_ret (T := yWeb) g4.in_ ((gv_tup2 (gv_var (i := 3) rfl hvc g4.bs) (gv_var (i := 4) rfl hvd g4.bs)).imp fun v B5 _ hv => ⟨wb, wok, hv⟩) fun v B5 H5 g5 hv => q v B5 H5 ((gg3.and g4).and g5) hv
      · exact ⟨B4, s2.trans (g2.bs.trans (g3.g.bs.trans g4.bs)), g4.in_, _, _, _, rfl, gg3.and g4⟩
    · obtain ⟨n2, n3, n4, rfl, gg⟩ := hP
      refine st_ret (T := yWeb) s2 ((gv_tup2 (A1 := yI 1) (A2 := yDl [[[(-1, 0), (0, 0)]]]) gv_c (gv_tup1 (gv_tup1 (gv_tup2 (gv_tup2 (gv_neg gv_c) gv_c) (gv_tup2 gv_c gv_c))))).imp fun v B5 _ hv => ⟨⟨1, _, _⟩, web0, hv⟩) fun v B5 H5 g5 hv => q v B5 H5 (gg.and g5) hv
end
end LD
set_option maxRecDepth 100000
set_option maxHeartbeats 400000
/-! LdLaw7: _law_planted -/

namespace LD
open PySem PyProof.Rows L2
abbrev s__law_planted : Stmt := topS 83
theorem sc__law_planted : FnScope ["_law_dice_here", "_law_dealers", "_law_worths", "_law_leads", "_law_dealer_here", "_law_row", "_law_k", "_law_prices", "_law_step", "_law_door_here", "_law_price"] ["_law_dice_here", "_law_dealers"] (defScope s__law_planted) :=
  ⟨rfl, rfl, rfl, by decide +kernel, rfl, by decide +kernel, by decide +kernel⟩
def Tw (r : Rat) : Prop := ∃ X : Int, X.natAbs ≤ 72 ∧ r * 12 = (X : Rat)
def yTw : Ty := yEx Tw yFs
theorem tw_drawn {a b : Int} (ha : -6 ≤ a ∧ a ≤ 6) (hb : 1 ≤ b ∧ b ≤ 4) : Tw (Rat.divInt a b) := by
  have h4 : b = 1 ∨ b = 2 ∨ b = 3 ∨ b = 4 := by omega
  have e : ∀ k : Int, b * k = 12 → Rat.divInt a b * 12 = ((a * k : Int) : Rat) := fun k hk => by
    have hb0 : (b : Rat) ≠ 0 := by
      have : b ≠ 0 := by omega
      exact_mod_cast this
    have h1 : Rat.divInt a b = (a : Rat) / (b : Rat) := Rat.divInt_eq_div a b
    have h2 : (b : Rat) * (k : Rat) = 12 := by exact_mod_cast hk
    rw [h1, Rat.intCast_mul]
    generalize (a : Rat) = x at *
    generalize (b : Rat) = y at *
    generalize (k : Rat) = z at *
    grind
  rcases h4 with rfl | rfl | rfl | rfl
  · exact ⟨a * 12, by omega, e 12 rfl⟩
  · exact ⟨a * 6, by omega, e 6 rfl⟩
  · exact ⟨a * 4, by omega, e 4 rfl⟩
  · exact ⟨a * 3, by omega, e 3 rfl⟩
/-- what is drawn: worths and rows of leads -/
structure RowsOk (D : Dl) (i : Nat) (ws : List Rat) (ls : List (List Rat)) : Prop where
  wl : ws.length = i
  ll : ls.length = i
  wt : ∀ r ∈ ws, Tw r
  rows : ∀ (h : Nat) l, ls[h]? = some l → ∃ d, D[h]? = some d ∧ l.length = d.length ∧ l[0]? = some 0 ∧ ∀ r ∈ l, Tw r
def xOf (ws : List Rat) (ls : List (List Rat)) : Nm → Rat := planted (fun h => ws.getD h 0) (fun h s => (ls.getD h []).getD s 0)
theorem x_worth {ws : List Rat} {ls : List (List Rat)} {h : Nat} : xOf ws ls [(h : Int), -1] = ws.getD h 0 := by
  unfold xOf planted
  simp
theorem x_lead {ws : List Rat} {ls : List (List Rat)} {h s : Nat} : xOf ws ls [(h : Int), (s : Int)] = (ls.getD h []).getD s 0 := by
  unfold xOf planted
  simp only [Int.toNat_natCast]
  rw [if_neg (by omega)]
theorem tw_zero : Tw 0 := tw_0
theorem getD_tw {l : List Rat} (h : ∀ r ∈ l, Tw r) (i : Nat) : Tw (l.getD i 0) := by
  rw [List.getD_eq_getElem?_getD]
  cases e : l[i]? with
  | none => exact tw_zero
  | some r => exact h r (List.mem_of_getElem? e)
theorem x_tw {D : Dl} {i : Nat} {ws : List Rat} {ls : List (List Rat)} (o : RowsOk D i ws ls) : Twelfth (xOf ws ls) := fun k => by
  unfold xOf planted
  split
  · split
    · exact getD_tw o.wt _
    · rename_i h s _
      show Tw ((ls.getD h.toNat []).getD s.toNat 0)
      rw [show (ls.getD h.toNat []) = (ls[h.toNat]?).getD [] from List.getD_eq_getElem?_getD ..]
      cases e : ls[h.toNat]? with
      | none => simp only [Option.getD_none]; exact getD_tw (by simp) _
      | some l =>
        obtain ⟨d, _, _, _, h4⟩ := o.rows _ l e
        simp only [Option.getD_some]
        exact getD_tw h4 _
  · exact tw_zero
theorem x_lead0 {D : Dl} {i : Nat} {ws : List Rat} {ls : List (List Rat)} (o : RowsOk D i ws ls) {h s : Nat} {l : List Rat} (e : ls[h]? = some l) (hs : s < l.length) : l[s]? = some (lead0 (xOf ws ls) h s) := by
  obtain ⟨d, _, _, h3, _⟩ := o.rows h l e
  have eg : ls.getD h [] = l := by rw [List.getD_eq_getElem?_getD, e]; rfl
  have es := List.getElem?_eq_getElem hs
  unfold lead0
  by_cases z : 0 < s
  · rw [if_pos z, x_lead, eg, List.getD_eq_getElem?_getD, es]; rfl
  · have : s = 0 := by omega
    subst this
    rw [if_neg z]; exact h3
theorem x_rows {D : Dl} {ws : List Rat} {ls : List (List Rat)} (o : RowsOk D D.length ws ls) : leadRows D (xOf ws ls) D.length = ls := by
  apply List.ext_getElem?
  intro h
  unfold leadRows
  by_cases z : h < D.length
  · obtain ⟨l, e⟩ : ∃ l, ls[h]? = some l := ⟨_, List.getElem?_eq_getElem (by rw [o.ll]; exact z)⟩
    obtain ⟨d, hd, hl, _, _⟩ := o.rows h l e
    rw [List.getElem?_map, List.getElem?_range z, e]
    simp only [Option.map_some, hd, Option.getD_some, Option.some.injEq]
    apply List.ext_getElem?
    intro s
    unfold leadRow
    by_cases y : s < d.length
    · rw [List.getElem?_map, List.getElem?_range y, x_lead0 o e (by omega)]
      rfl
    · rw [List.getElem?_eq_none (by rw [List.length_map, List.length_range]; omega), List.getElem?_eq_none (by omega)]
  · rw [List.getElem?_eq_none (by rw [List.length_map, List.length_range]; omega), List.getElem?_eq_none (by rw [o.ll]; omega)]
/-- published, the others stay -/
theorem GrD.pub2 {d e : Addr} {R : OT} {B H B' H' : Hp} (a : GrD d B H B' H') (w : Ow e R B' H') (ne : e ≠ d) (n : H e = none) : ∃ B1, GrD d B H B1 H' ∧ Same B' B1 ∧ R.ty.p (.ref e) B1 ∧ ∀ f S, Ow f S B' H' → f ≠ e → Ow f S B1 H' := by
  obtain ⟨o, h, k⟩ := w.ex
  have st : ∀ f S, Ow f S B' H' → f ≠ e → Ow f S (upd B' e o) H' := fun f S wf nf => by
    obtain ⟨o2, h2, k2⟩ := wf.ex
    exact ⟨by rw [upd_ne nf]; exact wf.nb, o2, h2, S.m (same_new w.nb) k2⟩
  exact ⟨_, ⟨a.g.pub h (by rw [cut_out (by simp [ne])]; exact n) w.nb, st d oDice a.o (Ne.symm ne)⟩, same_new w.nb, ⟨e, o, rfl, upd_same, R.m (same_new w.nb) k⟩, st⟩
/-- what is planted, whichever -/
structure Pl where
  x : Nm → Rat
  m : Row
abbrev mP (m : Row) : List (List Int × Ty) := m.map fun p => (p.1, yFs p.2)
def yPlant (D : Dl) : Ty := yEx (fun y : Pl => Planted D y.x y.m ∧ PricesOk D y.m) fun y => yT [yAny, yLeads D y.x, yPrices y.m]
def spPlant : Sp := fun vs H Q _ => ∃ B d v2 c D rank, vs = [.ref d, v2] ∧ Same B H ∧ Ow d oDice B H ∧ WebOk c D rank ∧ (yDl D).p v2 B ∧ ∀ v B' H', GrD d B H B' H' → (yPlant D).p v B' → Q v H'
theorem mP_put {m : Row} {k : Nm} {r : Rat} : put (mP m) k (yFs r) = mP (put m k r) := by
  induction m with
  | nil => rfl
  | cons p m ih =>
    show put ((p.1, yFs p.2) :: mP m) k _ = _
    rw [put, put]
    split
    · rfl
    · rw [ih]; rfl
theorem mP_keys {m : Row} : (mP m).map (·.1) = m.map (·.1) := by unfold mP; rw [List.map_map]; rfl
section
variable {P : Program} {w : World} {K : PySem.W.Frag} {mg : Str → Option Value} {base : Heap}
theorem gd_frac {d : Addr} {σ : L2.St} {B : Hp} {ta tb : TE} (ha : Gd d ta σ B (yP fun a => -6 ≤ a ∧ a ≤ 6)) (hb : Gd d tb σ B (yP fun b => 1 ≤ b ∧ b ≤ 4)) : Gd d (tCl (spG Rlfrac) (tCons ta (tCons tb tNil))) σ B yTw := fun B1 H s s1 o Q q =>
  (gda_2 ha hb) B1 H s s1 o _ fun vs B2 H2 g hvs => by
    obtain ⟨v, w, rfl, ⟨a, rfl, a1⟩, ⟨b, rfl, b1⟩⟩ := all2 hvs
    exact ⟨B2, [yI a, yI b], yFs (Rat.divInt a b), .mk a b (by omega) (by omega), g.g.in_, ⟨rfl, rfl, trivial⟩, fun v B3 H3 g3 hv => q v B3 H3 (g.and g3) ⟨_, tw_drawn a1 b1, hv⟩⟩
theorem ok_lplanted (D : Def K mg "_law_planted" s__law_planted ["_law_dice_here", "_law_dealers"]) (bl : Blt mg) (c_law_draw : Cal P w K mg base "_law_draw" 1 ["_law_dice_here", "_law_sides"] spDr) (c_law_fraction : Cal P w K mg base "_law_fraction" 1 ["_law_top", "_law_bottom"] (spG Rlfrac)) (c_law_sum : Cal P w K mg base "_law_sum" 2 ["_law_one", "_law_other", "_law_sign"] (spG Rlsum))
    (c_law_steps : Cal P w K mg base "_law_steps" 1 ["_law_dealers"] (spG Rlsteps)) (c_law_door : Cal P w K mg base "_law_door" 1 ["_law_dealers", "_law_step"] (spG Rldoor)) (c_law_next : Cal P w K mg base "_law_next" 1 ["_law_dealers", "_law_step"] (spG Rlnext)) : Cal P w K mg base "_law_planted" 3 ["_law_dice_here", "_law_dealers"] spPlant := by
  have sc := sc__law_planted
  refine D.okS sc (fun vs H Q E h => ?_) (fun f cdv A outer s H vs Q E hr h => ?_)
  · obtain ⟨B, d, v2, c, D, rank, rfl, _⟩ := h
    rfl
  · obtain ⟨B, d, v2, c, D, rank, rfl, sb, o0, wok, h2, q⟩ := h
    refine ⟨_, (pss_cons (ps_set (i := 2) sc.nd rfl (.inl rfl) (pe_lst pa_nil))
(pss_cons (ps_set (i := 3) sc.nd rfl (.inl rfl) (pe_lst pa_nil))
(pss_cons (ps_for PassesOwn.never rfl (pi_tupK K rfl (pv 1)) (pg_name (i := 4) sc.nd rfl (.inl rfl))
  (pss_cons (ps_expr (pe_bm PySem.F.plainAttrs_list PySem.F.slot_list_append PySem.F.type_list_append mt_append (pv 2) (pa_cons (pe_cl c_law_fraction (hr.mono (by decide)) (pa_cons (pe_op op_sub (pe_cl c_law_draw (hr.mono (by decide)) (pa_cons (pv 0) (pa_cons pe_int pa_nil))) pe_int) (pa_cons (pe_op op_add pe_int (pe_cl c_law_draw (hr.mono (by decide)) (pa_cons (pv 0) (pa_cons pe_int pa_nil)))) pa_nil))) pa_nil)))
(pss_cons (ps_set (i := 5) sc.nd rfl (.inl rfl) (pe_lst (pa_cons (pe_tup (pa_cons pe_int (pa_cons pe_int pa_nil))) pa_nil)))
(pss_cons (ps_for PassesOwn.never rfl (pi_range1 (by rfl) bl.range_ (pa_cons (pe_op op_sub (pb_lenK K rfl bl.len_ (pa_cons (pv 4) pa_nil)) pe_int) pa_nil)) (pg_name (i := 6) sc.nd rfl (.inl rfl))
  (pss_one (ps_expr (pe_bm PySem.F.plainAttrs_list PySem.F.slot_list_append PySem.F.type_list_append mt_append (pv 5) (pa_cons (pe_cl c_law_fraction (hr.mono (by decide)) (pa_cons (pe_op op_sub (pe_cl c_law_draw (hr.mono (by decide)) (pa_cons (pv 0) (pa_cons pe_int pa_nil))) pe_int) (pa_cons (pe_op op_add pe_int (pe_cl c_law_draw (hr.mono (by decide)) (pa_cons (pv 0) (pa_cons pe_int pa_nil)))) pa_nil))) pa_nil)))))
(pss_one (ps_expr (pe_bm PySem.F.plainAttrs_list PySem.F.slot_list_append PySem.F.type_list_append mt_append (pv 3) (pa_cons (pb_tuple bl.tuple_ (pa_cons (pv 5) pa_nil)) pa_nil))))))))
(pss_cons (ps_set (i := 7) sc.nd rfl (.inl rfl) pe_dnewT)
(pss_cons (ps_for PassesOwn.never rfl (pi_listK K rfl (pe_cl c_law_steps (hr.mono (by decide)) (pa_cons (pv 1) pa_nil))) (pg_name (i := 8) sc.nd rfl (.inl rfl))
  (pss_cons (ps_set (i := 9) sc.nd rfl (.inl rfl) (pe_cl c_law_door (hr.mono (by decide)) (pa_cons (pv 1) (pa_cons (pv 8) pa_nil))))
(pss_cons (ps_set (i := 10) sc.nd rfl (.inl rfl) (pe_cl c_law_sum (hr.mono (by decide)) (pa_cons (pe_ix (ix_tupK K rfl) (pe_ix (ix_listK K rfl) (pv 3) (pe_ix (ix_tupK K rfl) (pv 8) pe_int (fun _ _ => rfl)) (fun _ _ => rfl)) (pe_cl c_law_next (hr.mono (by decide)) (pa_cons (pv 1) (pa_cons (pv 8) pa_nil))) (fun _ _ => rfl)) (pa_cons (pe_ix (ix_tupK K rfl) (pe_ix (ix_listK K rfl) (pv 3) (pe_ix (ix_tupK K rfl) (pv 8) pe_int (fun _ _ => rfl)) (fun _ _ => rfl)) (pe_ix (ix_tupK K rfl) (pv 8) pe_int (fun _ _ => rfl)) (fun _ _ => rfl)) (pa_cons (pe_un un_neg pe_int) pa_nil)))))
(pss_cons (ps_set (i := 10) sc.nd rfl (.inl rfl) (pe_cl c_law_sum (hr.mono (by decide)) (pa_cons (pv 10) (pa_cons (pe_ix (ix_listK K rfl) (pv 2) (pe_ix (ix_tupK K rfl) (pv 8) pe_int (fun _ _ => rfl)) (fun _ _ => rfl)) (pa_cons pe_int pa_nil)))))
(pss_cons (ps_if (pt_cmpR op_ge (pv 9) pe_int (nomark _))
  (pss_one (ps_set (i := 10) sc.nd rfl (.inl rfl) (pe_cl c_law_sum (hr.mono (by decide)) (pa_cons (pv 10) (pa_cons (pe_ix (ix_listK K rfl) (pv 2) (pv 9) (fun _ _ => rfl)) (pa_cons (pe_un un_neg pe_int) pa_nil))))))
  pss_nil)
(pss_one (ps_if (PW.pt (pw_or (pt_cmpR op_ne (pe_ix (ix_tupK K rfl) (pv 10) pe_int (fun _ _ => rfl)) pe_int (nomark _)) (pw_or1 (pt_cmpR op_eq (pe_cl c_law_draw (hr.mono (by decide)) (pa_cons (pv 0) (pa_cons pe_int pa_nil))) pe_int (nomark _)))))
  (pss_one (ps_dput (hu_of hr) (pv 7) (pv 8) (pv 10) rfl))
  pss_nil)))))))
(pss_one (ps_ret (pe_tup (pa_cons (pb_tuple bl.tuple_ (pa_cons (pv 2) pa_nil)) (pa_cons (pb_tuple bl.tuple_ (pa_cons (pv 3) pa_nil)) (pa_cons (pv 7) pa_nil))))))))))), ?_⟩
    have dv : ∀ σ : L2.St, σ[0]? = some (some (.ref d)) → ∀ (H : Hp) (Q : VK), Q (.ref d) H → tVar 0 σ H Q := fun σ hσ H Q q => ⟨_, hσ, q⟩
    have hD3 := wok.sm.hl
    have len : (steps D).length ≤ 27 := wok.sm.all D.length hD3
    have frac : ∀ (σ : L2.St) B, σ[0]? = some (some (.ref d)) → Gd d (tCl (spG Rlfrac) (tCons (tOp (rI0 fun i j => .int (i - j)) (tCl spDr (tCons (tVar 0) (tCons (tC (.int 13)) tNil))) (tC (.int 6))) (tCons (tOp (rI0 fun i j => .int (i + j)) (tC (.int 1)) (tCl spDr (tCons (tVar 0) (tCons (tC (.int 4)) tNil)))) tNil))) σ B yTw := fun σ B h0 =>
      gd_frac (gd_I0 (q := fun i => i = 6) (gd_draw (n := 13) (dv σ h0) gv_c (by decide) (by decide)) (gd_i gv_c rfl) fun i j hi hj => by omega) (gd_I0 (p := fun i => i = 1) (gd_i gv_c rfl) (gd_draw (n := 4) (dv σ h0) gv_c (by decide) (by decide)) fun i j hi hj => by omega)
    refine hq_newL sb ga_nil (by simp) fun ew B1 H1 g1 nd1 hew w1 => ?_
    have gg1 := GrD.of o0 sb g1
    have new_ : Ow ew (oL []) B1 H1 := w1
    obtain ⟨newd, hew0⟩ : ew ≠ d ∧ H ew = none := ⟨(o0.ne hew).symm, hew⟩
    refine hq_newL gg1.g.in_ ga_nil (by simp) fun el B2 H2 g2 nd2 hel w2 => ?_
    have gg2 := gg1.and g2
    obtain ⟨neld, hel0⟩ := fresh_D gg1 hel
    have nwl : ew ≠ el := w1.ne hel
    refine sq_for gg2.g.in_ (gi_tup (gv_var (i := 1) rfl h2 gg2.g.bs) isTu_t) (fun i σ B3 H3 => ∃ (ws : List Rat) (ls : List (List Rat)) (n4 n5 n6 : Option V), σ = [some (.ref d), some v2, some (.ref ew), some (.ref el), n4, n5, n6, none, none, none, none] ∧ RowsOk D i ws ls ∧ Ow ew (oL (ws.map yFs)) B3 H3 ∧ Ow el (oL (ls.map fun l => yT (l.map yFs))) B3 H3 ∧ GrD d B H B3 H3)
      (fun B3 H3 g3 => ⟨[], [], _, _, _, rfl, ⟨rfl, rfl, fun r hr => (by cases hr), fun h l e => (by simp at e)⟩, (w1.m g2).m g3, w2.m g3, gg2.and g3⟩) (fun Bs i z σ B3 H3 B4 H4 hi s1 s2 s3 hP g4 hz => ?_) (fun σ B3 H3 s1 s2 hP => ?_)
    · obtain ⟨ws, ls, n4, n5, n6, rfl, ro, w3, v3, g3⟩ := hP
      rw [List.length_map] at hi
      obtain ⟨dl, hdl⟩ : ∃ r, D[i]? = some r := ⟨_, List.getElem?_eq_getElem hi⟩
      rw [hT_map i dl hdl] at hz
      have memd := List.mem_of_getElem? hdl
      have d1 := wok.d1 dl memd
      have d3 := wok.sm.dl dl memd
      have w4 := w3.m g4
      have v4 := v3.m g4
      have gg4 := g3.and g4
      refine dq_app (T := yTw) (is_var rfl) w4 newd gg4.o gg4.g.in_ (by rw [List.length_map, ro.wl]; omega) (frac _ _ rfl) fun B5 H5 o5 g5 w5 => ?_
      obtain ⟨rw1, trw, w5⟩ := ow_ex w5
      have w45 := w4.dice newd g5
      have gg5 : GrD d B H B5 (upd H5 ew o5) := (gg4.trans g5).put w45 newd hew0
      have v5 := (v4.dice neld g5).else (o := o5) (Ne.symm nwl)
      have hz5 := (yHs dl).m g5.g.bs hz
      generalize upd H5 ew o5 = H6 at w5 gg5 v5
      refine hq_newL (ts := [yFs 0]) gg5.g.in_ (ga_1 (gv_tup2 (A1 := yI (0 : Rat).num) (A2 := yI ((0 : Rat).den : Int)) gv_c gv_c)) (by simp) fun er B7 H7 g7 nd7 her w7 => ?_
      have gg7 := gg5.and g7
      obtain ⟨nerd, her0⟩ := fresh_D gg5 her
      have newr : ew ≠ er := w5.ne her
      have nelr : el ≠ er := v5.ne her
      have w57 := w5.m g7
      have v57 := v5.m g7
      have hz7 := (yHs dl).m g7.bs hz5
      refine sq_for gg7.g.in_ (gi_rng1 (n := (((dl.map ySt).length : Nat) : Int) - 1) (gv_I0 (gv_lenT (gv_var (i := 4) rfl hz7 (Same.refl _)) isTu_t) gv_c) (by rw [List.length_map]; omega) (by rw [List.length_map]; omega)) (fun k σ B8 H8 => ∃ (l : List Rat) (n6 : Option V), σ = [some (.ref d), some v2, some (.ref ew), some (.ref el), some z, some (.ref er), n6, none, none, none, none] ∧ l.length = k + 1 ∧ l[0]? = some 0 ∧ (∀ r ∈ l, Tw r) ∧ Ow er (oL (l.map yFs)) B8 H8 ∧ Ow ew (oL ((ws ++ [rw1]).map yFs)) B8 H8 ∧ Ow el (oL (ls.map fun l => yT (l.map yFs))) B8 H8 ∧ GrD d B H B8 H8)
        (fun B8 H8 g8 => ⟨[0], _, rfl, rfl, rfl, fun r hr => by rw [List.mem_singleton.mp hr]; exact tw_zero, w7.m g8, by rw [List.map_append]; exact w57.m g8, v57.m g8, gg7.and g8⟩) (fun Bs2 k y σ B8 H8 B9 H9 hk s5 s6 s7 hP g9 hy => ?_) (fun σ B8 H8 s5 s6 hP => ?_)
      · obtain ⟨l, n6, rfl, hl, l0, lt, r8, w8, v8, g8⟩ := hP
        rw [List.length_map] at hk
        have r9 := r8.m g9
        have gg9 := g8.and g9
        refine dt_app (T := yTw) (is_var rfl) r9 nerd gg9.o gg9.g.in_ (by rw [List.length_map]; omega) (frac _ _ rfl) fun B10 H10 o10 g10 r10 => ?_
        obtain ⟨r1, tr, r10⟩ := ow_ex r10
        have r910 := r9.dice nerd g10
        refine ⟨B10, s6.trans (g9.bs.trans g10.g.bs), r910.same g10.g.in_, l ++ [r1], _, rfl, by rw [List.length_append, hl]; rfl, by rw [List.getElem?_append_left (by omega)]; exact l0, fun r hr => ?_, by rw [List.map_append]; exact r10, ((w8.m g9).dice newd g10).else newr, ((v8.m g9).dice neld g10).else nelr, (gg9.trans g10).put r910 nerd her0⟩
        rcases List.mem_append.mp hr with hr | hr
        · exact lt r hr
        · rw [List.mem_singleton.mp hr]; exact tr
      · obtain ⟨l, n6, rfl, hl, l0, lt, r8, w8, v8, g8⟩ := hP
        rw [List.length_map] at hl
        obtain ⟨B9, g9, s9, h9, st9⟩ := g8.pub2 r8 nerd her0
        have h9 := oL_ty h9
        have w9 := st9 ew _ w8 newr
        have v9 := st9 el _ v8 nelr
        refine ht_app (T := yT (l.map yFs)) (is_var rfl) v9 g9.g.in_ (by rw [List.length_map, ro.ll]; omega) ((gv_tupL (gv_var (i := 5) rfl h9 (Same.refl _))).h g9.g.in_) fun B10 H10 o10 g10 v10 => ?_
        have v910 := v9.m g10
        refine ⟨B10, s2.trans (g4.bs.trans (g5.g.bs.trans (g7.bs.trans (s5.trans (s9.trans g10.bs))))), v910.same g10.in_, ws ++ [rw1], ls ++ [l], _, _, _, rfl, ⟨by rw [List.length_append, ro.wl]; rfl, by rw [List.length_append, ro.ll]; rfl, fun r hr => ?_, fun h l2 e => ?_⟩, (w9.m g10).else nwl, by rw [List.map_append]; exact v10, (g9.and g10).put v910 neld hel0⟩
        · rcases List.mem_append.mp hr with hr | hr
          · exact ro.wt r hr
          · rw [List.mem_singleton.mp hr]; exact trw
        · by_cases y : h < ls.length
          · rw [List.getElem?_append_left y] at e
            exact ro.rows h l2 e
          · rw [List.getElem?_append_right (by omega)] at e
            have h0 : h - ls.length = 0 := by
              have := (List.getElem?_eq_some_iff.mp e).1
              simp at this
              omega
            rw [h0] at e
            simp at e
            subst e
            have hh : h = i := by have := ro.ll; omega
            subst hh
            exact ⟨dl, hdl, by omega, l0, lt⟩
    · obtain ⟨ws, ls, n4, n5, n6, rfl, ro, w3, v3, g3⟩ := hP
      rw [List.length_map] at ro
      obtain ⟨B4, g4, s4, hw4, st4⟩ := g3.pub2 w3 newd hew0
      have hw4 := oL_ty hw4
      obtain ⟨B5, g5, s5, hl5, st5⟩ := g4.pub2 (st4 el _ v3 (Ne.symm nwl)) neld hel0
      have hl5 := oL_ty hl5
      have hw5 := (yL (ws.map yFs)).m s5 hw4
      have hx := x_rows ro
      have tw := x_tw ro
      generalize hxs : xOf ws ls = x at hx tw
      refine hq_newT g5.g.in_ fun ep H6 g6 hep w6 => ?_
      have gg6 := g5.and g6
      obtain ⟨nepd, hep0⟩ := fresh_D g5 hep
      have s25 : Same B2 B5 := s1.trans (s4.trans s5)
      refine sq_for gg6.g.in_ (gi_list (gv_cl (ga_1 (gv_var (i := 1) rfl h2 gg6.g.bs)) (gives_G (R := Rlsteps) (.mk D wok.sm))) isLs_l) (fun i σ B7 H7 => ∃ (m : Row) (n8 n9 n10 : Option V), σ = [some (.ref d), some v2, some (.ref ew), some (.ref el), n4, n5, n6, some (.ref ep), n8, n9, n10] ∧ (m.map (·.1)).Nodup ∧ (∀ p ∈ m, p.1 ∈ (steps D).take i ∧ Sm p.2) ∧ m.length ≤ i ∧ (∀ st ∈ (steps D).take i, val m st = dot (rowAt D st) x) ∧ Ow ep (oT (mP m)) B7 H7 ∧ GrD d B H B7 H7 ∧ Same B5 B7)
        (fun B7 H7 g7 => ⟨[], _, _, _, rfl, List.nodup_nil, fun p hp => (by cases hp), Nat.le_refl _, fun st hst => (by simp at hst), w6.m g7, gg6.and g7, g7.bs⟩) (fun Bs i z σ B7 H7 B8 H8 hi s1 s2 s3 hP g8 hz => ?_) (fun σ B7 H7 s6 s7 hP => ?_)
      · obtain ⟨m, n8, n9, n10, rfl, mnd, mk, ml, mv, w7, g7, s57⟩ := hP
        rw [List.length_map] at hi
        obtain ⟨st, hst⟩ : ∃ r, (steps D)[i]? = some r := ⟨_, List.getElem?_eq_getElem hi⟩
        rw [hT_map i st hst] at hz
        obtain ⟨h, sd, n, p, est, ep2⟩ := steps_mem.mp (List.mem_of_getElem? hst)
        obtain ⟨dl, ps, e1, e2, e3⟩ := pairAt_some ep2
        have ib := wok.inb dl (List.mem_of_getElem? e1) ps (List.mem_of_getElem? e2) p (List.mem_of_getElem? e3)
        have l1 := (List.getElem?_eq_some_iff.mp e1).1
        have l2 := (List.getElem?_eq_some_iff.mp e2).1
        have w8 := w7.m g8
        have gg8 := g7.and g8
        have s58 : Same B5 B8 := s57.trans g8.bs
        -- what the row says
        have hval : dot (rowAt D st) x = stepVal x h sd p := by rw [est, rowAt_eq ep2, dot_parts]
        have hpl : (if 0 < p.2 then x [(h : Int), p.2] else 0) = lead0 x h p.2.toNat := by
          have := lead0_eq (x := x) (h := h) (s := p.2.toNat)
          rw [Int.toNat_of_nonneg ib.2.2.1] at this
          exact this
        have hps : (if 0 < (sd : Int) then x [(h : Int), (sd : Int)] else 0) = lead0 x h sd := lead0_eq
        have hsv : stepVal x h sd p = lead0 x h p.2.toNat - lead0 x h sd + x [(h : Int), -1] - (if 0 ≤ p.1 then x [p.1, -1] else 0) := by
          unfold stepVal
          rw [hpl, hps]
          grind
        obtain ⟨lr, hlr⟩ : ∃ l, ls[h]? = some l := ⟨_, List.getElem?_eq_getElem (by rw [ro.ll]; exact l1)⟩
        obtain ⟨d', hd', hlrl, _, _⟩ := ro.rows h lr hlr
        rw [e1] at hd'
        cases hd'
        have hlead : ∀ (σ : L2.St) (B' : Hp) (te : TE) (k : Nat) (a : Int), σ[3]? = some (some (.ref el)) → σ[8]? = some (some z) → Same B8 B' → Gv te σ B' (yI a) → a = (k : Int) → k < dl.length → Gv (tOp (rIxT K) (tOp (rIxL K) (tVar 3) (tOp (rIxT K) (tVar 8) (tC (.int 0)))) te) σ B' (yFs (lead0 x h k)) := fun σ B' te k a h3 h8 s' hte ha hk =>
          gv_ixT (i := a) (j := k) (ts := lr.map yFs) (gv_ixL (i := (h : Int)) (j := h) (gv_var h3 hl5 (s58.trans s')) (gv_ixT (i := 0) (j := 0) (T := yI (h : Int)) (gv_var h8 hz s') gv_c isTu_t rfl (by rw [est]; rfl)) isLs_l rfl (by rw [List.getElem?_map, hlr]; rfl)) hte isTu_t ha (by
            have := x_lead0 ro hlr (s := k) (by omega)
            rw [hxs] at this
            rw [List.getElem?_map, this]; rfl)
        have hworth : ∀ (σ : L2.St) (B' : Hp) (te : TE) (k : Nat) (a : Int), σ[2]? = some (some (.ref ew)) → Same B8 B' → Gv te σ B' (yI a) → a = (k : Int) → k < D.length → Gv (tOp (rIxL K) (tVar 2) te) σ B' (yFs (x [(k : Int), -1])) := fun σ B' te k a h3 s' hte ha hk =>
          gv_ixL (i := a) (j := k) (gv_var h3 hw5 (s58.trans s')) hte isLs_l ha (by
            have e := List.getElem?_eq_getElem (l := ws) (i := k) (by rw [ro.wl]; exact hk)
            rw [List.getElem?_map, e, ← hxs, x_worth, List.getD_eq_getElem?_getD, e]; rfl)
        have tws : ∀ {M N : Nat} {a b : Rat}, (∃ X : Int, X.natAbs ≤ M ∧ a * 12 = (X : Rat)) → (∃ X : Int, X.natAbs ≤ N ∧ b * 12 = (X : Rat)) → (∃ X : Int, X.natAbs ≤ M + N ∧ (a + b) * 12 = (X : Rat)) ∧ (∃ X : Int, X.natAbs ≤ M + N ∧ (a - b) * 12 = (X : Rat)) := fun {M N a b} ⟨X, x1, x2⟩ ⟨Y, y1, y2⟩ => by
          refine ⟨⟨X + Y, by omega, ?_⟩, ⟨X - Y, by omega, ?_⟩⟩
          · rw [Rat.intCast_add, ← x2, ← y2]; grind
          · rw [Rat.intCast_sub, ← x2, ← y2]; grind
        have t1 := tws (tw_lead tw h p.2.toNat) (tw_lead tw h sd)
        have t2 := tws t1.2 (tw [(h : Int), -1])
        have t3 := tws t2.1 (tw [p.1, -1])
        refine sq_set (i := 9) (T := yI p.1) gg8.g.in_ (gv_cl (ga_2 (gv_var (i := 1) rfl h2 gg8.g.bs) (gv_var (i := 8) rfl hz (Same.refl _))) (gives_G (R := Rldoor) (by rw [est]; exact .mk D h sd n p ep2))) fun v B9 H9 g9 hv => ?_
        obtain rfl : v = .int p.1 := hv
        have gg9 := gg8.and g9
        refine sq_set (i := 10) (T := yFs (lead0 x h p.2.toNat - lead0 x h sd)) gg9.g.in_ (gv_cl (ga_3 (hlead _ _ _ p.2.toNat p.2 rfl rfl g9.bs (gv_cl (ga_2 (gv_var (i := 1) rfl h2 gg9.g.bs) (gv_var (i := 8) rfl hz g9.bs)) (gives_G (R := Rlnext) (by rw [est]; exact .mk D h sd n p ep2))) (by omega) (by omega)) (hlead _ _ _ sd (sd : Int) rfl rfl g9.bs (gv_ixT (i := 1) (j := 1) (T := yI (sd : Int)) (gv_var (i := 8) rfl hz g9.bs) gv_c isTu_t rfl (by rw [est]; rfl)) rfl l2) (gv_neg gv_c)) (gives_G (R := Rlsum) (.m _ _ (sm_tw (tw_lead tw h _) (by decide)) (sm_tw (tw_lead tw h _) (by decide))))) fun v10 B10 H10 g10 hv10 => ?_
        have gg10 := gg9.and g10
        refine sq_set (i := 10) (T := yFs (lead0 x h p.2.toNat - lead0 x h sd + x [(h : Int), -1])) gg10.g.in_ (gv_cl (ga_3 (gv_var (i := 10) rfl hv10 (Same.refl _)) (hworth _ _ _ h (h : Int) rfl (g9.bs.trans g10.bs) (gv_ixT (i := 0) (j := 0) (T := yI (h : Int)) (gv_var (i := 8) rfl hz (g9.bs.trans g10.bs)) gv_c isTu_t rfl (by rw [est]; rfl)) rfl l1) gv_c) (gives_G (R := Rlsum) (.p _ _ (sm_tw t1.2 (by decide)) (sm_tw (tw _) (by decide))))) fun v11 B11 H11 g11 hv11 => ?_
        have gg11 := gg10.and g11
        have w11 := ((w8.m g9).m g10).m g11
        have s811 : Same B8 B11 := g9.bs.trans (g10.bs.trans g11.bs)
        refine seq_k (Pv := fun σ' B' H' => ∃ v, σ' = [some (.ref d), some v2, some (.ref ew), some (.ref el), n4, n5, n6, some (.ref ep), some z, some (.int p.1), some v] ∧ (yFs (stepVal x h sd p)).p v B' ∧ Ow ep (oT (mP m)) B' H' ∧ GrD d B H B' H' ∧ Same B11 B') (fun σ' B12 H12 s12 hP => ?_) fun cont => ?_
        · obtain ⟨v, rfl, hv, w12, g12, s1112⟩ := hP
          have smV : Sm (stepVal x h sd p) := by
            obtain ⟨T, a, b⟩ := step_tw tw (h := h) (s := sd) (p := p)
            exact sm_tw ⟨T, a, b⟩ (by decide)
          generalize hr : stepVal x h sd p = r at hv hval smV
          have pnum : ∀ (σ : L2.St) B', σ[10]? = some (some v) → Same B12 B' → Gv (tOp (rIxT K) (tVar 10) (tC (.int 0))) σ B' (yI r.num) := fun σ B' hσ s' => gv_ixT (i := 0) (j := 0) (gv_var hσ hv s') gv_c isTu_t rfl rfl
          refine dt_if (p := fun b => b = false → r = 0) s12 g12.o (gdt_or (p := fun b => b = !decide (r.num = 0)) (gdt_gt (b := !decide (V.int r.num = V.int 0)) (gt_test (gv_ne (pnum _ _ rfl (Same.refl _)) gv_c rfl)) (by simp)) (fun hb => fun B1 H s s1 o Q k => ?_) fun _ z => nomatch z) (fun _ B13 H13 g13 => ?_) (fun hb B13 H13 g13 => ?_)
          · have hn : r.num = 0 := by
              have : decide (r.num = 0) = true := by
                cases z : decide (r.num = 0) with
                | true => rfl
                | false => rw [z] at hb; cases hb
              exact of_decide_eq_true this
            have hr0 : r = 0 := Rat.num_eq_zero.mp hn
            exact (gdt_test (p := fun _ => True) (gd_op (A := yP fun i => 0 ≤ i ∧ i < 2) (C := yI 0) (gd_draw (n := 2) (dv _ rfl) gv_c (by decide) (by decide)) (gd_gv gv_c) fun x y B1 H1 _ s ⟨i, ei, _⟩ hy Q k => by
              subst ei
              obtain rfl : y = .int 0 := hy
              exact ⟨rfl, k _ B1 H1 (Gr.refl s) ⟨_, rfl, trivial⟩⟩)) B1 H s s1 o Q fun b B' H' g _ => k b B' H' g fun _ => hr0
          · have w13 := w12.dice nepd g13
            have no := nodup_take_no (steps_nodup D) hst
            have nom : st ∉ m.map (·.1) := fun hm => by
              obtain ⟨q, hq, e⟩ := List.mem_map.mp hm
              exact no (e ▸ (mk q hq).1)
            have htk : (steps D).take (i + 1) = (steps D).take i ++ [st] := by rw [List.take_add_one, hst]; rfl
            refine ht_dputT (ks := st) (T := yFs r) (is_var rfl) w13 g13.g.in_ (by rw [mP_keys]; exact mnd) (by rw [List.length_map]; omega) ((gv_var (i := 10) rfl hv g13.g.bs).h g13.g.in_) (gv_var (i := 8) rfl hz (s811.trans (s1112.trans g13.g.bs))) fun B14 H14 o14 g14 w14 => ?_
            have w134 := w13.m g14
            refine ⟨B14, s2.trans (g8.bs.trans (s811.trans (s1112.trans (g13.g.bs.trans g14.bs)))), w134.same g14.in_, put m st r, _, _, _, rfl, put_nodup mnd, fun q hq => ?_, ?_, fun t ht => ?_, by rw [← mP_put]; exact w14, ((g12.trans g13).and g14).put w134 nepd hep0, s58.trans (s811.trans (s1112.trans (g13.g.bs.trans g14.bs)))⟩
            · rw [put_new nom] at hq
              rw [htk]
              rcases List.mem_append.mp hq with hq | hq
              · exact ⟨List.mem_append_left _ (mk q hq).1, (mk q hq).2⟩
              · rw [List.mem_singleton.mp hq]
                exact ⟨by simp, smV⟩
            · have := put_len (m := m) (k := st) (v := r)
              omega
            · rw [val_put]
              by_cases y : st = t
              · subst y; rw [if_pos rfl]; exact hval.symm
              · rw [if_neg y]
                rw [htk] at ht
                rcases List.mem_append.mp ht with ht | ht
                · exact mv t ht
                · exact absurd (List.mem_singleton.mp ht).symm y
          · have hr0 := hb rfl
            have htk : (steps D).take (i + 1) = (steps D).take i ++ [st] := by rw [List.take_add_one, hst]; rfl
            have no := nodup_take_no (steps_nodup D) hst
            refine ⟨B13, s2.trans (g8.bs.trans (s811.trans (s1112.trans g13.g.bs))), g13.g.in_, m, _, _, _, rfl, mnd, fun q hq => ⟨by rw [htk]; exact List.mem_append_left _ (mk q hq).1, (mk q hq).2⟩, by omega, fun t ht => ?_, w12.dice nepd g13, g12.trans g13, s58.trans (s811.trans (s1112.trans g13.g.bs))⟩
            rw [htk] at ht
            rcases List.mem_append.mp ht with ht | ht
            · exact mv t ht
            · rw [List.mem_singleton.mp ht, hval, hr0]
              have : look m st = none := look_none.mpr fun hm => by
                obtain ⟨q, hq, e⟩ := List.mem_map.mp hm
                exact no (e ▸ (mk q hq).1)
              unfold val
              rw [this]; rfl
        · refine sq_ifN (b := decide (p.1 ≥ 0)) gg11.g.in_ (gt_test (gv_I0 (gv_v (i := 9) rfl) gv_c)) (fun hb B12 H12 g12 => ?_) (fun hb B12 H12 g12 => ?_)
          · have hb : (0 : Int) ≤ p.1 := of_decide_eq_true hb
            have ep1 : ((p.1.toNat : Nat) : Int) = p.1 := Int.toNat_of_nonneg hb
            have hT : stepVal x h sd p = lead0 x h p.2.toNat - lead0 x h sd + x [(h : Int), -1] - x [p.1, -1] := by rw [hsv, if_pos hb]
            refine st_set (i := 10) (T := yFs (stepVal x h sd p)) g12.in_ (by
              rw [hT]
              exact gv_cl (ga_3 (gv_var (i := 10) rfl hv11 g12.bs) (Gv.cast (A := yFs (x [((p.1.toNat : Nat) : Int), -1])) (hworth _ _ _ p.1.toNat p.1 rfl (s811.trans g12.bs) (gv_v (i := 9) rfl) ep1.symm (by omega)) (by rw [ep1])) (gv_neg gv_c)) (gives_G (R := Rlsum) (.m _ _ (sm_tw t2.1 (by decide)) (sm_tw (tw _) (by decide))))) fun v B13 H13 g13 hv => ?_
            exact cont _ B13 H13 g13.in_ ⟨_, rfl, hv, (w11.m g12).m g13, (gg11.and g12).and g13, g12.bs.trans g13.bs⟩
          · have hb : ¬ (0 : Int) ≤ p.1 := of_decide_eq_false hb
            have hT : stepVal x h sd p = lead0 x h p.2.toNat - lead0 x h sd + x [(h : Int), -1] := by rw [hsv, if_neg hb]; grind
            exact cont _ B12 H12 g12.in_ ⟨_, rfl, by rw [hT]; exact (yFs _).m g12.bs hv11, w11.m g12, gg11.and g12, g12.bs⟩
      · obtain ⟨m, n8, n9, n10, rfl, mnd, mk, ml, mv, w7, g7, s57⟩ := hP
        rw [List.length_map, List.take_length] at mv mk
        rw [List.length_map] at ml
        obtain ⟨B8, g8, s8, hp8, st8⟩ := g7.pub2 w7 nepd hep0
        have hp8 := oT_ty hp8
        refine st_ret (T := yPlant D) g8.g.in_ ((gv_tup3 (A1 := yAny) (Gv.imp (gv_tupL (gv_var (i := 2) rfl hw5 (s57.trans s8))) fun _ _ _ _ => trivial) (gv_tupL (gv_var (i := 3) rfl hl5 (s57.trans s8))) (gv_var (i := 7) rfl hp8 (Same.refl _))).imp fun v B9 _ hv => ⟨⟨x, m⟩, ⟨⟨tw, fun st hst => mv st hst⟩, ⟨fun q hq => (mk q hq).1, mnd, fun q hq => by have := (mk q hq).2.n; omega, fun q hq => by have := (mk q hq).2.d; omega, (by show m.length ≤ 27; omega)⟩⟩, ?_⟩) fun v B9 H9 g9 hv => q v B9 H9 (g8.and g9) hv
        have e : yLeads D x = yT (ls.map fun l => yT (l.map yFs)) := by
          show yT ((leadRows D x D.length).map fun l => yT (l.map yFs)) = _
          rw [hx]
        show (yT [yAny, yLeads D x, yPrices m]).p v B9
        rw [e]
        exact hv
end
end LD
set_option maxRecDepth 100000
set_option maxHeartbeats 400000
/-! LdLaw8: law -/

namespace LD
open PySem PyProof.Rows L2
abbrev s_law : Stmt := topS 87
theorem sc_law : FnScope ["_law_script", "_law_dice_here", "_law_turn", "_law_cups", "_law_dealers", "_law_web_here", "_law_worths", "_law_leads", "_law_prices", "_law_sums", "_law_greatest", "_law_smallest", "_law_forest", "_law_lead_here"] ["_law_script"] (defScope s_law) :=
  ⟨rfl, rfl, rfl, by decide +kernel, rfl, by decide +kernel, by decide +kernel⟩
/-! ## plain: what most and least tell -/
theorem leadW_eq {c : Int} {D : Dl} {rank : Nat → Nat} {x : Nm → Rat} (o : WebOk c D rank) (tw : Twelfth x) {st : List Int} (hst : st ∈ steps D) : ((leadW D x st : Int) : Rat) = leadS D x st * ((botAll D x : Nat) : Int) := by
  obtain ⟨la, lb, lc⟩ := leadsAll_ok o.sm tw
  obtain ⟨ba, bb, bc⟩ := bot_ok la
  obtain ⟨h, s, n, p, rfl, e⟩ := steps_mem.mp hst
  obtain ⟨dl, ps, e1, e2, e3⟩ := pairAt_some e
  have ib := o.inb dl (List.mem_of_getElem? e1) ps (List.mem_of_getElem? e2) p (List.mem_of_getElem? e3)
  have hL : leadS D x (stp h s n) ∈ leadsAll D x := by
    unfold leadS
    rw [nextF_eq e]
    exact lc h p.2.toNat dl e1 (by omega)
  obtain ⟨k, hk⟩ := bc _ hL
  have hk : botAll D x = (leadS D x (stp h s n)).den * k := hk
  unfold leadW
  generalize leadS D x (stp h s n) = r at hk hL
  have hd := r.den_pos
  have e4 : ((botAll D x : Nat) : Int).fdiv (r.den : Int) = (k : Int) := by
    rw [hk, Int.natCast_mul, Int.mul_fdiv_cancel_left _ (by omega)]
  rw [e4, hk, Rat.intCast_mul, Int.natCast_mul, Rat.intCast_mul]
  have hn := den_ne r
  have h3 := rat_nd r
  generalize (((r.den : Nat) : Int) : Rat) = b at *
  generalize (r.num : Rat) = z at *
  generalize (((k : Nat) : Int) : Rat) = y
  grind
theorem sumW_eq {c : Int} {D : Dl} {rank : Nat → Nat} {x : Nm → Rat} (o : WebOk c D rank) (tw : Twelfth x) : ∀ F : List (List Int), (∀ st ∈ F, st ∈ steps D) → (((F.map (leadW D x)).sum : Int) : Rat) = (F.map (leadS D x)).sum * (((botAll D x : Nat) : Int) : Rat)
  | [], _ => by show ((0 : Int) : Rat) = (0 : Rat) * _; have : ((0 : Int) : Rat) = 0 := rfl; rw [this]; grind
  | st :: F, h => by
    rw [List.map_cons, List.map_cons, List.sum_cons, List.sum_cons, Rat.intCast_add, leadW_eq o tw (h st List.mem_cons_self), sumW_eq o tw F fun t ht => h t (List.mem_cons_of_mem _ ht)]
    grind
/-- the leads of the ends of a forest -/
def lsum (D : Dl) (x : Nm → Rat) (F : List (List Int)) : Rat := leadSum x (F.map (nextF D)) (F.map (nextF D)).length
theorem rsum_range {α : Type} {f : α → Rat} {d : α} : ∀ (F : List α), (F.map f).sum = ((List.range F.length).map fun h => f (F.getD h d)).sum := by
  intro F
  have : F = (List.range F.length).map fun h => F.getD h d := by
    apply List.ext_getElem?
    intro i
    rw [List.getElem?_map]
    by_cases h : i < F.length
    · rw [List.getElem?_range h]
      simp only [Option.map_some, List.getD_eq_getElem?_getD, List.getElem?_eq_getElem h, Option.getD_some]
    · rw [List.getElem?_eq_none (by omega), List.getElem?_eq_none (by rw [List.length_range]; omega)]; rfl
  conv => lhs; rw [this]
  rw [List.map_map]; rfl
theorem lsum_eq {D : Dl} {x : Nm → Rat} {F : List (List Int)} (c : Choice D.length (steps D) F) : lsum D x F = (F.map (leadS D x)).sum := by
  rw [rsum_range (d := []) F]
  unfold lsum leadSum
  rw [List.length_map]
  congr 1
  apply List.map_congr_left
  intro h hh
  have hh := List.mem_range.mp hh
  have e := List.getElem?_eq_getElem hh
  have e2 : F.getD h [] = F[h] := by rw [List.getD_eq_getElem?_getD, e]; rfl
  have e3 : (F.map (nextF D)).getD h 0 = nextF D F[h] := by rw [List.getD_eq_getElem?_getD, List.getElem?_map, e]; rfl
  have ho := c.own h _ e
  rw [e2, e3]
  unfold leadS
  rw [ho]
  rfl
theorem forests_mem {D : Dl} {F : List (List Int)} : F ∈ forestsOf D ↔ Choice D.length (steps D) F ∧ goesHome (F.map (doorF D)) = true := by
  unfold forestsOf
  rw [List.mem_filter]
  exact ⟨fun ⟨a, b⟩ => ⟨choice_of a, b⟩, fun ⟨a, b⟩ => ⟨of_choice a, b⟩⟩
theorem rdiv_of {n : Int} {b : Nat} {r : Rat} (hb : 0 < b) (h : (n : Rat) = r * ((b : Int) : Rat)) : Rat.divInt n (b : Int) = r := by
  have hb0 : (((b : Nat) : Int) : Rat) ≠ 0 := by
    have : ((b : Nat) : Int) ≠ 0 := by omega
    exact_mod_cast this
  rw [Rat.divInt_eq_div, h]
  generalize (((b : Nat) : Int) : Rat) = y at *
  grind
theorem le_of_W {a b : Int} {r s : Rat} {k : Nat} (hk : 0 < k) (h1 : (a : Rat) = r * ((k : Int) : Rat)) (h2 : (b : Rat) = s * ((k : Int) : Rat)) (h : a ≤ b) : r ≤ s := by
  have hk0 : (0 : Rat) < (((k : Nat) : Int) : Rat) := by
    have : (0 : Int) < ((k : Nat) : Int) := by omega
    exact_mod_cast this
  have h3 : (a : Rat) ≤ (b : Rat) := by exact_mod_cast h
  rw [h1, h2] at h3
  generalize (((k : Nat) : Int) : Rat) = y at *
  exact Rat.le_of_mul_le_mul_right h3 hk0
theorem most_ok {c : Int} {D : Dl} {rank : Nat → Nat} {x : Nm → Rat} (o : WebOk c D rank) (tw : Twelfth x) : mostF D x ∈ forestsOf D ∧ mostR D x = lsum D x (mostF D x) ∧ ∀ F ∈ forestsOf D, lsum D x F ≤ mostR D x := by
  obtain ⟨la, lb, lc⟩ := leadsAll_ok o.sm tw
  obtain ⟨ba, bb, bc⟩ := bot_ok la
  have ba : 0 < botAll D x := ba
  obtain ⟨h1, h2, h3⟩ := heavy_forest (W := leadW D x) (steps_ok o)
  have h1 : Choice D.length (steps D) (mostF D x) := h1
  have hm : mostF D x ∈ forestsOf D := forests_mem.mpr ⟨h1, h2⟩
  have e := sumW_eq o tw (mostF D x) h1.mem
  have er : mostR D x = lsum D x (mostF D x) := by
    rw [lsum_eq h1]
    exact rdiv_of ba e
  refine ⟨hm, er, fun F hF => ?_⟩
  obtain ⟨f1, f2⟩ := forests_mem.mp hF
  rw [er, lsum_eq h1, lsum_eq f1]
  exact le_of_W ba (sumW_eq o tw F f1.mem) e (h3 F f1 f2)
theorem sumM_eq {D : Dl} {x : Nm → Rat} : ∀ F : List (List Int), (F.map (leadM D x)).sum = -((F.map (leadW D x)).sum)
  | [] => rfl
  | st :: F => by
    rw [List.map_cons, List.map_cons, List.sum_cons, List.sum_cons, sumM_eq F]
    unfold leadM
    omega
theorem least_ok {c : Int} {D : Dl} {rank : Nat → Nat} {x : Nm → Rat} (o : WebOk c D rank) (tw : Twelfth x) : leastF D x ∈ forestsOf D ∧ leastR D x = lsum D x (leastF D x) ∧ ∀ F ∈ forestsOf D, leastR D x ≤ lsum D x F := by
  obtain ⟨la, lb, lc⟩ := leadsAll_ok o.sm tw
  obtain ⟨ba, bb, bc⟩ := bot_ok la
  have ba : 0 < botAll D x := ba
  obtain ⟨h1, h2, h3⟩ := heavy_forest (W := leadM D x) (steps_ok o)
  have h1 : Choice D.length (steps D) (leastF D x) := h1
  have hm : leastF D x ∈ forestsOf D := forests_mem.mpr ⟨h1, h2⟩
  have e := sumW_eq o tw (leastF D x) h1.mem
  have er : leastR D x = lsum D x (leastF D x) := by
    rw [lsum_eq h1]
    refine rdiv_of ba ?_
    have : -(leastN D x) = ((leastF D x).map (leadW D x)).sum := by
      unfold leastN
      rw [sumM_eq]
      omega
    rw [this]
    exact e
  refine ⟨hm, er, fun F hF => ?_⟩
  obtain ⟨f1, f2⟩ := forests_mem.mp hF
  rw [er, lsum_eq h1, lsum_eq f1]
  refine le_of_W ba e (sumW_eq o tw F f1.mem) ?_
  have := h3 F f1 f2
  rw [sumM_eq] at this
  have e2 : ((heavyOf D.length (doorF D) (leadM D x) (steps D)).map (leadM D x)).sum = -(((leastF D x).map (leadW D x)).sum) := sumM_eq _
  rw [e2] at this
  omega
theorem choices_nd {D : Dl} : ∀ i, (choicesOf D i).Nodup
  | 0 => by simp [choicesOf]
  | i + 1 => by
    have ih := choices_nd (D := D) i
    have mnd : (mineOf D i).Nodup := List.Nodup.sublist List.filter_sublist (steps_nodup D)
    rw [choicesOf]
    unfold List.Nodup
    rw [List.pairwise_flatMap]
    refine ⟨fun F _ => nodup_map_on (fun a _ b _ e => by simpa using e) mnd, ?_⟩
    refine List.Pairwise.imp (fun {a b} (ne : a ≠ b) p hp q hq e => ?_) ih
    obtain ⟨s, _, rfl⟩ := List.mem_map.mp hp
    obtain ⟨t, _, rfl⟩ := List.mem_map.mp hq
    exact ne (List.append_inj_left' e rfl)
theorem forests_nd {D : Dl} : (forestsOf D).Nodup := List.Nodup.sublist List.filter_sublist (choices_nd _)
/-! ## data -/
def dE (r : Rat) (F : List (List Int)) : PyData := .tuple [dF r, dIs F]
theorem dp_end {K : PySem.W.Frag} {r : Rat} {F : List (List Int)} : IsDp K (yEnd r F) (dE r F) := dp_t rfl fun i T d e1 e2 => by
  match i, e1, e2 with
  | 0, e1, e2 =>
    simp at e1 e2
    subst e1 e2
    exact dp_fs
  | 1, e1, e2 =>
    simp at e1 e2
    subst e1 e2
    exact dp_Is
  | i + 2, e1, e2 => simp at e1
theorem sh_end {r : Rat} {F : List (List Int)} : SeqAt.shaped (dE r F) = true := by
  have h1 := sh_F (r := r)
  have h2 := sh_Is (f := F)
  have d1 := depthAll_tups F
  have d2 := depthAll_ints [r.num, (r.den : Int)]
  unfold SeqAt.shaped at h1 h2 ⊢
  obtain ⟨a1, a2⟩ := Bool.and_eq_true_iff.mp h1
  obtain ⟨b1, b2⟩ := Bool.and_eq_true_iff.mp h2
  refine Bool.and_eq_true_iff.mpr ⟨?_, ?_⟩
  · unfold dE
    rw [PyData.canLay0, PyData.canLayAll0, PyData.canLayAll0, PyData.canLayAll0]
    simp [a1, b1]
  · have e1 : (dF r).depth ≤ 1 := by
      unfold dF
      rw [PyData.depth]
      have : PyData.depthAll [PyData.int r.num, PyData.int (r.den : Int)] = 0 := d2
      omega
    have e2 : (dIs F).depth ≤ 2 := by
      unfold dIs
      rw [PyData.depth]
      omega
    unfold dE
    rw [PyData.depth, PyData.depthAll, PyData.depthAll, PyData.depthAll]
    refine decide_eq_true ?_
    omega
theorem eqv_end {r : Rat} {F : List (List Int)} : PyData.eqv (dE r F) (dE r F) = true := by
  unfold dE
  rw [PyData.eqv, PyData.eqvAll, PyData.eqvAll, PyData.eqvAll, eqv_F, eqv_Is]
  simp
/-! ## heap readings -/
section
variable {σ : L2.St} {B H : Hp} {te : TE} {t u : TT} {D : Ends} {tu tw tz : TS}
theorem ght_test {b : Bool} (h : Gh te σ B H (yB b)) : GhT (tTest te) σ B H b := fun Q q => h _ fun v B2 H2 g hv => ⟨b, hv, q B2 H2 g⟩
theorem ght_not {a : Bool} (h : GhT t σ B H a) : GhT (tNot t) σ B H (!a) := fun Q q => h _ fun B2 H2 g => q B2 H2 g
theorem ght_or {a b : Bool} (h1 : GhT t σ B H a) (h2 : ∀ B1 H1, Gr B H B1 H1 → a = false → GhT u σ B1 H1 b) : GhT (tOr t u) σ B H (a || b) := fun Q q => h1 _ fun B2 H2 g => by
  cases a with
  | true => exact q B2 H2 g
  | false =>
    show u σ H2 Q
    exact h2 B2 H2 g rfl Q fun B3 H3 g3 => q B3 H3 (g.trans g3)
theorem GrD.putE {d e : Addr} {o : HO} {B H B' H' : Hp} (a : GrD d B H B' H') (nb : B' e = none) (ne : e ≠ d) (n : H e = none) : GrD d B H B' (upd H' e o) := ⟨a.g.mut (by rw [cut_out (by simp [ne])]; exact n) nb, a.o.else (Ne.symm ne)⟩
theorem gh_right {P : Program} {w : World} {D0 : Dl} {x0 : Nm → Rat} {ta : TA} {A1 A2 : Ty} {ds : Addr} {m : List (FK × Ty)} {r : Rat} {F : List (List Int)} (k : OwE P w ds m B H) (s : Same B H) (ha : GvA ta σ B [A1, A2, yEnd r F, yX (.ref ds), yFs r]) (hl : look m F = some (yFs r)) : Gh (tCl (spRight P w D0 x0) ta) σ B H (yB true) := fun Q q =>
  ha H s _ fun vs B1 H1 g hvs => by
    obtain ⟨v1, v2, v3, v4, v5, rfl, h1, h2, h3, rfl, h5⟩ := all5 hvs
    exact ⟨B1, v1, v2, v3, ds, v5, m, r, F, rfl, g.in_, h3, h5, k.m g, hl, fun v B2 H2 g2 hv => q v B2 H2 (g.trans g2) hv⟩
end
/-- x = _law_dice(script) -/
theorem hq_ldice {σ : L2.St} {B H : Hp} {i : Nat} {D : Ends} {tz : TS} {K : PySem.W.Frag} {ta : TA} {ns : List Int} (s : Same B H) (h : GvA ta σ B [yS K ns]) (hl : ns.length ≤ 100000) (k : ∀ d B1 H1, Gr B H B1 H1 → H d = none → Ow d oDice B1 H1 → tz D (σ.set i (some (.ref d))) H1) : tSeq (tAsg (tCl (spDice K) ta) (gName i)) tz D σ H := h H s _ fun vs B1 H1 g hvs => by
  obtain ⟨v, rfl, hv⟩ := all1 hvs
  exact ⟨B1, v, ns, rfl, g.in_, hv, hl, fun d B2 H2 g2 hd o => k d B2 H2 (g.trans g2) (g.hs.free hd) o⟩
/-- a fraction, or None -/
def yOp : Option Rat → Ty
  | none => yN
  | some r => yFs r
theorem non_op {o : Option Rat} : Non (yOp o) (!o.isSome) := by
  cases o with
  | none => exact non_n
  | some r => exact non_t
abbrev mS (D : Dl) (x : Nm → Rat) (Fs : List (List (List Int))) : List (FK × Ty) := Fs.map fun F => (F, yFs (lsum D x F))
theorem mS_keys {D : Dl} {x : Nm → Rat} {Fs : List (List (List Int))} : (mS D x Fs).map (·.1) = Fs := by
  unfold mS
  rw [List.map_map]
  show Fs.map (fun F => F) = Fs
  simp
theorem mS_look {D : Dl} {x : Nm → Rat} {Fs : List (List (List Int))} {F : List (List Int)} (n : Fs.Nodup) (h : F ∈ Fs) : look (mS D x Fs) F = some (yFs (lsum D x F)) := look_of_mem (by rw [mS_keys]; exact n) (List.mem_map.mpr ⟨F, h, rfl⟩)
/-- the greatest so far -/
def TopOk (f : List (List Int) → Rat) (Fs : List (List (List Int))) : Option Rat → Prop
  | none => Fs = []
  | some g => (∃ F ∈ Fs, f F = g) ∧ ∀ F ∈ Fs, f F ≤ g
def LowOk (f : List (List Int) → Rat) (Fs : List (List (List Int))) : Option Rat → Prop
  | none => Fs = []
  | some g => (∃ F ∈ Fs, f F = g) ∧ ∀ F ∈ Fs, g ≤ f F
inductive Rlaw (K : PySem.W.Frag) : List Ty → Ty → Prop
  | mk (ns : List Int) (hl : ns.length ≤ 100000) : Rlaw K [yS K ns] (yB true)
theorem sm_lsum {c : Int} {D : Dl} {rank : Nat → Nat} {x : Nm → Rat} (o : WebOk c D rank) (tw : Twelfth x) {F : List (List Int)} (hF : F.length ≤ 3) : Sm (lsum D x F) := by
  obtain ⟨X, a, b⟩ := leadSum_tw tw (F.map (nextF D)) (F.map (nextF D)).length
  refine sm_tw (M := 216) ⟨X, ?_, b⟩ (by decide)
  rw [List.length_map] at a
  omega
theorem prices_hash {P : Program} {w : World} {c : Int} {D : Dl} {rank : Nat → Nat} {m : Row} (o : WebOk c D rank) (h : PricesOk D m) : HashOk P w ((m.map fun p => (p.1, yFs p.2)).map (·.1)) := by
  refine hashOk_of hash_steps (by rw [List.map_map]; exact h.nd) fun k hk => ?_
  rw [List.map_map] at hk
  obtain ⟨q, hq, rfl⟩ := List.mem_map.mp hk
  obtain ⟨a, s, n, p, e, ep⟩ := steps_mem.mp (h.keys q hq)
  obtain ⟨d, ps, e1, e2, e3⟩ := pairAt_some ep
  have l1 := (List.getElem?_eq_some_iff.mp e1).1
  have l2 := (List.getElem?_eq_some_iff.mp e2).1
  have l3 := (List.getElem?_eq_some_iff.mp e3).1
  have b1 := o.sm.hl
  have b2 := o.sm.dl d (List.mem_of_getElem? e1)
  have b3 := o.sm.pl d (List.mem_of_getElem? e1) ps (List.mem_of_getElem? e2)
  show q.1 ∈ steps27
  rw [e]
  exact mem_steps27 (by omega) (by omega) (by omega) (by omega) (by omega) (by omega)
section
variable {P : Program} {w : World} {K : PySem.W.Frag} {mg : Str → Option Value} {base : Heap} {CW : Addr}
/-- the def itself, for the head -/
theorem fun_okG {x : Str} {st : Stmt} {N ps : List Str} {k : Nat} {R : List Ty → Ty → Prop} {f : Addr} {fd : FuncData} (F : Fun K x x st f fd) (S : FnScope N ps (defScope st)) (len : ∀ Ts T, R Ts T → Ts.length = ps.length)
    (body : ∀ (cdv : Value) (A : Around) (outer : List Env) (s : Shared) (H : Hp) (vs : List V) (E : XK) (B : Hp) (Ts : List Ty) (T : Ty), R Ts T → Same B H → All Ts vs B → Room k (A.deeper (envOfC x (defScope st) s.heap.objs.size f cdv)) →
      ∃ t, PSs (cxOf CX0 P w K mg base N x (defScope st) f cdv A outer s H E).nox (defBody st) t ∧ ∀ Q : VK, Post B H T Q → t { nx := fun _ H' => Q .non H', rt := Q } (start N vs) H) : FnOk P w K mg base CX0 (k + 1) f fd ps (spG R) := by
  refine F.ok S ?_ ?_
  · rintro vs H Q E ⟨B, Ts, T, r, s, a, _⟩
    rw [a.len]
    exact len Ts T r
  · rintro cdv A outer s H vs Q E hr ⟨B, Ts, T, r, sb, a, q⟩
    obtain ⟨t, h1, h2⟩ := body cdv A outer s H vs E B Ts T r sb a hr
    exact ⟨t, h1, h2 Q q⟩
theorem ok_law {D0 : Dl} {x0 : Nm → Rat} {f : Addr} {fd : FuncData} (F : Fun K "law" "law" s_law f fd) (bl : Blt mg) (c_law_dice : Cal P w K mg base "_law_dice" 1 ["_law_script"] (spDice K)) (c_law_small_web : Cal P w K mg base "_law_small_web" 5 ["_law_dice_here", "_law_standings"] spSmall) (k_Web : CalI P w K mg base CW "Web" 6 ["self", "cups", "dealers"] (spN CW Rwebinit))
    (c_law_planted : Cal P w K mg base "_law_planted" 3 ["_law_dice_here", "_law_dealers"] spPlant) (c_law_forests : Cal P w K mg base "_law_forests" 2 ["_law_dealers"] (spG Rlforests)) (c_law_lead : Cal P w K mg base "_law_lead" 3 ["_law_leads", "_law_ends"] (spG Rllead)) (c_law_ends_of : Cal P w K mg base "_law_ends_of" 2 ["_law_dealers", "_law_forest"] (spG Rlends))
    (c_law_less : Cal P w K mg base "_law_less" 1 ["_law_one", "_law_other"] (spG Rlless)) (c_law_right : Cal P w K mg base "_law_right" 1 ["_law_dealers", "_law_leads", "_law_told", "_law_sums", "_law_due"] (spRight P w D0 x0)) (c_most : Cal P w K mg base "most" 10 ["web", "prices"] (spG (Rmost K CW))) (c_least : Cal P w K mg base "least" 10 ["web", "prices"] (spG (Rleast K CW))) : FnOk P w K mg base CX0 11 f fd ["_law_script"] (spG (Rlaw K)) := by
  have sc := sc_law
  refine fun_okG F sc (fun Ts T r => by cases r; rfl) (fun cdv A outer s H vs E B Ts T r sb a hr => ?_)
  refine ⟨_, (pss_cons (ps_set (i := 1) sc.nd rfl (.inl rfl) (pe_cl c_law_dice (hr.mono (by decide)) (pa_cons (pv 0) pa_nil)))
(pss_cons (ps_for PassesOwn.never rfl (pi_range1 (by rfl) bl.range_ (pa_cons pe_int pa_nil)) (pg_name (i := 2) sc.nd rfl (.inl rfl))
  (pss_cons (ps_asg (pe_cl c_law_small_web (hr.mono (by decide)) (pa_cons (pv 1) (pa_cons pe_int pa_nil))) (pg_tup (by rfl) (pgs_cons (pg_name (i := 3) sc.nd rfl (.inl rfl)) (pgs_cons (pg_name (i := 4) sc.nd rfl (.inl rfl)) pgs_nil))))
(pss_cons (ps_set (i := 5) sc.nd rfl (.inl rfl) (pe_mk k_Web (hr.mono (by decide)) (pa_cons (pv 3) (pa_cons (pv 4) pa_nil))))
(pss_cons (ps_asg (pe_cl c_law_planted (hr.mono (by decide)) (pa_cons (pv 1) (pa_cons (pv 4) pa_nil))) (pg_tup (by rfl) (pgs_cons (pg_name (i := 6) sc.nd rfl (.inl rfl)) (pgs_cons (pg_name (i := 7) sc.nd rfl (.inl rfl)) (pgs_cons (pg_name (i := 8) sc.nd rfl (.inl rfl)) pgs_nil)))))
(pss_cons (ps_set (i := 9) sc.nd rfl (.inl rfl) pe_dnewE)
(pss_cons (ps_set (i := 10) sc.nd rfl (.inl rfl) pe_non)
(pss_cons (ps_set (i := 11) sc.nd rfl (.inl rfl) pe_non)
(pss_cons (ps_for PassesOwn.never rfl (pi_listK K rfl (pe_cl c_law_forests (hr.mono (by decide)) (pa_cons (pv 4) pa_nil))) (pg_name (i := 12) sc.nd rfl (.inl rfl))
  (pss_cons (ps_set (i := 13) sc.nd rfl (.inl rfl) (pe_cl c_law_lead (hr.mono (by decide)) (pa_cons (pv 7) (pa_cons (pe_cl c_law_ends_of (hr.mono (by decide)) (pa_cons (pv 4) (pa_cons (pv 12) pa_nil))) pa_nil))))
(pss_cons (ps_eput (hr16 hr) (pv 9) (pv 12) (pv 13) rfl)
(pss_cons (ps_if (PW.pt (pw_or (pt_cmpR op_isN (pv 10) pe_non (nomark _)) (pw_or1 (pt_val (pe_cl c_law_less (hr.mono (by decide)) (pa_cons (pv 10) (pa_cons (pv 13) pa_nil)))))))
  (pss_one (ps_set (i := 10) sc.nd rfl (.inl rfl) (pv 13)))
  pss_nil)
(pss_one (ps_if (PW.pt (pw_or (pt_cmpR op_isN (pv 11) pe_non (nomark _)) (pw_or1 (pt_val (pe_cl c_law_less (hr.mono (by decide)) (pa_cons (pv 13) (pa_cons (pv 11) pa_nil)))))))
  (pss_one (ps_set (i := 11) sc.nd rfl (.inl rfl) (pv 13)))
  pss_nil))))))
(pss_cons (ps_if (pt_not (pt_val (pe_cl c_law_right (hr.mono (by decide)) (pa_cons (pv 4) (pa_cons (pv 7) (pa_cons (pe_cl c_most (hr.mono (by decide)) (pa_cons (pv 5) (pa_cons (pv 8) pa_nil))) (pa_cons (pv 9) (pa_cons (pv 10) pa_nil))))))))
  (pss_one (ps_ret pe_bl))
  pss_nil)
(pss_one (ps_if (PW.pt (pw_or (pt_not (pt_val (pe_cl c_law_right (hr.mono (by decide)) (pa_cons (pv 4) (pa_cons (pv 7) (pa_cons (pe_cl c_least (hr.mono (by decide)) (pa_cons (pv 5) (pa_cons (pv 8) pa_nil))) (pa_cons (pv 9) (pa_cons (pv 11) pa_nil)))))))) (pw_or1 (pt_cmpR (op_neDK K rfl (hr64 hr)) (pe_cl c_most (hr.mono (by decide)) (pa_cons (pv 5) (pa_cons (pv 8) pa_nil))) (pe_cl c_most (hr.mono (by decide)) (pa_cons (pv 5) (pa_cons (pb_dictT (LD.hr8 hr) bl.dict_ (pa_cons (pv 8) pa_nil)) pa_nil))) (nomark _)))))
  (pss_one (ps_ret pe_bl))
  pss_nil)))))))))))
(pss_one (ps_ret pe_bl)))), fun Q q => ?_⟩
  cases r with
  | mk ns hl =>
  obtain ⟨v0, rfl, h0⟩ := all1 a
  refine hq_ldice (i := 1) sb (ga_1 (gv_var (i := 0) rfl h0 (Same.refl _))) hl fun d B1 H1 g1 hd o1 => ?_
  have gg1 : GrD d B1 H1 B1 H1 := GrD.refl g1.in_ o1
  refine sq_for g1.in_ (gi_rng1 (n := 2) gv_c (by decide) (by decide)) (fun t σ B2 H2 => ∃ n2 n3 n4 n5 n6 n7 n8 n9 n10 n11 n12 n13, σ = [some v0, some (.ref d), n2, n3, n4, n5, n6, n7, n8, n9, n10, n11, n12, n13] ∧ GrD d B1 H1 B2 H2)
    (fun B2 H2 g2 => ⟨_, _, _, _, _, _, _, _, _, _, _, _, rfl, gg1.and g2⟩) (fun Bs t z σ B2 H2 B3 H3 ht s1 s2 s3 hP g3 hz => ?_) (fun σ B2 H2 s1 s2 hP => ?_)
  · obtain ⟨n2, n3, n4, n5, n6, n7, n8, n9, n10, n11, n12, n13, rfl, g2⟩ := hP
    have gg3 := g2.and g3
    have dv : ∀ σ : L2.St, σ[1]? = some (some (.ref d)) → ∀ (H : Hp) (Q : VK), Q (.ref d) H → tVar 1 σ H Q := fun σ hσ H Q q => ⟨_, hσ, q⟩
    refine dq_asg (T := yWeb) gg3.g.in_ gg3.o (gd_call (Ts := [yI 3]) (dv _ rfl) (ga_1 gv_c) fun vs B5 H5 s5 s6 o5 hvs Q k => by
      obtain ⟨v1, rfl, rfl⟩ := all1 hvs
      exact ⟨B5, d, rfl, s6, o5, k⟩) fun v B4 H4 g4 hv => ?_
    obtain ⟨⟨c, D, rank⟩, wok, hv⟩ := hv
    have wok : WebOk c D rank := wok
    have hv : (yT [yI c, yDl D]).p v B4 := hv
    have gg4 := gg3.trans g4
    refine g_tup2 hv gg4.g.in_ fun vc vd hvc hvd => ?_
    have hD3 := wok.sm.hl
    refine sq_set (i := 5) (T := yW CW c D) gg4.g.in_ (gv_mk (ga_2 (gv_var (i := 3) rfl hvc (Same.refl _)) (gv_var (i := 4) rfl hvd (Same.refl _))) (Rwebinit.mk c D rank wok)) fun v5 B5 H5 g5 hv5 => ?_
    have gg5 := gg4.and g5
    have hvd5 := (yDl D).m g5.bs hvd
    refine dq_asg (T := yPlant D) gg5.g.in_ gg5.o (gd_call (Ts := [yDl D]) (dv _ rfl) (ga_1 (gv_var (i := 4) rfl hvd5 (Same.refl _))) fun vs B6 H6 s5 s6 o5 hvs Q k => by
      obtain ⟨v1, rfl, h1⟩ := all1 hvs
      exact ⟨B6, d, v1, c, D, rank, rfl, s6, o5, wok, h1, k⟩) fun v B6 H6 g6 hv => ?_
    obtain ⟨⟨x, m⟩, ⟨pl, po⟩, hv⟩ := hv
    have pl : Planted D x m := pl
    have po : PricesOk D m := po
    have hv : (yT [yAny, yLeads D x, yPrices m]).p v B6 := hv
    have gg6 := gg5.trans g6
    refine g_tup3 hv gg6.g.in_ fun v6 v7 v8 hv6 hv7 hv8 => ?_
    have tw := pl.tw
    have hvd6 := (yDl D).m g6.g.bs hvd5
    have hv56 := (yW CW c D).m g6.g.bs hv5
    refine hq_newE gg6.g.in_ fun ds H7 g7 hds k7 => ?_
    obtain ⟨ned, hds0⟩ := fresh_D gg6 hds
    have gg7 := gg6.and g7
    refine sq_set (i := 10) (T := yOp none) gg7.g.in_ gv_c fun v10 B8 H8 g8 hv10 => ?_
    refine sq_set (i := 11) (T := yOp none) g8.in_ gv_c fun v11 B9 H9 g9 hv11 => ?_
    have gg9 := (gg7.and g8).and g9
    have k9 := (k7.m g8).m g9
    have s69 : Same B6 B9 := g7.bs.trans (g8.bs.trans g9.bs)
    have fnd := forests_nd (D := D)
    refine sq_for gg9.g.in_ (gi_list (gv_cl (ga_1 (gv_var (i := 4) rfl hvd6 s69)) (gives_G (R := Rlforests) (.mk c D rank wok))) isLs_l) (fun i σ B10 H10 => ∃ (n12 n13 : Option V) (w10 w11 : V) (go so : Option Rat), σ = [some v0, some (.ref d), some z, some vc, some vd, some v5, some v6, some v7, some v8, some (.ref ds), some w10, some w11, n12, n13] ∧ (yOp go).p w10 B10 ∧ (yOp so).p w11 B10 ∧ TopOk (lsum D x) ((forestsOf D).take i) go ∧ LowOk (lsum D x) ((forestsOf D).take i) so ∧ OwE P w ds (mS D x ((forestsOf D).take i)) B10 H10 ∧ GrD d B1 H1 B10 H10 ∧ Same B9 B10)
      (fun B10 H10 g10 => ⟨_, _, v10, v11, none, none, rfl, (yOp none).m (g9.bs.trans g10.bs) hv10, (yOp none).m g10.bs hv11, rfl, rfl, k9.m g10, gg9.and g10, g10.bs⟩) (fun Bs2 i y σ B10 H10 B11 H11 hi s4 s5 s6 hP g11 hy => ?_) (fun σ B10 H10 s4 s5 hP => ?_)
    · obtain ⟨n12, n13, w10, w11, go, so, rfl, hw10, hw11, top, low, k10, g10, s910⟩ := hP
      rw [List.length_map] at hi
      obtain ⟨F, hF⟩ : ∃ r, (forestsOf D)[i]? = some r := ⟨_, List.getElem?_eq_getElem hi⟩
      rw [hT_map i F hF] at hy
      have memF := List.mem_of_getElem? hF
      obtain ⟨ch, _⟩ := forests_mem.mp memF
      have htk : (forestsOf D).take (i + 1) = (forestsOf D).take i ++ [F] := by rw [List.take_add_one, hF]; rfl
      have noF := nodup_take_no fnd hF
      have gg11 := g10.and g11
      have k11 := k10.m g11
      have s611 : Same B6 B11 := s69.trans (s910.trans g11.bs)
      have smF : ∀ G ∈ forestsOf D, Sm (lsum D x G) := fun G hG => sm_lsum wok tw (by rw [(forests_mem.mp hG).1.len]; exact hD3)
      have hl2 : (F.map (nextF D)).length = D.length := by rw [List.length_map, ch.len]
      refine sq_set (i := 13) (T := yFs (lsum D x F)) gg11.g.in_ (gv_cl (ga_2 (gv_var (i := 7) rfl hv7 s611) (gv_cl (ga_2 (gv_var (i := 4) rfl hvd6 s611) (gv_var (i := 12) rfl hy (Same.refl _))) (gives_G (R := Rlends) (.mk D F (by rw [ch.len]; exact hD3) ch.mem)))) (gives_G (R := Rllead) (.mk D x wok.sm tw (F.map (nextF D)) (by omega) fun j e he => ?_))) fun v13 B12 H12 g12 hv13 => ?_
      · rw [List.getElem?_map] at he
        cases hst : F[j]? with
        | none => rw [hst] at he; cases he
        | some st =>
        rw [hst] at he
        cases he
        obtain ⟨h, sd, n, p, e, ep⟩ := steps_mem.mp (ch.mem st (List.mem_of_getElem? hst))
        obtain ⟨dl, ps, e1, e2, e3⟩ := pairAt_some ep
        have ib := wok.inb dl (List.mem_of_getElem? e1) ps (List.mem_of_getElem? e2) p (List.mem_of_getElem? e3)
        have ho := ch.own j st hst
        rw [e] at ho
        have ho : (h : Int) = (j : Int) := ho
        have : h = j := by omega
        subst this
        rw [e, nextF_eq ep]
        exact ⟨dl, e1, ib.2.2.1, ib.2.2.2⟩
      · have gg12 := gg11.and g12
        have k12 := k11.m g12
        have hlt : (forestsOf D).length < 100000 := by
          have a1 : (forestsOf D).length ≤ (choicesOf D D.length).length := List.length_filter_le _ _
          have a2 := choices_len wok.sm D.length hD3
          have a3 : 27 ^ D.length ≤ 27 ^ 3 := Nat.pow_le_pow_right (by decide) hD3
          have a4 : (27 : Nat) ^ 3 = 19683 := rfl
          omega
        refine hq_eput (f := F) (T := yFs (lsum D x F)) (is_var rfl) k12 gg12.g.in_ (by rw [mS_keys]; exact noF) (by rw [List.length_map, List.length_take]; omega) (gv_var (i := 13) rfl hv13 (Same.refl _)) (gv_var (i := 12) rfl hy g12.bs) fun B13 H13 o13 g13 k13 => ?_
        have gg13 : GrD d B1 H1 B13 (upd H13 ds o13) := (gg12.and g13).putE (k12.m g13).nb ned (by
          cases e : H1 ds with
          | none => rfl
          | some u =>
            have := gg6.g.hs ds u (by rw [cut_out (by simp [ned])]; exact e)
            rw [hds] at this; cases this)
        have k13 : OwE P w ds (mS D x ((forestsOf D).take (i + 1))) B13 (upd H13 ds o13) := by
          rw [htk]
          unfold mS
          rw [List.map_append]
          exact k13
        generalize upd H13 ds o13 = H14 at gg13 k13
        have s1113 : Same B11 B13 := g12.bs.trans g13.bs
        have hw10' := (yOp go).m (g11.bs.trans s1113) hw10
        have hw11' := (yOp so).m (g11.bs.trans s1113) hw11
        have hv13' := (yFs (lsum D x F)).m g13.bs hv13
        have smf := smF F memF
        -- the greatest
        refine seq_k (Pv := fun σ' B' H' => ∃ (u10 : V) (go' : Option Rat), σ' = [some v0, some (.ref d), some z, some vc, some vd, some v5, some v6, some v7, some v8, some (.ref ds), some u10, some w11, some y, some v13] ∧ (yOp go').p u10 B' ∧ TopOk (lsum D x) ((forestsOf D).take (i + 1)) go' ∧ OwE P w ds (mS D x ((forestsOf D).take (i + 1))) B' H' ∧ GrD d B1 H1 B' H' ∧ Same B13 B') (fun σ' B14 H14 s14 hP => ?_) fun cont => ?_
        · obtain ⟨u10, go', rfl, hu10, top', k14, g14, s1314⟩ := hP
          have hw11'' := (yOp so).m s1314 hw11'
          have hv13'' := (yFs (lsum D x F)).m s1314 hv13'
          have sB : Same Bs2 B14 := s5.trans (g11.bs.trans (s1113.trans s1314))
          have s914 : Same B9 B14 := s910.trans (g11.bs.trans (s1113.trans s1314))
          refine st_ifN (B := B14) (b := match so with | none => true | some g => decide (lsum D x F < g)) s14 ?_ (fun hb B15 H15 g15 => ?_) (fun hb B15 H15 g15 => ?_)
          · cases so with
            | none => exact GvT.cast (b := true || true) (gt_or (gt_test (gv_isN (gv_var (i := 11) rfl hw11'' (Same.refl _)) (non_op (o := none)))) fun h => nomatch h) rfl
            | some g => exact GvT.cast (b := false || decide (lsum D x F < g)) (gt_or (gt_test (gv_isN (gv_var (i := 11) rfl hw11'' (Same.refl _)) (non_op (o := some g)))) fun _ => gt_test (gv_cl (ga_2 (gv_var (i := 13) rfl hv13'' (Same.refl _)) (gv_var (i := 11) rfl hw11'' (Same.refl _))) (gives_G (R := Rlless) (.mk _ _ smf (by
              obtain ⟨⟨G, hG, rfl⟩, _⟩ := low
              exact smF G (List.take_subset _ _ hG)))))) (by simp)
          · refine st_set (i := 11) (T := yOp (some (lsum D x F))) g15.in_ (gv_var (i := 13) rfl (T := yOp (some (lsum D x F))) hv13'' g15.bs) fun v B16 H16 g16 hv => ?_
            refine ⟨B16, sB.trans (g15.bs.trans g16.bs), g16.in_, _, _, u10, v, go', some (lsum D x F), rfl, (yOp go').m (g15.bs.trans g16.bs) hu10, hv, top', ⟨⟨F, by rw [htk]; simp, rfl⟩, fun G hG => ?_⟩, (k14.m g15).m g16, (g14.and g15).and g16, s914.trans (g15.bs.trans g16.bs)⟩
            rw [htk] at hG
            rcases List.mem_append.mp hG with hG | hG
            · cases so with
              | none => rw [show (forestsOf D).take i = [] from low] at hG; cases hG
              | some g =>
                have h1 : lsum D x F < g := of_decide_eq_true hb
                have h2 := low.2 G hG
                grind
            · rw [List.mem_singleton.mp hG]; exact Rat.le_refl
          · refine ⟨B15, sB.trans g15.bs, g15.in_, _, _, u10, w11, go', so, rfl, (yOp go').m g15.bs hu10, (yOp so).m g15.bs hw11'', top', ?_, k14.m g15, g14.and g15, s914.trans g15.bs⟩
            cases so with
            | none => cases hb
            | some g =>
              have h1 : ¬ lsum D x F < g := of_decide_eq_false hb
              refine ⟨?_, fun G hG => ?_⟩
              · obtain ⟨G, hG, e⟩ := low.1
                exact ⟨G, by rw [htk]; exact List.mem_append_left _ hG, e⟩
              · rw [htk] at hG
                rcases List.mem_append.mp hG with hG | hG
                · exact low.2 G hG
                · rw [List.mem_singleton.mp hG]; exact Rat.not_lt.mp h1
        · refine sq_ifN (B := B13) (b := match go with | none => true | some g => decide (g < lsum D x F)) gg13.g.in_ ?_ (fun hb B15 H15 g15 => ?_) (fun hb B15 H15 g15 => ?_)
          · cases go with
            | none => exact GvT.cast (b := true || true) (gt_or (gt_test (gv_isN (gv_var (i := 10) rfl hw10' (Same.refl _)) (non_op (o := none)))) fun h => nomatch h) rfl
            | some g => exact GvT.cast (b := false || decide (g < lsum D x F)) (gt_or (gt_test (gv_isN (gv_var (i := 10) rfl hw10' (Same.refl _)) (non_op (o := some g)))) fun _ => gt_test (gv_cl (ga_2 (gv_var (i := 10) rfl hw10' (Same.refl _)) (gv_var (i := 13) rfl hv13' (Same.refl _))) (gives_G (R := Rlless) (.mk _ _ (by
              obtain ⟨⟨G, hG, rfl⟩, _⟩ := top
              exact smF G (List.take_subset _ _ hG)) smf)))) (by simp)
          · refine st_set (i := 10) (T := yOp (some (lsum D x F))) g15.in_ (gv_var (i := 13) rfl (T := yOp (some (lsum D x F))) hv13' g15.bs) fun v B16 H16 g16 hv => ?_
            refine cont _ B16 H16 g16.in_ ⟨v, some (lsum D x F), rfl, hv, ⟨⟨F, by rw [htk]; simp, rfl⟩, fun G hG => ?_⟩, (k13.m g15).m g16, (gg13.and g15).and g16, g15.bs.trans g16.bs⟩
            rw [htk] at hG
            rcases List.mem_append.mp hG with hG | hG
            · cases go with
              | none => rw [show (forestsOf D).take i = [] from top] at hG; cases hG
              | some g =>
                have h1 : g < lsum D x F := of_decide_eq_true hb
                have h2 := top.2 G hG
                grind
            · rw [List.mem_singleton.mp hG]; exact Rat.le_refl
          · refine cont _ B15 H15 g15.in_ ⟨w10, go, rfl, (yOp go).m g15.bs hw10', ?_, k13.m g15, gg13.and g15, g15.bs⟩
            cases go with
            | none => cases hb
            | some g =>
              have h1 : ¬ g < lsum D x F := of_decide_eq_false hb
              refine ⟨?_, fun G hG => ?_⟩
              · obtain ⟨G, hG, e⟩ := top.1
                exact ⟨G, by rw [htk]; exact List.mem_append_left _ hG, e⟩
              · rw [htk] at hG
                rcases List.mem_append.mp hG with hG | hG
                · exact top.2 G hG
                · rw [List.mem_singleton.mp hG]; exact Rat.not_lt.mp h1
    · obtain ⟨n12, n13, w10, w11, go, so, rfl, hw10, hw11, top, low, k10, g10, s910⟩ := hP
      rw [List.length_map, List.take_length] at top low k10
      obtain ⟨m1, m2, m3⟩ := most_ok wok tw
      obtain ⟨l1, l2, l3⟩ := least_ok wok tw
      have hgo : go = some (mostR D x) := by
        cases go with
        | none => rw [show forestsOf D = [] from top] at m1; cases m1
        | some g =>
          obtain ⟨⟨G, hG, rfl⟩, t2⟩ := top
          have a1 := m3 G hG
          have a2 := t2 _ m1
          rw [← m2] at a2
          rw [Rat.le_antisymm a1 a2]
      have hso : so = some (leastR D x) := by
        cases so with
        | none => rw [show forestsOf D = [] from low] at l1; cases l1
        | some g =>
          obtain ⟨⟨G, hG, rfl⟩, t2⟩ := low
          have a1 := l3 G hG
          have a2 := t2 _ l1
          rw [← l2] at a2
          rw [Rat.le_antisymm a2 a1]
      subst hgo hso
      have hw10 : (yFs (mostR D x)).p w10 B10 := hw10
      have hw11 : (yFs (leastR D x)).p w11 B10 := hw11
      have lm : look (mS D x (forestsOf D)) (mostF D x) = some (yFs (mostR D x)) := by rw [mS_look fnd m1, m2]
      have ll : look (mS D x (forestsOf D)) (leastF D x) = some (yFs (leastR D x)) := by rw [mS_look fnd l1, l2]
      have s610 : Same B6 B10 := s69.trans s910
      have webG : ∀ (σ : L2.St) B', σ[5]? = some (some v5) → Same B10 B' → Gv (tVar 5) σ B' (yW CW c D) := fun σ B' hσ s' => gv_var hσ hv56 (s610.trans s')
      have prG : ∀ (σ : L2.St) B', σ[8]? = some (some v8) → Same B10 B' → Gv (tVar 8) σ B' (yPrices m) := fun σ B' hσ s' => gv_var hσ hv8 (s610.trans s')
      refine hq_ifN (b := !true) (ght_not (ght_test (gh_right k10 g10.g.in_ (ga_5 (gv_var (i := 4) rfl hvd6 s610) (gv_var (i := 7) rfl hv7 s610) (gv_cl (ga_2 (webG _ _ rfl (Same.refl _)) (prG _ _ rfl (Same.refl _))) (gives_G (R := Rmost K CW) (.mk c D rank x m wok pl po))) (gv_v (i := 9) rfl) (gv_var (i := 10) rfl hw10 (Same.refl _))) lm))) (fun h => nomatch h) fun _ B11 H11 g11 => ?_
      have k11 := k10.m g11
      have g1011 := g10.and g11
      refine ht_if (b := !true || !(PyData.eqv (dE (mostR D x) (mostF D x)) (dE (mostR D x) (mostF D x)))) (ght_or (ght_not (ght_test (gh_right k11 g11.in_ (ga_5 (gv_var (i := 4) rfl hvd6 (s610.trans g11.bs)) (gv_var (i := 7) rfl hv7 (s610.trans g11.bs)) (gv_cl (ga_2 (webG _ _ rfl g11.bs) (prG _ _ rfl g11.bs)) (gives_G (R := Rleast K CW) (.mk c D rank x m wok pl po))) (gv_v (i := 9) rfl) (gv_var (i := 11) rfl hw11 g11.bs)) ll))) fun B12 H12 g12 _ => (gt_test (gv_neD (gv_cl (ga_2 (webG _ _ rfl (g11.bs.trans g12.bs)) (prG _ _ rfl (g11.bs.trans g12.bs))) (gives_G (R := Rmost K CW) (.mk c D rank x m wok pl po))) (gv_cl (ga_2 (webG _ _ rfl (g11.bs.trans g12.bs)) (gv_dictT (prG _ _ rfl (g11.bs.trans g12.bs)) isDT_s (prices_hash wok po))) (gives_G (R := Rmost K CW) (.mk c D rank x m wok pl po))) dp_end dp_end sh_end sh_end)).h g12.in_) (fun h => ?_) fun _ B12 H12 g12 => ?_
      · rw [eqv_end] at h; cases h
      · exact ⟨B12, s2.trans (g3.bs.trans (g4.g.bs.trans (g5.bs.trans (g6.g.bs.trans (s610.trans (g11.bs.trans g12.bs)))))), g12.in_, _, _, _, _, _, _, _, _, _, _, _, _, rfl, g1011.and g12⟩
  · obtain ⟨n2, n3, n4, n5, n6, n7, n8, n9, n10, n11, n12, n13, rfl, g2⟩ := hP
    have gf : Gr B H B2 H2 := g1.over (ds := [d]) (fun y hy => by rw [List.mem_singleton.mp hy]; exact hd) g2.g
    exact st_ret (T := yB true) s2 gv_c fun v B' H' g hv => q v B' H' (gf.trans g) hv
end
end LD
set_option maxRecDepth 100000
set_option maxHeartbeats 4000000
/-! LdJoin: all promises joined; what the head tells. Printed by joiner.py. -/
namespace LD
open PySem PyProof.Rows L2
section
variable {P : Program} {w : World} {K : PySem.W.Frag} {mg : Str → Option Value} {base : Heap} {CE CW CL CD : Addr}
theorem all_law {f : Addr} {fd : FuncData} (F : Fun K "law" "law" s_law f fd)
    (d_common : Def K mg "common" s_common ["one", "other"])
    (d_made : Def K mg "made" s_made ["top", "bottom"])
    (d_whole : Def K mg "whole" s_whole ["number"])
    (d_plus : Def K mg "plus" s_plus ["one", "other"])
    (d_minus : Def K mg "minus" s_minus ["one", "other"])
    (d_times : Def K mg "times" s_times ["one", "other"])
    (d_over : Def K mg "over" s_over ["one", "other"])
    (d_with_times : Def K mg "with_times" s_with_times ["one", "other", "factor"])
    (d_without_noughts : Def K mg "without_noughts" s_without_noughts ["row"])
    (d_Equation___init__ : DefI K mg CE "Equation" "Equation.__init__" s_Equation___init__ ["self", "row", "right", "mix"])
    (d_Equation_less : DefM K CE "less" "Equation.less" s_Equation_less ["self", "other", "factor"])
    (d_values_of : Def K mg "values_of" s_values_of ["heads"])
    (d_solved : Def K mg "solved" s_solved ["rows", "rights"])
    (d_is_number : Def K mg "is_number" s_is_number ["thing"])
    (d_is_fraction : Def K mg "is_fraction" s_is_fraction ["thing"])
    (d_is_within : Def K mg "is_within" s_is_within ["thing", "least", "most"])
    (d_is_pair : Def K mg "is_pair" s_is_pair ["thing"])
    (d_is_triple : Def K mg "is_triple" s_is_triple ["thing"])
    (d_is_rising : Def K mg "is_rising" s_is_rising ["items"])
    (d_common_bottom : Def K mg "common_bottom" s_common_bottom ["fractions"])
    (d_door_at : Def K mg "door_at" s_door_at ["web", "step"])
    (d_next_at : Def K mg "next_at" s_next_at ["web", "step"])
    (d_all_steps : Def K mg "all_steps" s_all_steps ["web"])
    (d_worth_name : Def K mg "worth_name" s_worth_name ["door"])
    (d_price_of : Def K mg "price_of" s_price_of ["prices", "step"])
    (d_equation_of : Def K mg "equation_of" s_equation_of ["web", "step"])
    (d_looked_for : Def K mg "looked_for" s_looked_for ["web", "prices"])
    (d_table_of : Def K mg "table_of" s_table_of ["web", "prices"])
    (d_is_house : Def K mg "is_house" s_is_house ["web", "thing"])
    (d_is_step : Def K mg "is_step" s_is_step ["web", "thing"])
    (d_is_price : Def K mg "is_price" s_is_price ["thing"])
    (d_check_prices : Def K mg "check_prices" s_check_prices ["web", "thing"])
    (d_table_for : Def K mg "table_for" s_table_for ["web", "prices"])
    (d_leads_by_step : Def K mg "leads_by_step" s_leads_by_step ["web", "told"])
    (d_Lines_out_of : DefM K CL "out_of" "Lines.out_of" s_Lines_out_of ["self", "lot"])
    (d_Lines_lower : DefM K CL "lower" "Lines.lower" s_Lines_lower ["self", "lot"])
    (d_Lines___init__ : DefI K mg CL "Lines" "Lines.__init__" s_Lines___init__ ["self", "web", "weights"])
    (d_Drawing_top_with : DefM K CD "top_with" "Drawing.top_with" s_Drawing_top_with ["self", "house"])
    (d_Drawing_ring_from : DefM K CD "ring_from" "Drawing.ring_from" s_Drawing_ring_from ["self", "lot"])
    (d_Drawing_choose : DefM K CD "choose" "Drawing.choose" s_Drawing_choose ["self", "lot"])
    (d_Drawing_draw : DefM K CD "draw" "Drawing.draw" s_Drawing_draw ["self"])
    (d_Drawing_lines_chosen : DefM K CD "lines_chosen" "Drawing.lines_chosen" s_Drawing_lines_chosen ["self"])
    (d_Drawing___init__ : DefI K mg CD "Drawing" "Drawing.__init__" s_Drawing___init__ ["self", "web", "weights"])
    (d_heaviest_of : Def K mg "heaviest_of" s_heaviest_of ["web", "weights"])
    (d_most_by : Def K mg "most_by" s_most_by ["web", "told"])
    (d_least_by : Def K mg "least_by" s_least_by ["web", "told"])
    (d_most : Def K mg "most" s_most ["web", "prices"])
    (d_least : Def K mg "least" s_least ["web", "prices"])
    (d_met_from : Def K mg "met_from" s_met_from ["begin", "goals"])
    (d_is_standing : Def K mg "is_standing" s_is_standing ["thing", "cups", "houses", "standings"])
    (d_is_dealer : Def K mg "is_dealer" s_is_dealer ["thing", "cups", "houses"])
    (d_is_joined : Def K mg "is_joined" s_is_joined ["dealer"])
    (d_doors_of : Def K mg "doors_of" s_doors_of ["dealers"])
    (d_check_web : Def K mg "check_web" s_check_web ["cups", "dealers"])
    (d_Web___init__ : DefI K mg CW "Web" "Web.__init__" s_Web___init__ ["self", "cups", "dealers"])
    (d__law_draw : Def K mg "_law_draw" s__law_draw ["_law_dice_here", "_law_sides"])
    (d__law_steps : Def K mg "_law_steps" s__law_steps ["_law_dealers"])
    (d__law_door : Def K mg "_law_door" s__law_door ["_law_dealers", "_law_step"])
    (d__law_next : Def K mg "_law_next" s__law_next ["_law_dealers", "_law_step"])
    (d__law_many : Def K mg "_law_many" s__law_many ["_law_dealers"])
    (d__law_goes_home : Def K mg "_law_goes_home" s__law_goes_home ["_law_doors_here"])
    (d__law_ends_of : Def K mg "_law_ends_of" s__law_ends_of ["_law_dealers", "_law_forest"])
    (d__law_fraction : Def K mg "_law_fraction" s__law_fraction ["_law_top", "_law_bottom"])
    (d__law_sum : Def K mg "_law_sum" s__law_sum ["_law_one", "_law_other", "_law_sign"])
    (d__law_less : Def K mg "_law_less" s__law_less ["_law_one", "_law_other"])
    (d__law_lead : Def K mg "_law_lead" s__law_lead ["_law_leads", "_law_ends"])
    (d__law_forests : Def K mg "_law_forests" s__law_forests ["_law_dealers"])
    (d__law_right : Def K mg "_law_right" s__law_right ["_law_dealers", "_law_leads", "_law_told", "_law_sums", "_law_due"])
    (d__law_dice : Def K mg "_law_dice" s__law_dice ["_law_script"])
    (d__law_doors : Def K mg "_law_doors" s__law_doors ["_law_dice_here", "_law_houses", "_law_cups", "_law_lead_here"])
    (d__law_dealer : Def K mg "_law_dealer" s__law_dealer ["_law_dice_here", "_law_houses", "_law_cups", "_law_lead_here", "_law_upmost"])
    (d__law_web : Def K mg "_law_web" s__law_web ["_law_dice_here", "_law_lowest", "_law_upmost", "_law_standings"])
    (d__law_small_web : Def K mg "_law_small_web" s__law_small_web ["_law_dice_here", "_law_standings"])
    (d__law_planted : Def K mg "_law_planted" s__law_planted ["_law_dice_here", "_law_dealers"])
    (g_ZERO : Gz K mg "ZERO" 0) (g_ONE : Gz K mg "ONE" 1) (g_MOST_TOP : Gc mg "MOST_TOP" (.int (10 ^ 9))) (g_MOST_BOTTOM : Gc mg "MOST_BOTTOM" (.int (10 ^ 6))) (g_HOME : Gc mg "HOME" (.int (-1))) (g_MOST_STEPS : Gc mg "MOST_STEPS" (.int 6)) (g_MOST_STANDINGS : Gc mg "MOST_STANDINGS" (.int 8)) (g_MOST_CUPS : Gc mg "MOST_CUPS" (.int 6)) (g_MOST_HOUSES : Gc mg "MOST_HOUSES" (.int 8))
    (bl : Blt mg) (cE : ClsF K CE nsE) (cW : ClsF K CW nsW) (cL : ClsF K CL nsL) (cD : ClsF K CD nsD) :
    FnOk P w K mg base CX0 11 f fd ["_law_script"] (spG (Rlaw K)) := by
  have c_common : Cal P w K mg base "common" 1 ["one", "other"] (spG Rcommon) := ok_common d_common bl
  have c_made : Cal P w K mg base "made" 2 ["top", "bottom"] (spG (Rmade K)) := ok_made d_made bl c_common
  have c_whole : Cal P w K mg base "whole" 1 ["number"] (spG (Rwhole K)) := ok_whole d_whole
  have c_plus : Cal P w K mg base "plus" 3 ["one", "other"] (spG (Rplus K)) := ok_plus d_plus c_made
  have c_minus : Cal P w K mg base "minus" 3 ["one", "other"] (spG (Rminus K)) := ok_minus d_minus c_made
  have c_times : Cal P w K mg base "times" 3 ["one", "other"] (spG (Rtimes K)) := ok_times d_times c_made
  have c_over : Cal P w K mg base "over" 3 ["one", "other"] (spG (Rover K)) := ok_over d_over c_made
  have c_with_times : Cal P w K mg base "with_times" 4 ["one", "other", "factor"] (spG (Rwith P w K)) := ok_with d_with_times bl g_ZERO c_plus c_times
  have c_without_noughts : Cal P w K mg base "without_noughts" 1 ["row"] (spG (Rnought K)) := ok_nought d_without_noughts g_ZERO
  have k_Equation : CalI P w K mg base CE "Equation" 1 ["self", "row", "right", "mix"] (spN CE (RinitE K)) := ok_eqinit d_Equation___init__ cE
  have m_CE_less : CalM P w K mg base CE "less" 5 ["self", "other", "factor"] (spG (Rless P w CE K)) := ok_less d_Equation_less cE g_ZERO c_minus c_plus c_times c_with_times k_Equation
  have c_values_of : Cal P w K mg base "values_of" 4 ["heads"] (spG (Rvals CE K)) := ok_values d_values_of bl cE g_ZERO c_minus c_times c_over
  have c_solved : Cal P w K mg base "solved" 6 ["rows", "rights"] (spG (Rsolved P w K)) := ok_solved d_solved bl cE g_ZERO g_ONE c_over c_without_noughts k_Equation m_CE_less c_values_of
  have c_is_number : Cal P w K mg base "is_number" 1 ["thing"] (spG Rnumber) := ok_number d_is_number bl
  have c_is_fraction : Cal P w K mg base "is_fraction" 2 ["thing"] (spG Rfraction) := ok_fraction d_is_fraction bl c_is_number c_common
  have c_is_within : Cal P w K mg base "is_within" 2 ["thing", "least", "most"] (spG Rwithin) := ok_within d_is_within c_is_number
  have c_is_pair : Cal P w K mg base "is_pair" 1 ["thing"] (spG Rpair) := ok_pair d_is_pair bl
  have c_is_triple : Cal P w K mg base "is_triple" 1 ["thing"] (spG Rtriple) := ok_triple d_is_triple bl
  have c_is_rising : Cal P w K mg base "is_rising" 1 ["items"] (spG Rrising) := ok_rising d_is_rising bl
  have c_common_bottom : Cal P w K mg base "common_bottom" 2 ["fractions"] (spG (Rbottom K)) := ok_bottom d_common_bottom bl c_common
  have c_door_at : Cal P w K mg base "door_at" 1 ["web", "step"] (spG (Rdoor CW)) := ok_door d_door_at cW
  have c_next_at : Cal P w K mg base "next_at" 1 ["web", "step"] (spG (Rnext CW)) := ok_next d_next_at cW
  have c_all_steps : Cal P w K mg base "all_steps" 1 ["web"] (spG (Rsteps CW)) := ok_steps d_all_steps bl cW
  have c_worth_name : Cal P w K mg base "worth_name" 1 ["door"] (spG Rworth) := ok_worth d_worth_name
  have c_price_of : Cal P w K mg base "price_of" 1 ["prices", "step"] (spG (Rprice K)) := ok_price d_price_of g_ZERO
  have c_equation_of : Cal P w K mg base "equation_of" 4 ["web", "step"] (spG (Req CW K)) := ok_equation d_equation_of g_ZERO c_worth_name c_door_at c_next_at c_plus c_whole
  have c_looked_for : Cal P w K mg base "looked_for" 7 ["web", "prices"] (spG (Rlook P w K CW)) := ok_look d_looked_for c_all_steps c_price_of c_solved c_equation_of
  have c_table_of : Cal P w K mg base "table_of" 8 ["web", "prices"] (spG (Rtable K CW)) := ok_table d_table_of bl cW g_ZERO c_looked_for c_worth_name
  have c_is_house : Cal P w K mg base "is_house" 3 ["web", "thing"] (spG (Rhouse CW)) := ok_house d_is_house bl cW c_is_within
  have c_is_step : Cal P w K mg base "is_step" 4 ["web", "thing"] (spG (Risstep CW)) := ok_isstep d_is_step bl cW c_is_within c_is_triple c_is_house
  have c_is_price : Cal P w K mg base "is_price" 3 ["thing"] (spG Rprc) := ok_isprice d_is_price bl g_MOST_TOP g_MOST_BOTTOM c_is_fraction
  have c_check_prices : Cal P w K mg base "check_prices" 5 ["web", "thing"] (spG (Rchkp CW)) := ok_chkp d_check_prices bl c_is_step c_is_price
  have c_table_for : Cal P w K mg base "table_for" 9 ["web", "prices"] (spG (Rtabfor K CW)) := ok_tabfor d_table_for c_check_prices c_table_of
  have c_leads_by_step : Cal P w K mg base "leads_by_step" 3 ["web", "told"] (spG (Rleads K CW)) := ok_leads d_leads_by_step c_common_bottom c_all_steps c_next_at
  have m_CL_out_of : CalM P w K mg base CL "out_of" 1 ["self", "lot"] (spG (Rout CL)) := ok_outof d_Lines_out_of bl cL
  have m_CL_lower : CalM P w K mg base CL "lower" 2 ["self", "lot"] (spLow CL) := ok_lower d_Lines_lower bl cL m_CL_out_of
  have k_Lines : CalI P w K mg base CL "Lines" 2 ["self", "web", "weights"] (spLin CL CW) := ok_lineinit d_Lines___init__ bl cL g_HOME c_all_steps c_door_at
  have m_CD_top_with : CalM P w K mg base CD "top_with" 1 ["self", "house"] (spG (Rtop CD CL)) := ok_top d_Drawing_top_with cD
  have m_CD_ring_from : CalM P w K mg base CD "ring_from" 2 ["self", "lot"] (spG (Rring CD CL)) := ok_ring d_Drawing_ring_from cD g_HOME m_CD_top_with
  have m_CD_choose : CalM P w K mg base CD "choose" 3 ["self", "lot"] (spCho CD CL) := ok_choose d_Drawing_choose bl cD cL m_CL_lower m_CD_ring_from
  have m_CD_draw : CalM P w K mg base CD "draw" 4 ["self"] (spDrw CD CL) := ok_draw d_Drawing_draw bl cD m_CD_choose
  have m_CD_lines_chosen : CalM P w K mg base CD "lines_chosen" 1 ["self"] (spG (Rchosen CD CL)) := ok_chosen d_Drawing_lines_chosen bl cD
  have k_Drawing : CalI P w K mg base CD "Drawing" 4 ["self", "web", "weights"] (spDin CD CL CW) := ok_dinit d_Drawing___init__ bl cW cD k_Lines
  have c_heaviest_of : Cal P w K mg base "heaviest_of" 6 ["web", "weights"] (spG (Rheavy CW)) := ok_heavy d_heaviest_of bl cW cD cL k_Drawing m_CD_draw m_CD_lines_chosen
  have c_most_by : Cal P w K mg base "most_by" 7 ["web", "told"] (spG (Rmostby K CW)) := ok_mostby d_most_by c_leads_by_step c_heaviest_of c_made
  have c_least_by : Cal P w K mg base "least_by" 7 ["web", "told"] (spG (Rleastby K CW)) := ok_leastby d_least_by c_leads_by_step c_heaviest_of c_made
  have c_most : Cal P w K mg base "most" 10 ["web", "prices"] (spG (Rmost K CW)) := ok_most d_most c_table_for c_most_by
  have c_least : Cal P w K mg base "least" 10 ["web", "prices"] (spG (Rleast K CW)) := ok_least d_least c_table_for c_least_by
  have c_met_from : Cal P w K mg base "met_from" 1 ["begin", "goals"] (spG Rmet) := ok_met d_met_from bl
  have c_is_standing : Cal P w K mg base "is_standing" 3 ["thing", "cups", "houses", "standings"] (spG Rstand) := ok_stand d_is_standing bl g_MOST_STEPS c_is_pair c_is_within c_is_rising
  have c_is_dealer : Cal P w K mg base "is_dealer" 4 ["thing", "cups", "houses"] (spG Rdealer) := ok_dealer d_is_dealer bl g_MOST_STANDINGS c_is_standing
  have c_is_joined : Cal P w K mg base "is_joined" 2 ["dealer"] (spG Rjoined) := ok_joined d_is_joined bl c_met_from
  have c_doors_of : Cal P w K mg base "doors_of" 1 ["dealers"] (spG Rdoorsof) := ok_doors d_doors_of bl
  have c_check_web : Cal P w K mg base "check_web" 5 ["cups", "dealers"] (spG Rcheck) := ok_check d_check_web bl g_MOST_CUPS g_MOST_HOUSES c_is_within c_is_dealer c_is_joined c_doors_of c_met_from
  have k_Web : CalI P w K mg base CW "Web" 6 ["self", "cups", "dealers"] (spN CW Rwebinit) := ok_webinit d_Web___init__ cW c_check_web
  have c__law_draw : Cal P w K mg base "_law_draw" 1 ["_law_dice_here", "_law_sides"] spDr := ok_draw1 d__law_draw bl
  have c__law_steps : Cal P w K mg base "_law_steps" 1 ["_law_dealers"] (spG Rlsteps) := ok_lsteps d__law_steps bl
  have c__law_door : Cal P w K mg base "_law_door" 1 ["_law_dealers", "_law_step"] (spG Rldoor) := ok_ldoor d__law_door
  have c__law_next : Cal P w K mg base "_law_next" 1 ["_law_dealers", "_law_step"] (spG Rlnext) := ok_lnext d__law_next
  have c__law_many : Cal P w K mg base "_law_many" 1 ["_law_dealers"] (spG Rlmany) := ok_lmany d__law_many bl
  have c__law_goes_home : Cal P w K mg base "_law_goes_home" 1 ["_law_doors_here"] (spG Rlhome) := ok_lhome d__law_goes_home bl
  have c__law_ends_of : Cal P w K mg base "_law_ends_of" 2 ["_law_dealers", "_law_forest"] (spG Rlends) := ok_lends d__law_ends_of bl c__law_next
  have c__law_fraction : Cal P w K mg base "_law_fraction" 1 ["_law_top", "_law_bottom"] (spG Rlfrac) := ok_lfrac d__law_fraction bl
  have c__law_sum : Cal P w K mg base "_law_sum" 2 ["_law_one", "_law_other", "_law_sign"] (spG Rlsum) := ok_lsum d__law_sum c__law_fraction
  have c__law_less : Cal P w K mg base "_law_less" 1 ["_law_one", "_law_other"] (spG Rlless) := ok_lless d__law_less
  have c__law_lead : Cal P w K mg base "_law_lead" 3 ["_law_leads", "_law_ends"] (spG Rllead) := ok_llead d__law_lead bl c__law_sum
  have c__law_forests : Cal P w K mg base "_law_forests" 2 ["_law_dealers"] (spG Rlforests) := ok_lforests d__law_forests bl c__law_steps c__law_door c__law_goes_home
  have c__law_right : Cal P w K mg base "_law_right" 1 ["_law_dealers", "_law_leads", "_law_told", "_law_sums", "_law_due"] (spRight P w [] (fun _ => 0)) := ok_right (D0 := []) (x0 := fun _ => 0) d__law_right bl
  have c__law_dice : Cal P w K mg base "_law_dice" 1 ["_law_script"] (spDice K) := ok_ldice d__law_dice bl
  have c__law_doors : Cal P w K mg base "_law_doors" 2 ["_law_dice_here", "_law_houses", "_law_cups", "_law_lead_here"] spDoors := ok_ldoors d__law_doors bl c__law_draw
  have c__law_dealer : Cal P w K mg base "_law_dealer" 3 ["_law_dice_here", "_law_houses", "_law_cups", "_law_lead_here", "_law_upmost"] spDealer := ok_ldealer d__law_dealer bl c__law_draw c__law_doors
  have c__law_web : Cal P w K mg base "_law_web" 4 ["_law_dice_here", "_law_lowest", "_law_upmost", "_law_standings"] spWeb := ok_lweb d__law_web bl c__law_draw c__law_dealer
  have c__law_small_web : Cal P w K mg base "_law_small_web" 5 ["_law_dice_here", "_law_standings"] spSmall := ok_lsmall d__law_small_web bl c__law_web c__law_many
  have c__law_planted : Cal P w K mg base "_law_planted" 3 ["_law_dice_here", "_law_dealers"] spPlant := ok_lplanted d__law_planted bl c__law_draw c__law_fraction c__law_sum c__law_steps c__law_door c__law_next
  exact ok_law (D0 := []) (x0 := fun _ => 0) F bl c__law_dice c__law_small_web k_Web c__law_planted c__law_forests c__law_lead c__law_ends_of c__law_less c__law_right c_most c_least
end
section
variable {K : PySem.W.Frag} {h : Heap} {mg : Str → Option Value}
theorem def_mk {x : Str} {st : Stmt} {ps : List Str} (X : K.In h) (G : h.Ns mainGlobals mg) {f : Addr} {od an : Option Addr} {sl : Array (Option Value)} {oc kV dc pm cd ct : Value} (a : PySem.W.nsIn K mainGlobals x = some (some (.ref f))) (l : K.lookup f = some ⟨oc, od, .func (PySem.W.fnOf x x (defArgs st) (defBody st) (defScope st) .none kV dc pm an cd ct), sl⟩)
    (c : PySem.W.codeIn K cd x = true) (k : PySem.W.keepIn K (.ref f) = true) (b : ∀ (kV doc pm : Value) (an : Option Addr) (cdv ct : Value) (us : List Value), us.length = ps.length → bindArgs (PySem.W.fnOf x x (defArgs st) (defBody st) (defScope st) .none kV doc pm an cdv ct) ⟨us, []⟩ = pure (ps.zip us)) : Def K mg x st ps :=
  have F := fun_mk (st := st) l c k
  ⟨f, _, F, PySem.W.mg_of X G a, F.binds b⟩
theorem defM_mk {C : Addr} {m q : Str} {st : Stmt} {ps : List Str} (cl : Cls K C) {f : Addr} {od an : Option Addr} {sl : Array (Option Value)} {oc kV dc pm cd ct : Value} (a : PySem.W.findIn K (.ref C) m = some (some (.ref f))) (i : PySem.W.isFn K (.ref f) = true)
    (l : K.lookup f = some ⟨oc, od, .func (PySem.W.fnOf m q (defArgs st) (defBody st) (defScope st) .none kV dc pm an cd ct), sl⟩) (c : PySem.W.codeIn K cd q = true) (k : PySem.W.keepIn K (.ref f) = true)
    (b : ∀ (kV doc pm : Value) (an : Option Addr) (cdv ct : Value) (us : List Value), us.length = ps.length → bindArgs (PySem.W.fnOf m q (defArgs st) (defBody st) (defScope st) .none kV doc pm an cdv ct) ⟨us, []⟩ = pure (ps.zip us)) : DefM K C m q st ps :=
  have F := fun_mk (st := st) l c k
  ⟨⟨f, _, F, ⟨a, i, k⟩, F.binds b⟩, cl⟩
theorem defI_mk {C : Addr} {x q : Str} {st : Stmt} {ps : List Str} (X : K.In h) (G : h.Ns mainGlobals mg) (aC : PySem.W.nsIn K mainGlobals x = some (some (.ref C))) (mk : PySem.W.makesIn K C = true) (kc : PySem.W.keepIn K (.ref C) = true)
    {f : Addr} {od an : Option Addr} {sl : Array (Option Value)} {oc kV dc pm cd ct : Value} (a : PySem.W.findIn K (.ref C) "__init__" = some (some (.ref f))) (i : PySem.W.isFn K (.ref f) = true)
    (l : K.lookup f = some ⟨oc, od, .func (PySem.W.fnOf "__init__" q (defArgs st) (defBody st) (defScope st) .none kV dc pm an cd ct), sl⟩) (c : PySem.W.codeIn K cd q = true) (k : PySem.W.keepIn K (.ref f) = true)
    (b : ∀ (kV doc pm : Value) (an : Option Addr) (cdv ct : Value) (us : List Value), us.length = ps.length → bindArgs (PySem.W.fnOf "__init__" q (defArgs st) (defBody st) (defScope st) .none kV doc pm an cdv ct) ⟨us, []⟩ = pure (ps.zip us)) : DefI K mg C x q st ps :=
  have F := fun_mk (st := st) l c k
  ⟨f, _, F, ⟨mk, a, i, kc⟩, PySem.W.mg_of X G aC, F.binds b⟩
theorem gc_mk {x : Str} {i : Int} {t : Tok} (X : K.In h) (G : h.Ns mainGlobals mg) (a : PySem.W.nsIn K mainGlobals x = some (some (.int i t))) : Gc mg x (.int i) := ⟨_, PySem.W.mg_of X G a, t, rfl⟩
theorem gz_mk {x : Str} {r : Rat} {i j : Int} {d : Addr} {dx : Option Addr} {t u : Tok} {n : Nat} {sl : Array (Option Value)} (X : K.In h) (G : h.Ns mainGlobals mg) (a : PySem.W.nsIn K mainGlobals x = some (some (.ref d))) (l : K.lookup d = some ⟨.type "tuple", dx, .seq #[.int i t, .int j u] n, sl⟩) (e1 : r.num = i) (e2 : (r.den : Int) = j) : Gz K mg x r := by
  subst e1
  subst e2
  exact ⟨.ref d, ⟨_, PySem.W.mg_of X G a, rfl⟩, fun H => ⟨d, rfl, .inr ⟨_, _, _, l, rfl, rfl, (by show 2 ≤ sizeLine; decide), .cons ⟨t, rfl⟩ (.cons ⟨u, rfl⟩ .nil)⟩⟩⟩
theorem no_nil {C : Addr} : ∀ f ∈ ([] : List Str), NoAttr K C f := fun f hf => absurd hf (by simp)
theorem no_cons {C : Addr} {x : Str} {xs : List Str} (a : PySem.W.findIn K (.ref C) x = some none) (b : ∀ f ∈ xs, NoAttr K C f) : ∀ f ∈ x :: xs, NoAttr K C f := fun f hf => by
  cases hf with
  | head => exact a
  | tail _ hf => exact b f hf
theorem cls_mk {C : Addr} {ns : List Str} (pg : PySem.W.plainGet K C Str.empty = true) (hd : PySem.W.hasDictIn K C = true) (po : PySem.W.plainOver K C = true) (sa : PySem.W.findIn K (.ref C) "__setattr__" = some (some (.builtin "object.__setattr__"))) (no : ∀ f ∈ ns, NoAttr K C f) : ClsF K C ns := ⟨⟨pg, hd, po, sa⟩, no⟩
theorem sp_law {H : Hp} {a : Addr} {ns : List Int} {E : XK} (hl : ns.length ≤ 63) (hS : SqL K H a (ns.map V.int)) : spG (Rlaw K) [.ref a] H (fun v _ => v = .bl true) E := ⟨H, [yS K ns], yB true, .mk ns (by omega), Same.refl _, ⟨⟨a, rfl, hS⟩, trivial⟩, fun v B' H' g hv => hv⟩
end
theorem all_mk {P : Program} {w : World} {K : PySem.W.Frag} {h : Heap} {mg : Str → Option Value} {fa : Addr} (X : K.In h) (G : h.Ns mainGlobals mg) (hfa : mg "law" = some (.ref fa)) {CE CW CL CD : Addr}
    (a_CE : PySem.W.nsIn K mainGlobals "Equation" = some (some (.ref CE)))
    (a_CW : PySem.W.nsIn K mainGlobals "Web" = some (some (.ref CW)))
    (a_CL : PySem.W.nsIn K mainGlobals "Lines" = some (some (.ref CL)))
    (a_CD : PySem.W.nsIn K mainGlobals "Drawing" = some (some (.ref CD)))
    (l_CE : ClsF K CE nsE)
    (l_CW : ClsF K CW nsW)
    (l_CL : ClsF K CL nsL)
    (l_CD : ClsF K CD nsD)
    {f : Addr} {od an : Option Addr} {sl : Array (Option Value)} {oc kV dc pm cd ct : Value} (a_law : PySem.W.nsIn K mainGlobals "law" = some (some (.ref f)))
    (o_law : K.lookup f = some ⟨oc, od, .func (PySem.W.fnOf "law" "law" (defArgs s_law) (defBody s_law) (defScope s_law) .none kV dc pm an cd ct), sl⟩) (c_law : PySem.W.codeIn K cd "law" = true) (k_law : PySem.W.keepIn K (.ref f) = true)
    (d_common : Def K mg "common" s_common ["one", "other"])
    (d_made : Def K mg "made" s_made ["top", "bottom"])
    (d_whole : Def K mg "whole" s_whole ["number"])
    (d_plus : Def K mg "plus" s_plus ["one", "other"])
    (d_minus : Def K mg "minus" s_minus ["one", "other"])
    (d_times : Def K mg "times" s_times ["one", "other"])
    (d_over : Def K mg "over" s_over ["one", "other"])
    (d_with_times : Def K mg "with_times" s_with_times ["one", "other", "factor"])
    (d_without_noughts : Def K mg "without_noughts" s_without_noughts ["row"])
    (d_Equation___init__ : DefI K mg CE "Equation" "Equation.__init__" s_Equation___init__ ["self", "row", "right", "mix"])
    (d_Equation_less : DefM K CE "less" "Equation.less" s_Equation_less ["self", "other", "factor"])
    (d_values_of : Def K mg "values_of" s_values_of ["heads"])
    (d_solved : Def K mg "solved" s_solved ["rows", "rights"])
    (d_is_number : Def K mg "is_number" s_is_number ["thing"])
    (d_is_fraction : Def K mg "is_fraction" s_is_fraction ["thing"])
    (d_is_within : Def K mg "is_within" s_is_within ["thing", "least", "most"])
    (d_is_pair : Def K mg "is_pair" s_is_pair ["thing"])
    (d_is_triple : Def K mg "is_triple" s_is_triple ["thing"])
    (d_is_rising : Def K mg "is_rising" s_is_rising ["items"])
    (d_common_bottom : Def K mg "common_bottom" s_common_bottom ["fractions"])
    (d_door_at : Def K mg "door_at" s_door_at ["web", "step"])
    (d_next_at : Def K mg "next_at" s_next_at ["web", "step"])
    (d_all_steps : Def K mg "all_steps" s_all_steps ["web"])
    (d_worth_name : Def K mg "worth_name" s_worth_name ["door"])
    (d_price_of : Def K mg "price_of" s_price_of ["prices", "step"])
    (d_equation_of : Def K mg "equation_of" s_equation_of ["web", "step"])
    (d_looked_for : Def K mg "looked_for" s_looked_for ["web", "prices"])
    (d_table_of : Def K mg "table_of" s_table_of ["web", "prices"])
    (d_is_house : Def K mg "is_house" s_is_house ["web", "thing"])
    (d_is_step : Def K mg "is_step" s_is_step ["web", "thing"])
    (d_is_price : Def K mg "is_price" s_is_price ["thing"])
    (d_check_prices : Def K mg "check_prices" s_check_prices ["web", "thing"])
    (d_table_for : Def K mg "table_for" s_table_for ["web", "prices"])
    (d_leads_by_step : Def K mg "leads_by_step" s_leads_by_step ["web", "told"])
    (d_Lines_out_of : DefM K CL "out_of" "Lines.out_of" s_Lines_out_of ["self", "lot"])
    (d_Lines_lower : DefM K CL "lower" "Lines.lower" s_Lines_lower ["self", "lot"])
    (d_Lines___init__ : DefI K mg CL "Lines" "Lines.__init__" s_Lines___init__ ["self", "web", "weights"])
    (d_Drawing_top_with : DefM K CD "top_with" "Drawing.top_with" s_Drawing_top_with ["self", "house"])
    (d_Drawing_ring_from : DefM K CD "ring_from" "Drawing.ring_from" s_Drawing_ring_from ["self", "lot"])
    (d_Drawing_choose : DefM K CD "choose" "Drawing.choose" s_Drawing_choose ["self", "lot"])
    (d_Drawing_draw : DefM K CD "draw" "Drawing.draw" s_Drawing_draw ["self"])
    (d_Drawing_lines_chosen : DefM K CD "lines_chosen" "Drawing.lines_chosen" s_Drawing_lines_chosen ["self"])
    (d_Drawing___init__ : DefI K mg CD "Drawing" "Drawing.__init__" s_Drawing___init__ ["self", "web", "weights"])
    (d_heaviest_of : Def K mg "heaviest_of" s_heaviest_of ["web", "weights"])
    (d_most_by : Def K mg "most_by" s_most_by ["web", "told"])
    (d_least_by : Def K mg "least_by" s_least_by ["web", "told"])
    (d_most : Def K mg "most" s_most ["web", "prices"])
    (d_least : Def K mg "least" s_least ["web", "prices"])
    (d_met_from : Def K mg "met_from" s_met_from ["begin", "goals"])
    (d_is_standing : Def K mg "is_standing" s_is_standing ["thing", "cups", "houses", "standings"])
    (d_is_dealer : Def K mg "is_dealer" s_is_dealer ["thing", "cups", "houses"])
    (d_is_joined : Def K mg "is_joined" s_is_joined ["dealer"])
    (d_doors_of : Def K mg "doors_of" s_doors_of ["dealers"])
    (d_check_web : Def K mg "check_web" s_check_web ["cups", "dealers"])
    (d_Web___init__ : DefI K mg CW "Web" "Web.__init__" s_Web___init__ ["self", "cups", "dealers"])
    (d__law_draw : Def K mg "_law_draw" s__law_draw ["_law_dice_here", "_law_sides"])
    (d__law_steps : Def K mg "_law_steps" s__law_steps ["_law_dealers"])
    (d__law_door : Def K mg "_law_door" s__law_door ["_law_dealers", "_law_step"])
    (d__law_next : Def K mg "_law_next" s__law_next ["_law_dealers", "_law_step"])
    (d__law_many : Def K mg "_law_many" s__law_many ["_law_dealers"])
    (d__law_goes_home : Def K mg "_law_goes_home" s__law_goes_home ["_law_doors_here"])
    (d__law_ends_of : Def K mg "_law_ends_of" s__law_ends_of ["_law_dealers", "_law_forest"])
    (d__law_fraction : Def K mg "_law_fraction" s__law_fraction ["_law_top", "_law_bottom"])
    (d__law_sum : Def K mg "_law_sum" s__law_sum ["_law_one", "_law_other", "_law_sign"])
    (d__law_less : Def K mg "_law_less" s__law_less ["_law_one", "_law_other"])
    (d__law_lead : Def K mg "_law_lead" s__law_lead ["_law_leads", "_law_ends"])
    (d__law_forests : Def K mg "_law_forests" s__law_forests ["_law_dealers"])
    (d__law_right : Def K mg "_law_right" s__law_right ["_law_dealers", "_law_leads", "_law_told", "_law_sums", "_law_due"])
    (d__law_dice : Def K mg "_law_dice" s__law_dice ["_law_script"])
    (d__law_doors : Def K mg "_law_doors" s__law_doors ["_law_dice_here", "_law_houses", "_law_cups", "_law_lead_here"])
    (d__law_dealer : Def K mg "_law_dealer" s__law_dealer ["_law_dice_here", "_law_houses", "_law_cups", "_law_lead_here", "_law_upmost"])
    (d__law_web : Def K mg "_law_web" s__law_web ["_law_dice_here", "_law_lowest", "_law_upmost", "_law_standings"])
    (d__law_small_web : Def K mg "_law_small_web" s__law_small_web ["_law_dice_here", "_law_standings"])
    (d__law_planted : Def K mg "_law_planted" s__law_planted ["_law_dice_here", "_law_dealers"])
    (g_ZERO : Gz K mg "ZERO" 0)
    (g_ONE : Gz K mg "ONE" 1)
    (g_MOST_TOP : Gc mg "MOST_TOP" (.int (10 ^ 9)))
    (g_MOST_BOTTOM : Gc mg "MOST_BOTTOM" (.int (10 ^ 6)))
    (g_HOME : Gc mg "HOME" (.int (-1)))
    (g_MOST_STEPS : Gc mg "MOST_STEPS" (.int 6))
    (g_MOST_STANDINGS : Gc mg "MOST_STANDINGS" (.int 8))
    (g_MOST_CUPS : Gc mg "MOST_CUPS" (.int 6))
    (g_MOST_HOUSES : Gc mg "MOST_HOUSES" (.int 8))
    (z_isinstance : PySem.W.nsIn K mainGlobals "isinstance" = some none)
    (z_len : PySem.W.nsIn K mainGlobals "len" = some none)
    (z_all : PySem.W.nsIn K mainGlobals "all" = some none)
    (z_abs : PySem.W.nsIn K mainGlobals "abs" = some none)
    (z_dict : PySem.W.nsIn K mainGlobals "dict" = some none)
    (z_min : PySem.W.nsIn K mainGlobals "min" = some none)
    (z_max : PySem.W.nsIn K mainGlobals "max" = some none)
    (z_sorted : PySem.W.nsIn K mainGlobals "sorted" = some none)
    (z_list : PySem.W.nsIn K mainGlobals "list" = some none)
    (z_tuple : PySem.W.nsIn K mainGlobals "tuple" = some none)
    (z_range : PySem.W.nsIn K mainGlobals "range" = some none)
    (z_enumerate : PySem.W.nsIn K mainGlobals "enumerate" = some none)
    (z_reversed : PySem.W.nsIn K mainGlobals "reversed" = some none)
    (z_sum : PySem.W.nsIn K mainGlobals "sum" = some none)
    (z_int : PySem.W.nsIn K mainGlobals "int" = some none)
    (z_bool : PySem.W.nsIn K mainGlobals "bool" = some none)
    : ∃ fd : FuncData, (∀ (s : Shared) (v : Value), BindsTo s fd ⟨[v], []⟩ [("_law_script", v)]) ∧ ∀ base : Heap, K.In base → base.Ns mainGlobals mg → FnOk P w K mg base CX0 11 fa fd ["_law_script"] (spG (Rlaw K)) := by
  have e := hfa.symm.trans (PySem.W.mg_of X G a_law)
  cases e
  have F := fun_mk (st := s_law) o_law c_law k_law
  exact ⟨PySem.W.fnOf "law" "law" (defArgs s_law) (defBody s_law) (defScope s_law) .none kV dc pm an cd ct, fun s v => .of_eq rfl, fun base _ _ => all_law F d_common d_made d_whole d_plus d_minus d_times d_over d_with_times d_without_noughts d_Equation___init__ d_Equation_less d_values_of d_solved d_is_number d_is_fraction d_is_within d_is_pair d_is_triple d_is_rising d_common_bottom d_door_at d_next_at d_all_steps d_worth_name d_price_of d_equation_of d_looked_for d_table_of d_is_house d_is_step d_is_price d_check_prices d_table_for d_leads_by_step d_Lines_out_of d_Lines_lower d_Lines___init__ d_Drawing_top_with d_Drawing_ring_from d_Drawing_choose d_Drawing_draw d_Drawing_lines_chosen d_Drawing___init__ d_heaviest_of d_most_by d_least_by d_most d_least d_met_from d_is_standing d_is_dealer d_is_joined d_doors_of d_check_web d_Web___init__ d__law_draw d__law_steps d__law_door d__law_next d__law_many d__law_goes_home d__law_ends_of d__law_fraction d__law_sum d__law_less d__law_lead d__law_forests d__law_right d__law_dice d__law_doors d__law_dealer d__law_web d__law_small_web d__law_planted g_ZERO g_ONE g_MOST_TOP g_MOST_BOTTOM g_HOME g_MOST_STEPS g_MOST_STANDINGS g_MOST_CUPS g_MOST_HOUSES ⟨PySem.W.mg_none_of X G z_isinstance, PySem.W.mg_none_of X G z_len, PySem.W.mg_none_of X G z_all, PySem.W.mg_none_of X G z_abs, PySem.W.mg_none_of X G z_dict, PySem.W.mg_none_of X G z_min, PySem.W.mg_none_of X G z_max, PySem.W.mg_none_of X G z_sorted, PySem.W.mg_none_of X G z_list, PySem.W.mg_none_of X G z_tuple, PySem.W.mg_none_of X G z_range, PySem.W.mg_none_of X G z_enumerate, PySem.W.mg_none_of X G z_reversed, PySem.W.mg_none_of X G z_sum, PySem.W.mg_none_of X G z_int, PySem.W.mg_none_of X G z_bool⟩ l_CE l_CW l_CL l_CD⟩
end LD
/-! LdEnd: the theorem -/
open PySem PySem.W PyProof.Rows
set_option maxRecDepth 100000 in
set_option maxHeartbeats 0 in
theorem PySem.Challenge.cw_lastdoors_k45_whole_most_and_least_of_en_holds : PySem.Challenge.rw_lastdoors_k45_whole_most_and_least_of_en.Holds := by
  w_on; o_law; k_head; (case hw => w_witness2)
  k_fill
  refine L2.walk_of (l := PySem.Challenge.rw_lastdoors_k45_whole_most_and_least_of_en) (n := 63) (k := 11) (x := "_law_script") (CX := fun _ => L2.CX0) (sp := fun w => LD.spG (LD.Rlaw _)) rfl (by decide) rfl ⟨rfl, by decide, by decide⟩ (fun w h Y => PySem.W.kIn_of Y) ?F (fun _ _ a ns hl _ hS => LD.sp_law hl hS) (fun _ _ _ _ _ h => h)
  case F =>
    intro w mg fa h KX G hmg
    refine' LD.all_mk KX G hmg ?a_CE ?a_CW ?a_CL ?a_CD ?l_CE ?l_CW ?l_CL ?l_CD ?a_law ?o_law ?c_law ?k_law ?d_common ?d_made ?d_whole ?d_plus ?d_minus ?d_times ?d_over ?d_with_times ?d_without_noughts ?d_Equation___init__ ?d_Equation_less ?d_values_of ?d_solved ?d_is_number ?d_is_fraction ?d_is_within ?d_is_pair ?d_is_triple ?d_is_rising ?d_common_bottom ?d_door_at ?d_next_at ?d_all_steps ?d_worth_name ?d_price_of ?d_equation_of ?d_looked_for ?d_table_of ?d_is_house ?d_is_step ?d_is_price ?d_check_prices ?d_table_for ?d_leads_by_step ?d_Lines_out_of ?d_Lines_lower ?d_Lines___init__ ?d_Drawing_top_with ?d_Drawing_ring_from ?d_Drawing_choose ?d_Drawing_draw ?d_Drawing_lines_chosen ?d_Drawing___init__ ?d_heaviest_of ?d_most_by ?d_least_by ?d_most ?d_least ?d_met_from ?d_is_standing ?d_is_dealer ?d_is_joined ?d_doors_of ?d_check_web ?d_Web___init__ ?d__law_draw ?d__law_steps ?d__law_door ?d__law_next ?d__law_many ?d__law_goes_home ?d__law_ends_of ?d__law_fraction ?d__law_sum ?d__law_less ?d__law_lead ?d__law_forests ?d__law_right ?d__law_dice ?d__law_doors ?d__law_dealer ?d__law_web ?d__law_small_web ?d__law_planted ?g_ZERO ?g_ONE ?g_MOST_TOP ?g_MOST_BOTTOM ?g_HOME ?g_MOST_STEPS ?g_MOST_STANDINGS ?g_MOST_CUPS ?g_MOST_HOUSES ?z_isinstance ?z_len ?z_all ?z_abs ?z_dict ?z_min ?z_max ?z_sorted ?z_list ?z_tuple ?z_range ?z_enumerate ?z_reversed ?z_sum ?z_int ?z_bool
    (case a_CE => k_is); (case a_CW => k_is); (case a_CL => k_is); (case a_CD => k_is)
    (case l_CE => (refine' LD.cls_mk ?pg ?hd ?po ?sa (LD.no_cons ?n1 (LD.no_cons ?n2 (LD.no_cons ?n3 LD.no_nil))); (case pg => k_is); (case hd => k_is); (case po => k_is); (case sa => k_is); (case n1 => k_is); (case n2 => k_is); (case n3 => k_is)))
    (case l_CW => (refine' LD.cls_mk ?pg ?hd ?po ?sa (LD.no_cons ?n1 (LD.no_cons ?n2 LD.no_nil)); (case pg => k_is); (case hd => k_is); (case po => k_is); (case sa => k_is); (case n1 => k_is); (case n2 => k_is)))
    (case l_CL => (refine' LD.cls_mk ?pg ?hd ?po ?sa (LD.no_cons ?n1 (LD.no_cons ?n2 LD.no_nil)); (case pg => k_is); (case hd => k_is); (case po => k_is); (case sa => k_is); (case n1 => k_is); (case n2 => k_is)))
    (case l_CD => (refine' LD.cls_mk ?pg ?hd ?po ?sa (LD.no_cons ?n1 (LD.no_cons ?n2 (LD.no_cons ?n3 (LD.no_cons ?n4 (LD.no_cons ?n5 LD.no_nil))))); (case pg => k_is); (case hd => k_is); (case po => k_is); (case sa => k_is); (case n1 => k_is); (case n2 => k_is); (case n3 => k_is); (case n4 => k_is); (case n5 => k_is)))
    (case a_law => k_is); (case o_law => k_is); (case c_law => k_is); (case k_law => k_is)
    (case d_common => (refine' LD.def_mk KX G ?a ?l ?c ?k ?b; (case a => k_is); (case l => k_is); (case c => k_is); (case k => k_is); (case b => exact fun _ _ _ _ _ _ us hl => match us, hl with | [_, _], _ => rfl)))
    (case d_made => (refine' LD.def_mk KX G ?a ?l ?c ?k ?b; (case a => k_is); (case l => k_is); (case c => k_is); (case k => k_is); (case b => exact fun _ _ _ _ _ _ us hl => match us, hl with | [_, _], _ => rfl)))
    (case d_whole => (refine' LD.def_mk KX G ?a ?l ?c ?k ?b; (case a => k_is); (case l => k_is); (case c => k_is); (case k => k_is); (case b => exact fun _ _ _ _ _ _ us hl => match us, hl with | [_], _ => rfl)))
    (case d_plus => (refine' LD.def_mk KX G ?a ?l ?c ?k ?b; (case a => k_is); (case l => k_is); (case c => k_is); (case k => k_is); (case b => exact fun _ _ _ _ _ _ us hl => match us, hl with | [_, _], _ => rfl)))
    (case d_minus => (refine' LD.def_mk KX G ?a ?l ?c ?k ?b; (case a => k_is); (case l => k_is); (case c => k_is); (case k => k_is); (case b => exact fun _ _ _ _ _ _ us hl => match us, hl with | [_, _], _ => rfl)))
    (case d_times => (refine' LD.def_mk KX G ?a ?l ?c ?k ?b; (case a => k_is); (case l => k_is); (case c => k_is); (case k => k_is); (case b => exact fun _ _ _ _ _ _ us hl => match us, hl with | [_, _], _ => rfl)))
    (case d_over => (refine' LD.def_mk KX G ?a ?l ?c ?k ?b; (case a => k_is); (case l => k_is); (case c => k_is); (case k => k_is); (case b => exact fun _ _ _ _ _ _ us hl => match us, hl with | [_, _], _ => rfl)))
    (case d_with_times => (refine' LD.def_mk KX G ?a ?l ?c ?k ?b; (case a => k_is); (case l => k_is); (case c => k_is); (case k => k_is); (case b => exact fun _ _ _ _ _ _ us hl => match us, hl with | [_, _, _], _ => rfl)))
    (case d_without_noughts => (refine' LD.def_mk KX G ?a ?l ?c ?k ?b; (case a => k_is); (case l => k_is); (case c => k_is); (case k => k_is); (case b => exact fun _ _ _ _ _ _ us hl => match us, hl with | [_], _ => rfl)))
    (case d_Equation___init__ => (refine' LD.defI_mk KX G ?aC ?mk ?kc ?a ?i ?l ?c ?k ?b; (case aC => k_is); (case mk => k_is); (case kc => k_is); (case a => k_is); (case i => k_is); (case l => k_is); (case c => k_is); (case k => k_is); (case b => exact fun _ _ _ _ _ _ us hl => match us, hl with | [_, _, _, _], _ => rfl)))
    (case d_Equation_less => (refine' LD.defM_mk ?cl ?a ?i ?l ?c ?k ?b; (case cl => (refine' ⟨?pg, ?hd, ?po, ?sa⟩; (case pg => k_is); (case hd => k_is); (case po => k_is); (case sa => k_is))); (case a => k_is); (case i => k_is); (case l => k_is); (case c => k_is); (case k => k_is); (case b => exact fun _ _ _ _ _ _ us hl => match us, hl with | [_, _, _], _ => rfl)))
    (case d_values_of => (refine' LD.def_mk KX G ?a ?l ?c ?k ?b; (case a => k_is); (case l => k_is); (case c => k_is); (case k => k_is); (case b => exact fun _ _ _ _ _ _ us hl => match us, hl with | [_], _ => rfl)))
    (case d_solved => (refine' LD.def_mk KX G ?a ?l ?c ?k ?b; (case a => k_is); (case l => k_is); (case c => k_is); (case k => k_is); (case b => exact fun _ _ _ _ _ _ us hl => match us, hl with | [_, _], _ => rfl)))
    (case d_is_number => (refine' LD.def_mk KX G ?a ?l ?c ?k ?b; (case a => k_is); (case l => k_is); (case c => k_is); (case k => k_is); (case b => exact fun _ _ _ _ _ _ us hl => match us, hl with | [_], _ => rfl)))
    (case d_is_fraction => (refine' LD.def_mk KX G ?a ?l ?c ?k ?b; (case a => k_is); (case l => k_is); (case c => k_is); (case k => k_is); (case b => exact fun _ _ _ _ _ _ us hl => match us, hl with | [_], _ => rfl)))
    (case d_is_within => (refine' LD.def_mk KX G ?a ?l ?c ?k ?b; (case a => k_is); (case l => k_is); (case c => k_is); (case k => k_is); (case b => exact fun _ _ _ _ _ _ us hl => match us, hl with | [_, _, _], _ => rfl)))
    (case d_is_pair => (refine' LD.def_mk KX G ?a ?l ?c ?k ?b; (case a => k_is); (case l => k_is); (case c => k_is); (case k => k_is); (case b => exact fun _ _ _ _ _ _ us hl => match us, hl with | [_], _ => rfl)))
    (case d_is_triple => (refine' LD.def_mk KX G ?a ?l ?c ?k ?b; (case a => k_is); (case l => k_is); (case c => k_is); (case k => k_is); (case b => exact fun _ _ _ _ _ _ us hl => match us, hl with | [_], _ => rfl)))
    (case d_is_rising => (refine' LD.def_mk KX G ?a ?l ?c ?k ?b; (case a => k_is); (case l => k_is); (case c => k_is); (case k => k_is); (case b => exact fun _ _ _ _ _ _ us hl => match us, hl with | [_], _ => rfl)))
    (case d_common_bottom => (refine' LD.def_mk KX G ?a ?l ?c ?k ?b; (case a => k_is); (case l => k_is); (case c => k_is); (case k => k_is); (case b => exact fun _ _ _ _ _ _ us hl => match us, hl with | [_], _ => rfl)))
    (case d_door_at => (refine' LD.def_mk KX G ?a ?l ?c ?k ?b; (case a => k_is); (case l => k_is); (case c => k_is); (case k => k_is); (case b => exact fun _ _ _ _ _ _ us hl => match us, hl with | [_, _], _ => rfl)))
    (case d_next_at => (refine' LD.def_mk KX G ?a ?l ?c ?k ?b; (case a => k_is); (case l => k_is); (case c => k_is); (case k => k_is); (case b => exact fun _ _ _ _ _ _ us hl => match us, hl with | [_, _], _ => rfl)))
    (case d_all_steps => (refine' LD.def_mk KX G ?a ?l ?c ?k ?b; (case a => k_is); (case l => k_is); (case c => k_is); (case k => k_is); (case b => exact fun _ _ _ _ _ _ us hl => match us, hl with | [_], _ => rfl)))
    (case d_worth_name => (refine' LD.def_mk KX G ?a ?l ?c ?k ?b; (case a => k_is); (case l => k_is); (case c => k_is); (case k => k_is); (case b => exact fun _ _ _ _ _ _ us hl => match us, hl with | [_], _ => rfl)))
    (case d_price_of => (refine' LD.def_mk KX G ?a ?l ?c ?k ?b; (case a => k_is); (case l => k_is); (case c => k_is); (case k => k_is); (case b => exact fun _ _ _ _ _ _ us hl => match us, hl with | [_, _], _ => rfl)))
    (case d_equation_of => (refine' LD.def_mk KX G ?a ?l ?c ?k ?b; (case a => k_is); (case l => k_is); (case c => k_is); (case k => k_is); (case b => exact fun _ _ _ _ _ _ us hl => match us, hl with | [_, _], _ => rfl)))
    (case d_looked_for => (refine' LD.def_mk KX G ?a ?l ?c ?k ?b; (case a => k_is); (case l => k_is); (case c => k_is); (case k => k_is); (case b => exact fun _ _ _ _ _ _ us hl => match us, hl with | [_, _], _ => rfl)))
    (case d_table_of => (refine' LD.def_mk KX G ?a ?l ?c ?k ?b; (case a => k_is); (case l => k_is); (case c => k_is); (case k => k_is); (case b => exact fun _ _ _ _ _ _ us hl => match us, hl with | [_, _], _ => rfl)))
    (case d_is_house => (refine' LD.def_mk KX G ?a ?l ?c ?k ?b; (case a => k_is); (case l => k_is); (case c => k_is); (case k => k_is); (case b => exact fun _ _ _ _ _ _ us hl => match us, hl with | [_, _], _ => rfl)))
    (case d_is_step => (refine' LD.def_mk KX G ?a ?l ?c ?k ?b; (case a => k_is); (case l => k_is); (case c => k_is); (case k => k_is); (case b => exact fun _ _ _ _ _ _ us hl => match us, hl with | [_, _], _ => rfl)))
    (case d_is_price => (refine' LD.def_mk KX G ?a ?l ?c ?k ?b; (case a => k_is); (case l => k_is); (case c => k_is); (case k => k_is); (case b => exact fun _ _ _ _ _ _ us hl => match us, hl with | [_], _ => rfl)))
    (case d_check_prices => (refine' LD.def_mk KX G ?a ?l ?c ?k ?b; (case a => k_is); (case l => k_is); (case c => k_is); (case k => k_is); (case b => exact fun _ _ _ _ _ _ us hl => match us, hl with | [_, _], _ => rfl)))
    (case d_table_for => (refine' LD.def_mk KX G ?a ?l ?c ?k ?b; (case a => k_is); (case l => k_is); (case c => k_is); (case k => k_is); (case b => exact fun _ _ _ _ _ _ us hl => match us, hl with | [_, _], _ => rfl)))
    (case d_leads_by_step => (refine' LD.def_mk KX G ?a ?l ?c ?k ?b; (case a => k_is); (case l => k_is); (case c => k_is); (case k => k_is); (case b => exact fun _ _ _ _ _ _ us hl => match us, hl with | [_, _], _ => rfl)))
    (case d_Lines_out_of => (refine' LD.defM_mk ?cl ?a ?i ?l ?c ?k ?b; (case cl => (refine' ⟨?pg, ?hd, ?po, ?sa⟩; (case pg => k_is); (case hd => k_is); (case po => k_is); (case sa => k_is))); (case a => k_is); (case i => k_is); (case l => k_is); (case c => k_is); (case k => k_is); (case b => exact fun _ _ _ _ _ _ us hl => match us, hl with | [_, _], _ => rfl)))
    (case d_Lines_lower => (refine' LD.defM_mk ?cl ?a ?i ?l ?c ?k ?b; (case cl => (refine' ⟨?pg, ?hd, ?po, ?sa⟩; (case pg => k_is); (case hd => k_is); (case po => k_is); (case sa => k_is))); (case a => k_is); (case i => k_is); (case l => k_is); (case c => k_is); (case k => k_is); (case b => exact fun _ _ _ _ _ _ us hl => match us, hl with | [_, _], _ => rfl)))
    (case d_Lines___init__ => (refine' LD.defI_mk KX G ?aC ?mk ?kc ?a ?i ?l ?c ?k ?b; (case aC => k_is); (case mk => k_is); (case kc => k_is); (case a => k_is); (case i => k_is); (case l => k_is); (case c => k_is); (case k => k_is); (case b => exact fun _ _ _ _ _ _ us hl => match us, hl with | [_, _, _], _ => rfl)))
    (case d_Drawing_top_with => (refine' LD.defM_mk ?cl ?a ?i ?l ?c ?k ?b; (case cl => (refine' ⟨?pg, ?hd, ?po, ?sa⟩; (case pg => k_is); (case hd => k_is); (case po => k_is); (case sa => k_is))); (case a => k_is); (case i => k_is); (case l => k_is); (case c => k_is); (case k => k_is); (case b => exact fun _ _ _ _ _ _ us hl => match us, hl with | [_, _], _ => rfl)))
    (case d_Drawing_ring_from => (refine' LD.defM_mk ?cl ?a ?i ?l ?c ?k ?b; (case cl => (refine' ⟨?pg, ?hd, ?po, ?sa⟩; (case pg => k_is); (case hd => k_is); (case po => k_is); (case sa => k_is))); (case a => k_is); (case i => k_is); (case l => k_is); (case c => k_is); (case k => k_is); (case b => exact fun _ _ _ _ _ _ us hl => match us, hl with | [_, _], _ => rfl)))
    (case d_Drawing_choose => (refine' LD.defM_mk ?cl ?a ?i ?l ?c ?k ?b; (case cl => (refine' ⟨?pg, ?hd, ?po, ?sa⟩; (case pg => k_is); (case hd => k_is); (case po => k_is); (case sa => k_is))); (case a => k_is); (case i => k_is); (case l => k_is); (case c => k_is); (case k => k_is); (case b => exact fun _ _ _ _ _ _ us hl => match us, hl with | [_, _], _ => rfl)))
    (case d_Drawing_draw => (refine' LD.defM_mk ?cl ?a ?i ?l ?c ?k ?b; (case cl => (refine' ⟨?pg, ?hd, ?po, ?sa⟩; (case pg => k_is); (case hd => k_is); (case po => k_is); (case sa => k_is))); (case a => k_is); (case i => k_is); (case l => k_is); (case c => k_is); (case k => k_is); (case b => exact fun _ _ _ _ _ _ us hl => match us, hl with | [_], _ => rfl)))
    (case d_Drawing_lines_chosen => (refine' LD.defM_mk ?cl ?a ?i ?l ?c ?k ?b; (case cl => (refine' ⟨?pg, ?hd, ?po, ?sa⟩; (case pg => k_is); (case hd => k_is); (case po => k_is); (case sa => k_is))); (case a => k_is); (case i => k_is); (case l => k_is); (case c => k_is); (case k => k_is); (case b => exact fun _ _ _ _ _ _ us hl => match us, hl with | [_], _ => rfl)))
    (case d_Drawing___init__ => (refine' LD.defI_mk KX G ?aC ?mk ?kc ?a ?i ?l ?c ?k ?b; (case aC => k_is); (case mk => k_is); (case kc => k_is); (case a => k_is); (case i => k_is); (case l => k_is); (case c => k_is); (case k => k_is); (case b => exact fun _ _ _ _ _ _ us hl => match us, hl with | [_, _, _], _ => rfl)))
    (case d_heaviest_of => (refine' LD.def_mk KX G ?a ?l ?c ?k ?b; (case a => k_is); (case l => k_is); (case c => k_is); (case k => k_is); (case b => exact fun _ _ _ _ _ _ us hl => match us, hl with | [_, _], _ => rfl)))
    (case d_most_by => (refine' LD.def_mk KX G ?a ?l ?c ?k ?b; (case a => k_is); (case l => k_is); (case c => k_is); (case k => k_is); (case b => exact fun _ _ _ _ _ _ us hl => match us, hl with | [_, _], _ => rfl)))
    (case d_least_by => (refine' LD.def_mk KX G ?a ?l ?c ?k ?b; (case a => k_is); (case l => k_is); (case c => k_is); (case k => k_is); (case b => exact fun _ _ _ _ _ _ us hl => match us, hl with | [_, _], _ => rfl)))
    (case d_most => (refine' LD.def_mk KX G ?a ?l ?c ?k ?b; (case a => k_is); (case l => k_is); (case c => k_is); (case k => k_is); (case b => exact fun _ _ _ _ _ _ us hl => match us, hl with | [_, _], _ => rfl)))
    (case d_least => (refine' LD.def_mk KX G ?a ?l ?c ?k ?b; (case a => k_is); (case l => k_is); (case c => k_is); (case k => k_is); (case b => exact fun _ _ _ _ _ _ us hl => match us, hl with | [_, _], _ => rfl)))
    (case d_met_from => (refine' LD.def_mk KX G ?a ?l ?c ?k ?b; (case a => k_is); (case l => k_is); (case c => k_is); (case k => k_is); (case b => exact fun _ _ _ _ _ _ us hl => match us, hl with | [_, _], _ => rfl)))
    (case d_is_standing => (refine' LD.def_mk KX G ?a ?l ?c ?k ?b; (case a => k_is); (case l => k_is); (case c => k_is); (case k => k_is); (case b => exact fun _ _ _ _ _ _ us hl => match us, hl with | [_, _, _, _], _ => rfl)))
    (case d_is_dealer => (refine' LD.def_mk KX G ?a ?l ?c ?k ?b; (case a => k_is); (case l => k_is); (case c => k_is); (case k => k_is); (case b => exact fun _ _ _ _ _ _ us hl => match us, hl with | [_, _, _], _ => rfl)))
    (case d_is_joined => (refine' LD.def_mk KX G ?a ?l ?c ?k ?b; (case a => k_is); (case l => k_is); (case c => k_is); (case k => k_is); (case b => exact fun _ _ _ _ _ _ us hl => match us, hl with | [_], _ => rfl)))
    (case d_doors_of => (refine' LD.def_mk KX G ?a ?l ?c ?k ?b; (case a => k_is); (case l => k_is); (case c => k_is); (case k => k_is); (case b => exact fun _ _ _ _ _ _ us hl => match us, hl with | [_], _ => rfl)))
    (case d_check_web => (refine' LD.def_mk KX G ?a ?l ?c ?k ?b; (case a => k_is); (case l => k_is); (case c => k_is); (case k => k_is); (case b => exact fun _ _ _ _ _ _ us hl => match us, hl with | [_, _], _ => rfl)))
    (case d_Web___init__ => (refine' LD.defI_mk KX G ?aC ?mk ?kc ?a ?i ?l ?c ?k ?b; (case aC => k_is); (case mk => k_is); (case kc => k_is); (case a => k_is); (case i => k_is); (case l => k_is); (case c => k_is); (case k => k_is); (case b => exact fun _ _ _ _ _ _ us hl => match us, hl with | [_, _, _], _ => rfl)))
    (case d__law_draw => (refine' LD.def_mk KX G ?a ?l ?c ?k ?b; (case a => k_is); (case l => k_is); (case c => k_is); (case k => k_is); (case b => exact fun _ _ _ _ _ _ us hl => match us, hl with | [_, _], _ => rfl)))
    (case d__law_steps => (refine' LD.def_mk KX G ?a ?l ?c ?k ?b; (case a => k_is); (case l => k_is); (case c => k_is); (case k => k_is); (case b => exact fun _ _ _ _ _ _ us hl => match us, hl with | [_], _ => rfl)))
    (case d__law_door => (refine' LD.def_mk KX G ?a ?l ?c ?k ?b; (case a => k_is); (case l => k_is); (case c => k_is); (case k => k_is); (case b => exact fun _ _ _ _ _ _ us hl => match us, hl with | [_, _], _ => rfl)))
    (case d__law_next => (refine' LD.def_mk KX G ?a ?l ?c ?k ?b; (case a => k_is); (case l => k_is); (case c => k_is); (case k => k_is); (case b => exact fun _ _ _ _ _ _ us hl => match us, hl with | [_, _], _ => rfl)))
    (case d__law_many => (refine' LD.def_mk KX G ?a ?l ?c ?k ?b; (case a => k_is); (case l => k_is); (case c => k_is); (case k => k_is); (case b => exact fun _ _ _ _ _ _ us hl => match us, hl with | [_], _ => rfl)))
    (case d__law_goes_home => (refine' LD.def_mk KX G ?a ?l ?c ?k ?b; (case a => k_is); (case l => k_is); (case c => k_is); (case k => k_is); (case b => exact fun _ _ _ _ _ _ us hl => match us, hl with | [_], _ => rfl)))
    (case d__law_ends_of => (refine' LD.def_mk KX G ?a ?l ?c ?k ?b; (case a => k_is); (case l => k_is); (case c => k_is); (case k => k_is); (case b => exact fun _ _ _ _ _ _ us hl => match us, hl with | [_, _], _ => rfl)))
    (case d__law_fraction => (refine' LD.def_mk KX G ?a ?l ?c ?k ?b; (case a => k_is); (case l => k_is); (case c => k_is); (case k => k_is); (case b => exact fun _ _ _ _ _ _ us hl => match us, hl with | [_, _], _ => rfl)))
    (case d__law_sum => (refine' LD.def_mk KX G ?a ?l ?c ?k ?b; (case a => k_is); (case l => k_is); (case c => k_is); (case k => k_is); (case b => exact fun _ _ _ _ _ _ us hl => match us, hl with | [_, _, _], _ => rfl)))
    (case d__law_less => (refine' LD.def_mk KX G ?a ?l ?c ?k ?b; (case a => k_is); (case l => k_is); (case c => k_is); (case k => k_is); (case b => exact fun _ _ _ _ _ _ us hl => match us, hl with | [_, _], _ => rfl)))
    (case d__law_lead => (refine' LD.def_mk KX G ?a ?l ?c ?k ?b; (case a => k_is); (case l => k_is); (case c => k_is); (case k => k_is); (case b => exact fun _ _ _ _ _ _ us hl => match us, hl with | [_, _], _ => rfl)))
    (case d__law_forests => (refine' LD.def_mk KX G ?a ?l ?c ?k ?b; (case a => k_is); (case l => k_is); (case c => k_is); (case k => k_is); (case b => exact fun _ _ _ _ _ _ us hl => match us, hl with | [_], _ => rfl)))
    (case d__law_right => (refine' LD.def_mk KX G ?a ?l ?c ?k ?b; (case a => k_is); (case l => k_is); (case c => k_is); (case k => k_is); (case b => exact fun _ _ _ _ _ _ us hl => match us, hl with | [_, _, _, _, _], _ => rfl)))
    (case d__law_dice => (refine' LD.def_mk KX G ?a ?l ?c ?k ?b; (case a => k_is); (case l => k_is); (case c => k_is); (case k => k_is); (case b => exact fun _ _ _ _ _ _ us hl => match us, hl with | [_], _ => rfl)))
    (case d__law_doors => (refine' LD.def_mk KX G ?a ?l ?c ?k ?b; (case a => k_is); (case l => k_is); (case c => k_is); (case k => k_is); (case b => exact fun _ _ _ _ _ _ us hl => match us, hl with | [_, _, _, _], _ => rfl)))
    (case d__law_dealer => (refine' LD.def_mk KX G ?a ?l ?c ?k ?b; (case a => k_is); (case l => k_is); (case c => k_is); (case k => k_is); (case b => exact fun _ _ _ _ _ _ us hl => match us, hl with | [_, _, _, _, _], _ => rfl)))
    (case d__law_web => (refine' LD.def_mk KX G ?a ?l ?c ?k ?b; (case a => k_is); (case l => k_is); (case c => k_is); (case k => k_is); (case b => exact fun _ _ _ _ _ _ us hl => match us, hl with | [_, _, _, _], _ => rfl)))
    (case d__law_small_web => (refine' LD.def_mk KX G ?a ?l ?c ?k ?b; (case a => k_is); (case l => k_is); (case c => k_is); (case k => k_is); (case b => exact fun _ _ _ _ _ _ us hl => match us, hl with | [_, _], _ => rfl)))
    (case d__law_planted => (refine' LD.def_mk KX G ?a ?l ?c ?k ?b; (case a => k_is); (case l => k_is); (case c => k_is); (case k => k_is); (case b => exact fun _ _ _ _ _ _ us hl => match us, hl with | [_, _], _ => rfl)))
    (case g_ZERO => (refine' LD.gz_mk KX G ?a ?l ?e1 ?e2; (case a => k_is); (case l => k_is); (case e1 => rfl); (case e2 => rfl)))
    (case g_ONE => (refine' LD.gz_mk KX G ?a ?l ?e1 ?e2; (case a => k_is); (case l => k_is); (case e1 => rfl); (case e2 => rfl)))
    (case g_MOST_TOP => (refine' LD.gc_mk KX G ?a; (case a => k_is)))
    (case g_MOST_BOTTOM => (refine' LD.gc_mk KX G ?a; (case a => k_is)))
    (case g_HOME => (refine' LD.gc_mk KX G ?a; (case a => k_is)))
    (case g_MOST_STEPS => (refine' LD.gc_mk KX G ?a; (case a => k_is)))
    (case g_MOST_STANDINGS => (refine' LD.gc_mk KX G ?a; (case a => k_is)))
    (case g_MOST_CUPS => (refine' LD.gc_mk KX G ?a; (case a => k_is)))
    (case g_MOST_HOUSES => (refine' LD.gc_mk KX G ?a; (case a => k_is)))
    (case z_isinstance => k_is)
    (case z_len => k_is)
    (case z_all => k_is)
    (case z_abs => k_is)
    (case z_dict => k_is)
    (case z_min => k_is)
    (case z_max => k_is)
    (case z_sorted => k_is)
    (case z_list => k_is)
    (case z_tuple => k_is)
    (case z_range => k_is)
    (case z_enumerate => k_is)
    (case z_reversed => k_is)
    (case z_sum => k_is)
    (case z_int => k_is)
    (case z_bool => k_is)
